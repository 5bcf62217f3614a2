import PyProof.Rows.All
import Wide.All
import OpenK.AllK
import Wide.FinOn
import HandS.ForMost
import HandS.Defaults
import HandS.More
import HandS.Exc
import HandS.HeadHook4
import HandS.Lambda
import HandS.IsInst
import HandS.RaiseMore
import PyProof.ReprRoads
import HandS.WordsExc
import HandS.Head0
import HandS.Head1
import HandS.Head2
import HandS.HeadEnd
import HandS.HeadHook1
import HandS.HeadHook2
import HandS.HeadHook3
import HandS.MakeKwOnly
import HandS.ExcInit
import HandS.TryMany
import HandS.ExcField
import HandS.Dict
import HandS.EndTab
import PyProof.ReprLen
import PyProof.P3Eq
import HandS.Small
import HandS.ExcIs
import KE.KExcIs
import HandS.Set
import HandS.Strs
import HandS.AnyAll
import HandS.Text
import HandS.Conv
import KE.GoesEnum
import HandS.DictComp
import HandS.Deep
import HandS.Iter
import HandS.WideBits
import HandS.Sort
import HandS.Nested
import PyProof.RangeIter
import PyProof.WalksMore
import HandS.FStr
import PySem.Challenge.RW_knitrows_k42_writing_refused
set_option Elab.async false
set_option linter.all false
set_option maxRecDepth 100000
set_option maxHeartbeats 8000000
/-! Sa: data over the hand layer: what a value denotes, states by data, the judgements. -/
namespace SL
open PySem L2

/-- data -/
inductive D where
  | non | bl (b : Bool) | int (i : Int) | str (x : Str) | lst (xs : List D) | tup (xs : List D) | dct (kvs : List (Key × D)) | obj (C : Addr) (fs : List (Str × D)) | ref (k : Nat)

/-- a frozen heap, and where the cells lie -/
structure Fz where
  at_ : Hp
  μ : List Addr
instance : CoeFun Fz (fun _ => Addr → Option HO) := ⟨Fz.at_⟩
instance : Coe Fz Hp := ⟨Fz.at_⟩
def Fz.up (F : Fz) (p : Addr) (o : HO) : Fz := ⟨upd F.at_ p o, F.μ⟩
theorem up_same {F : Fz} {p : Addr} {o : HO} : (F.up p o) p = some o := upd_same
theorem up_ne {F : Fz} {p q : Addr} {o : HO} (h : q ≠ p) : (F.up p o) q = F q := upd_ne h

mutual
/-- what a value denotes in the frozen heap F -/
inductive Den (F : Fz) : V → D → Prop
  | non : Den F .non .non
  | bl (b : Bool) : Den F (.bl b) (.bl b)
  | int (i : Int) : Den F (.int i) (.int i)
  | str (x : Str) : Den F (.str x) (.str x)
  | lst {a : Addr} {xs : List V} {ds : List D} : F a = some (.lst xs) → DenAll F xs ds → Den F (.ref a) (.lst ds)
  | tup {a : Addr} {xs : List V} {ds : List D} : F a = some (.tup xs) → DenAll F xs ds → Den F (.ref a) (.tup ds)
  | dct {a : Addr} {xs : List (Key × V)} {ds : List (Key × D)} : F a = some (.dK xs) → DenKv F xs ds → Den F (.ref a) (.dct ds)
  | obj {a C dx : Addr} {xs : List (Str × V)} {ds : List (Str × D)} : F a = some (.ins C dx xs) → DenFs F xs ds → Den F (.ref a) (.obj (C + 1) ds)
  | ref {a : Addr} {k : Nat} : F.μ[k]? = some a → Den F (.ref a) (.ref k)
  | dT {a : Addr} {xs : List (List Key × V)} {ds : List (Str × D)} : F a = some (.dT xs) → DenT F xs ds → Den F (.ref a) (.obj 0 ds)
inductive DenAll (F : Fz) : List V → List D → Prop
  | nil : DenAll F [] []
  | cons {v : V} {vs : List V} {d : D} {ds : List D} : Den F v d → DenAll F vs ds → DenAll F (v :: vs) (d :: ds)
inductive DenKv (F : Fz) : List (Key × V) → List (Key × D) → Prop
  | nil : DenKv F [] []
  | cons {k : Key} {v : V} {vs : List (Key × V)} {d : D} {ds : List (Key × D)} : Den F v d → DenKv F vs ds → DenKv F ((k, v) :: vs) ((k, d) :: ds)
/-- a dict whose keys are pairs of places: the pair is told as a text of two signs -/
inductive DenT (F : Fz) : List (List Key × V) → List (Str × D) → Prop
  | nil : DenT F [] []
  | cons {i j : Nat} {v : V} {vs : List (List Key × V)} {d : D} {ds : List (Str × D)} : Den F v d → DenT F vs ds → DenT F (([.inl (i : Int), .inl (j : Int)], v) :: vs) ((⟨#[i, j]⟩, d) :: ds)
inductive DenFs (F : Fz) : List (Str × V) → List (Str × D) → Prop
  | nil : DenFs F [] []
  | cons {k : Str} {v : V} {vs : List (Str × V)} {d : D} {ds : List (Str × D)} : Den F v d → DenFs F vs ds → DenFs F ((k, v) :: vs) ((k, d) :: ds)
end

structure Ex (F F' : Fz) : Prop where
  at_ : ∀ a o, F a = some o → F' a = some o
  mu : ∃ ν, F'.μ = F.μ ++ ν
instance {F F' : Fz} : CoeFun (Ex F F') (fun _ => ∀ a o, F a = some o → F' a = some o) := ⟨Ex.at_⟩
abbrev ExH (F : Fz) (H : Hp) : Prop := ∀ a o, F a = some o → H a = some o
theorem Ex.refl (H : Fz) : Ex H H := ⟨fun _ _ h => h, [], by simp⟩
theorem Ex.trans {H H1 H2 : Fz} (a : Ex H H1) (b : Ex H1 H2) : Ex H H2 := ⟨fun x o h => b x o (a x o h), by
  obtain ⟨ν, e⟩ := a.mu
  obtain ⟨ν', e'⟩ := b.mu
  exact ⟨ν ++ ν', by rw [e', e, List.append_assoc]⟩⟩
theorem Ex.cell {F F' : Fz} (e : Ex F F') {k : Nat} {p : Addr} (h : F.μ[k]? = some p) : F'.μ[k]? = some p := by
  obtain ⟨ν, e⟩ := e.mu
  rw [e, List.getElem?_append_left (List.getElem?_eq_some_iff.mp h).1]
  exact h

section
variable {F F' : Fz}
mutual
theorem Den.mono (e : Ex F F') : ∀ {v : V} {d : D}, Den F v d → Den F' v d
  | _, _, .non => .non
  | _, _, .bl b => .bl b
  | _, _, .int i => .int i
  | _, _, .str x => .str x
  | _, _, .lst h a => .lst (e _ _ h) (DenAll.mono e a)
  | _, _, .tup h a => .tup (e _ _ h) (DenAll.mono e a)
  | _, _, .dct h a => .dct (e _ _ h) (DenKv.mono e a)
  | _, _, .obj h a => .obj (e _ _ h) (DenFs.mono e a)
  | _, _, .ref h => .ref (e.cell h)
  | _, _, .dT h a => .dT (e _ _ h) (DenT.mono e a)
theorem DenT.mono (e : Ex F F') : ∀ {vs : List (List Key × V)} {ds : List (Str × D)}, DenT F vs ds → DenT F' vs ds
  | _, _, .nil => .nil
  | _, _, .cons h t => .cons (Den.mono e h) (DenT.mono e t)
theorem DenAll.mono (e : Ex F F') : ∀ {vs : List V} {ds : List D}, DenAll F vs ds → DenAll F' vs ds
  | _, _, .nil => .nil
  | _, _, .cons h t => .cons (Den.mono e h) (DenAll.mono e t)
theorem DenKv.mono (e : Ex F F') : ∀ {vs : List (Key × V)} {ds : List (Key × D)}, DenKv F vs ds → DenKv F' vs ds
  | _, _, .nil => .nil
  | _, _, .cons h t => .cons (Den.mono e h) (DenKv.mono e t)
theorem DenFs.mono (e : Ex F F') : ∀ {vs : List (Str × V)} {ds : List (Str × D)}, DenFs F vs ds → DenFs F' vs ds
  | _, _, .nil => .nil
  | _, _, .cons h t => .cons (Den.mono e h) (DenFs.mono e t)
end
theorem DenAll.length {vs : List V} {ds : List D} (h : DenAll F vs ds) : vs.length = ds.length := by
  induction vs generalizing ds with
  | nil => cases h; rfl
  | cons v vs ih =>
    cases h with
    | cons h t => simp [ih t]
theorem DenAll.get {vs : List V} {ds : List D} (h : DenAll F vs ds) : ∀ {i : Nat} {d : D}, ds[i]? = some d → ∃ v, vs[i]? = some v ∧ Den F v d := by
  induction vs generalizing ds with
  | nil => cases h; intro i d e; simp at e
  | cons v vs ih =>
    cases h with
    | cons h t =>
      intro i d e
      cases i with
      | zero => simp at e; subst e; exact ⟨v, by simp, h⟩
      | succ i => simp at e; obtain ⟨w, e1, e2⟩ := ih t e; exact ⟨w, by simpa using e1, e2⟩
theorem DenAll.append {vs ws : List V} {ds es : List D} (h : DenAll F vs ds) (k : DenAll F ws es) : DenAll F (vs ++ ws) (ds ++ es) := by
  induction vs generalizing ds with
  | nil => cases h; exact k
  | cons v vs ih =>
    cases h with
    | cons h t => exact .cons h (ih t)
theorem DenAll.take {vs : List V} {ds : List D} (h : DenAll F vs ds) (n : Nat) : DenAll F (vs.take n) (ds.take n) := by
  induction vs generalizing ds n with
  | nil => cases h; cases n <;> exact .nil
  | cons v vs ih =>
    cases h with
    | cons h t =>
      cases n with
      | zero => exact .nil
      | succ n => exact .cons h (ih t n)
theorem DenAll.drop {vs : List V} {ds : List D} (h : DenAll F vs ds) (n : Nat) : DenAll F (vs.drop n) (ds.drop n) := by
  induction vs generalizing ds n with
  | nil => cases h; cases n <;> exact .nil
  | cons v vs ih =>
    cases h with
    | cons h t =>
      cases n with
      | zero => exact .cons h t
      | succ n => exact ih t n
theorem DenAll.set {vs : List V} {ds : List D} (h : DenAll F vs ds) {v : V} {d : D} (k : Den F v d) (n : Nat) : DenAll F (vs.set n v) (ds.set n d) := by
  induction vs generalizing ds n with
  | nil => cases h; cases n <;> exact .nil
  | cons w vs ih =>
    cases h with
    | cons h t =>
      cases n with
      | zero => exact .cons k t
      | succ n => exact .cons h (ih t n)
theorem DenAll.dropLast {vs : List V} {ds : List D} (h : DenAll F vs ds) : DenAll F vs.dropLast ds.dropLast := by
  rw [List.dropLast_eq_take, List.dropLast_eq_take, h.length]
  exact h.take _
end

/-- what a mutable object holds -/
inductive CO where
  | lst (xs : List D) | dct (kvs : List (Key × D)) | obj (C : Addr) (fs : List (Str × D)) | tab (P : Addr) (q : Str)
def CO.D : CO → D
  | .lst xs => .lst xs
  | .dct k => .dct k
  | .obj C fs => .obj C fs
  | .tab _ _ => .obj 0 []
/-- what may be read of it -/
def CO.vw : CO → Option SL.D
  | .tab _ _ => none
  | .lst xs => some (.lst xs)
  | .dct k => some (.dct k)
  | .obj C fs => some (.obj C fs)
theorem CO.vw_eq {c : CO} {d : SL.D} (h : c.vw = some d) : d = c.D ∧ ∀ P q, c ≠ .tab P q := by
  cases c with
  | tab P q => cases h
  | _ => cases h; exact ⟨rfl, fun P q z => by cases z⟩
def COk (F : Fz) : HO → CO → Prop
  | .lst vs, .lst ds => DenAll F vs ds
  | .dK vs, .dct ds => DenKv F vs ds
  | .ins C _ vs, .obj C' ds => C' = C + 1 ∧ DenFs F vs ds
  | .dT vs, .obj C' ds => C' = 0 ∧ DenT F vs ds
  | _, _ => False
theorem COk.mono {F F' : Fz} (e : Ex F F') {o : HO} {c : CO} (h : COk F o c) : COk F' o c := by
  cases o <;> cases c <;> first | exact h.elim | skip
  · exact DenAll.mono e (show DenAll F _ _ from h)
  · exact DenKv.mono e (show DenKv F _ _ from h)
  · exact ⟨h.1, DenT.mono e h.2⟩
  · exact ⟨h.1, DenFs.mono e h.2⟩
/-- what a cell holds: such an object, or a table of code objects, all of one name (of no name: of generators) -/
def CTk (F : Fz) (p : Addr) (o : HO) (c : CO) : Prop := COk F o c ∨ ∃ q ps, c = .tab p q ∧ o = .tbl ps ∧ TriplesOk ps.toList ∧ (q = ("" : Str) ∨ ∀ (pos : Pos) (cv : Value), codeAmong pos ps.toList = some cv → ∃ a, cv = .ref a ∧ F a = some (LamX.CodeO a q))
theorem CTk.mono {F F' : Fz} (e : Ex F F') {p : Addr} {o : HO} {c : CO} (h : CTk F p o c) : CTk F' p o c := by
  rcases h with h | ⟨q, ps, a, b, t, k⟩
  · exact .inl (h.mono e)
  · refine .inr ⟨q, ps, a, b, t, k.imp id fun k pos cv z => ?_⟩
    obtain ⟨x, e1, e2⟩ := k pos cv z
    exact ⟨x, e1, e _ _ e2⟩
theorem CTk.ok {F : Fz} {p : Addr} {o : HO} {c : CO} (h : CTk F p o c) (n : ∀ P q, c ≠ .tab P q) : COk F o c := by
  rcases h with h | ⟨q, ps, a, _⟩
  · exact h
  · exact absurd a (n p q)
/-- frozen, it denotes -/
theorem COk.den {F : Fz} {p : Addr} {o : HO} {c : CO} (e : F p = some o) (h : COk F o c) : Den F (.ref p) c.D := by
  cases o <;> cases c <;> first | exact h.elim | skip
  · exact .lst e h
  · exact .dct e h
  · obtain ⟨rfl, h⟩ := h; exact .dT e h
  · obtain ⟨rfl, h⟩ := h; exact .obj e h

/-- a slot's abstract content -/
inductive SV where
  | un | dat (d : D) | own (c : CO) | scr (ns : List Int)
/-- an expression's outcome -/
inductive RV where
  | dat (d : D) | new (c : CO) | own (c : CO) | scr (ns : List Int)

/-- the cells stand -/
structure Wok (F : Fz) (H : Hp) (cs : List CO) : Prop where
  ex : ExH F H
  len : F.μ.length = cs.length
  nd : ∀ (i j : Nat) (p : Addr), F.μ[i]? = some p → F.μ[j]? = some p → i = j
  at_ : ∀ (i : Nat) (p : Addr) (c : CO), F.μ[i]? = some p → cs[i]? = some c → F p = none ∧ ∃ o, H p = some o ∧ CTk F p o c
/-- a mutable object of one's own -/
def Live (F : Fz) (H : Hp) (p : Addr) (c : CO) : Prop := F p = none ∧ p ∉ F.μ ∧ ∃ o, H p = some o ∧ COk F o c
def RvOk (K : PySem.W.Frag) (F : Fz) (H : Hp) (v : V) : RV → Prop
  | .dat d => Den F v d
  | .new c => ∃ p, v = .ref p ∧ Live F H p c
  | .own c => ∃ p, v = .ref p ∧ Live F H p c
  | .scr ns => ∃ a, v = .ref a ∧ SqL K F a (ns.map V.int)
def SvOk (K : PySem.W.Frag) (H0 : Hp) (F : Fz) (H : Hp) (v : Option (Option V)) : SV → Prop
  | .un => True
  | .dat d => ∃ x, v = some (some x) ∧ Den F x d
  | .own c => ∃ p, v = some (some (.ref p)) ∧ H0 p = none ∧ Live F H p c
  | .scr ns => ∃ a, v = some (some (.ref a)) ∧ SqL K F a (ns.map V.int)
/-- a step: new cells are fresh, what is frozen stays, what is no cell stays -/
structure Nx (F : Fz) (H : Hp) (F' : Fz) (H' : Hp) : Prop where
  ex : Ex F F'
  new : ∀ q, q ∈ F'.μ → q ∈ F.μ ∨ H q = none
  gro : ∀ b o, F' b = some o → F b = some o ∨ H b = none
  st : ∀ b o, H b = some o → b ∉ F.μ → H' b = some o
structure Rel (K : PySem.W.Frag) (F0 : Fz) (H0 : Hp) (F : Fz) (H : Hp) (sl : List SV) (cs : List CO) (σ : L2.St) : Prop where
  w : Wok F H cs
  fr : Nx F0 H0 F H
  len : σ.length = sl.length
  at_ : ∀ (i : Nat) (sv : SV), sl[i]? = some sv → SvOk K H0 F H σ[i]? sv
  ds : ∀ (i j : Nat) (c d : CO) (p : Addr), sl[i]? = some (.own c) → sl[j]? = some (.own d) → σ[i]? = some (some (.ref p)) → σ[j]? = some (some (.ref p)) → i = j

section
variable {K : PySem.W.Frag} {F0 F F' F2 : Fz} {H0 H H' H2 : Hp} {sl : List SV} {cs cs' cs2 : List CO} {σ : L2.St} {v : V} {r : RV}
theorem Wok.there (w : Wok F H cs) {p : Addr} (h : p ∈ F.μ) : F p = none ∧ ∃ o, H p = some o := by
  obtain ⟨i, hi, e⟩ := List.mem_iff_getElem.mp h
  have hc : i < cs.length := by rw [← w.len]; exact hi
  obtain ⟨a, o, b, _⟩ := w.at_ i p cs[i] (by rw [List.getElem?_eq_getElem hi, e]) (List.getElem?_eq_getElem hc)
  exact ⟨a, o, b⟩
theorem Ex.mem {F F' : Fz} (e : Ex F F') {p : Addr} (h : p ∈ F.μ) : p ∈ F'.μ := by
  obtain ⟨ν, e⟩ := e.mu
  rw [e]; exact List.mem_append_left _ h
theorem Nx.refl : Nx F H F H := ⟨Ex.refl _, fun _ h => .inl h, fun _ _ h => .inl h, fun _ _ h _ => h⟩
theorem Nx.none (n : Nx F H F' H') (w : Wok F' H' cs') {p : Addr} (h : H' p = none) : H p = none := by
  cases e : H p with
  | none => rfl
  | some o =>
    by_cases hm : p ∈ F.μ
    · obtain ⟨_, o', e'⟩ := w.there (n.ex.mem hm)
      rw [h] at e'; cases e'
    · have := n.st p o e hm
      rw [h] at this; cases this
theorem Nx.trans (a : Nx F H F' H') (w : Wok F' H' cs') (b : Nx F' H' F2 H2) : Nx F H F2 H2 where
  ex := a.ex.trans b.ex
  new := fun q hq => by
    rcases b.new q hq with h1 | h1
    · exact a.new q h1
    · exact .inr (a.none w h1)
  gro := fun c o h => by
    rcases b.gro c o h with h1 | h1
    · exact a.gro c o h1
    · exact .inr (a.none w h1)
  st := fun c o h hm => b.st c o (a.st c o h hm) fun hm' => by
    rcases a.new c hm' with h1 | h1
    · exact hm h1
    · rw [h] at h1; cases h1
theorem Nx.step (a : Nx F0 H0 F H) (w : Wok F H cs) (b : Nx F H F' H') : Nx F0 H0 F' H' := a.trans w b
theorem Nx.nx (a : Nx F H F' H') : Nx F H F' H' := a
theorem Live.step {p : Addr} {c : CO} (l : Live F H p c) (n : Nx F H F' H') : Live F' H' p c := by
  obtain ⟨a, b, o, d, e⟩ := l
  refine ⟨?_, fun hm => (n.new p hm).elim b fun q => by (rw [d] at q; cases q), o, n.st p o d b, e.mono n.ex⟩
  cases z : F' p with
  | none => rfl
  | some u =>
    rcases n.gro p u z with q | q
    · rw [a] at q; cases q
    · rw [d] at q; cases q
theorem sqL_ex {K : PySem.W.Frag} {a : Addr} {xs : List V} (e : Ex F F') (h : SqL K F a xs) : SqL K F' a xs := by
  rcases h with (h | ⟨o, h⟩) | h
  · exact .inl (.inl (e _ _ h))
  · exact .inl (.inr ⟨o, e _ _ h⟩)
  · exact .inr h
theorem sqL_exH {K : PySem.W.Frag} {a : Addr} {xs : List V} (e : ExH F H) (h : SqL K F a xs) : SqL K H a xs := by
  rcases h with (h | ⟨o, h⟩) | h
  · exact .inl (.inl (e _ _ h))
  · exact .inl (.inr ⟨o, e _ _ h⟩)
  · exact .inr h
theorem RvOk.step (h : RvOk K F H v r) (n : Nx F H F' H') : RvOk K F' H' v r := by
  cases r with
  | dat d => exact Den.mono n.ex (show Den F v d from h)
  | new c => obtain ⟨p, e, l⟩ := h; exact ⟨p, e, l.step n⟩
  | own c => obtain ⟨p, e, l⟩ := h; exact ⟨p, e, l.step n⟩
  | scr ns => obtain ⟨a, e, s⟩ := h; exact ⟨a, e, sqL_ex n.ex s⟩
theorem Rel.step (R : Rel K F0 H0 F H sl cs σ) (n : Nx F H F' H') (w : Wok F' H' cs') : Rel K F0 H0 F' H' sl cs' σ where
  w := w
  fr := R.fr.step R.w n
  len := R.len
  at_ := fun i sv e => by
    have h := R.at_ i sv e
    cases sv with
    | un => trivial
    | dat d => obtain ⟨x, a, b⟩ := h; exact ⟨x, a, b.mono n.ex⟩
    | own c => obtain ⟨p, a, b, l⟩ := h; exact ⟨p, a, b, l.step n⟩
      | scr ns => obtain ⟨a, e, s⟩ := h; exact ⟨a, e, sqL_ex n.ex s⟩
  ds := R.ds
/-- a new object laid, untouched by F -/
theorem Wok.laid (w : Wok F H cs) {p : Addr} {o : HO} (hp : H p = none) : Wok F (upd H p o) cs ∧ Nx F H F (upd H p o) := by
  have ne : ∀ b u, H b = .some u → b ≠ p := fun b u h => ne_of_none h hp
  refine ⟨⟨fun a u h => ?_, w.len, w.nd, fun i q c h1 h2 => ?_⟩, ⟨Ex.refl _, fun _ h => .inl h, fun _ _ h => .inl h, fun b u h _ => ?_⟩⟩
  · rw [upd_ne (ne a u (w.ex a u h))]; exact w.ex a u h
  · obtain ⟨a, u, b, d⟩ := w.at_ i q c h1 h2
    exact ⟨a, u, by rw [upd_ne (ne q u b)]; exact b, d⟩
  · rw [upd_ne (ne b u h)]; exact h
theorem Ex.up {p : Addr} {o : HO} (h : F p = none) : Ex F (F.up p o) := ⟨fun q u e => by rw [up_ne (ne_of_none (H := F.at_) e h)]; exact e, [], by simp [Fz.up]⟩
/-- freezing an object of one's own -/
theorem Wok.freeze (w : Wok F H cs) {p : Addr} {c : CO} (l : Live F H p c) : ∃ o, Wok (F.up p o) H cs ∧ Ex F (F.up p o) ∧ Den (F.up p o) (.ref p) c.D ∧ H p = some o := by
  obtain ⟨a, b, o, d, e⟩ := l
  have x : Ex F (F.up p o) := .up a
  refine ⟨o, ⟨fun q u h => ?_, w.len, w.nd, fun i q k h1 h2 => ?_⟩, x, COk.den up_same (e.mono x), d⟩
  · by_cases hq : q = p
    · subst hq; rw [up_same] at h; cases h; exact d
    · rw [up_ne hq] at h; exact w.ex q u h
  · obtain ⟨a1, u, b1, d1⟩ := w.at_ i q k h1 h2
    have hq : q ≠ p := fun z => b (z ▸ List.mem_of_getElem? h1)
    exact ⟨by rw [up_ne hq]; exact a1, u, b1, d1.mono x⟩
/-- one more cell -/
def Fz.pin (F : Fz) (p : Addr) : Fz := ⟨F.at_, F.μ ++ [p]⟩
theorem Ex.pin {p : Addr} : Ex F (F.pin p) := ⟨fun _ _ h => h, [p], rfl⟩
theorem Wok.pin (w : Wok F H cs) {p : Addr} {c : CO} (l : Live F H p c) : Wok (F.pin p) H (cs ++ [c]) ∧ (F.pin p).μ[cs.length]? = some p := by
  obtain ⟨a, b, o, d, e⟩ := l
  have hl : (F.pin p).μ[cs.length]? = some p := by
    show (F.μ ++ [p])[cs.length]? = some p
    rw [← w.len, List.getElem?_concat_length]
  refine ⟨⟨w.ex, by simp [Fz.pin, w.len], fun i j q h1 h2 => ?_, fun i q k h1 h2 => ?_⟩, hl⟩
  · have key : ∀ {i : Nat} {q : Addr}, (F.μ ++ [p])[i]? = some q → (i < F.μ.length ∧ F.μ[i]? = some q) ∨ (i = F.μ.length ∧ q = p) := by
      intro i q h
      rcases Nat.lt_trichotomy i F.μ.length with l | l | l
      · rw [List.getElem?_append_left l] at h; exact .inl ⟨l, h⟩
      · subst l; rw [List.getElem?_concat_length] at h; cases h; exact .inr ⟨rfl, rfl⟩
      · rw [List.getElem?_eq_none (by simp; omega)] at h; cases h
    rcases key h1 with ⟨_, e1⟩ | ⟨rfl, rfl⟩ <;> rcases key h2 with ⟨_, e2⟩ | ⟨rfl, e2⟩
    · exact w.nd i j q e1 e2
    · subst e2; exact absurd (List.mem_of_getElem? e1) b
    · exact absurd (List.mem_of_getElem? e2) b
    · rfl
  · have hlen : F.μ.length = cs.length := w.len
    rcases Nat.lt_trichotomy i F.μ.length with l | l | l
    · have h1 : F.μ[i]? = some q := by rw [← List.getElem?_append_left (l₂ := [p]) l]; exact h1
      have h2 : cs[i]? = some k := by rw [← List.getElem?_append_left (l₂ := [c]) (by omega)]; exact h2
      obtain ⟨a1, u, b1, d1⟩ := w.at_ i q k h1 h2
      exact ⟨a1, u, b1, d1.mono .pin⟩
    · subst l
      have h1 : (F.μ ++ [p])[F.μ.length]? = some q := h1
      rw [List.getElem?_concat_length] at h1
      rw [hlen, List.getElem?_concat_length] at h2
      cases h1; cases h2
      exact ⟨a, o, d, .inl (e.mono .pin)⟩
    · have h1 : (F.μ ++ [p])[i]? = some q := h1
      rw [List.getElem?_eq_none (by simp; omega)] at h1; cases h1
end

/-- the program's classes by number -/
def clsNms : List Str := ["KnitError", "NoStitch", "NoStitches", "NoText", "NoCount", "NoRow", "NoRows", "NoFlag", "NoNumber", "NoPattern", "NoChart", "NoTimes", "NoSize", "NoLengths", "NoColours", "NoLength", "NoWord", "NoLine", "NoFit", "NoSpread", "TooLong", "Wide", "Stuck", "Finished", "NothingToTink", "Row", "Reader", "Pattern", "Knitter"]
def clsNm (i : Nat) : Str := clsNms.getD i ""
/-! ### outcomes -/
inductive Res (α : Type) where
  | ok (a : α) | exc (C : Nat) (fs : List (Str × D)) (cs : List CO) | bad
inductive Flw where
  | nx (sl : List SV) (cs : List CO) | rt (r : RV) (cs : List CO) | bk (sl : List SV) (cs : List CO) | ct (sl : List SV) (cs : List CO)
  | exc (C : Nat) (fs : List (Str × D)) (sl : List SV) (cs : List CO) | bad
abbrev FE := List SV → List CO → Res (RV × List CO)
abbrev FT := List SV → List CO → Res (Bool × List CO)
abbrev FA := List SV → List CO → Res (List RV × List CO)
abbrev FS := List SV → List CO → Flw

/-- the exception is met by the wish -/
def Raised (K : PySem.W.Frag) (F : Fz) (H : Hp) (W : XK) (C : Nat) (fs : List (Str × D)) (cs : List CO) : Prop :=
  ∀ F' H' dx fv, Nx F H F' H' → Wok F' H' cs → H' dx = some (.xd fv) → DenFs F' fv fs → W (.ref (He.ga K (clsNm C))) (some dx) H'
def FreshV (H : Hp) (r : RV) (v : V) : Prop := match r with
  | .new _ => ∀ p, v = .ref p → H p = none
  | _ => True
def OutE (K : PySem.W.Frag) (W : XK) (F : Fz) (H : Hp) (Q : VK) : Res (RV × List CO) → Prop
  | .ok (r, cs') => ∀ v F' H', Nx F H F' H' → Wok F' H' cs' → RvOk K F' H' v r → FreshV H r v → Q v H'
  | .exc C fs cs' => Raised K F H W C fs cs'
  | .bad => False
def OutT (K : PySem.W.Frag) (W : XK) (F : Fz) (H : Hp) (Q : Bool → Hp → Prop) : Res (Bool × List CO) → Prop
  | .ok (b, cs') => ∀ F' H', Nx F H F' H' → Wok F' H' cs' → Q b H'
  | .exc C fs cs' => Raised K F H W C fs cs'
  | .bad => False
inductive RvAll (K : PySem.W.Frag) (F : Fz) (H : Hp) : List V → List RV → Prop
  | nil : RvAll K F H [] []
  | cons {v : V} {vs : List V} {r : RV} {rs : List RV} : RvOk K F H v r → RvAll K F H vs rs → RvAll K F H (v :: vs) (r :: rs)
def OutA (K : PySem.W.Frag) (W : XK) (F : Fz) (H : Hp) (Q : List V → Hp → Prop) : Res (List RV × List CO) → Prop
  | .ok (rs, cs') => ∀ vs F' H', Nx F H F' H' → Wok F' H' cs' → RvAll K F' H' vs rs → Q vs H'
  | .exc C fs cs' => Raised K F H W C fs cs'
  | .bad => False
/-- the wish for exceptions, at these slots -/
abbrev atX (W : WX) (σ : L2.St) : XK := fun v d H => W v d σ H
def rdE (K : PySem.W.Frag) (W : WX) (f : FE) : TE := fun σ H Q => ∃ F0 H0 F sl cs, Rel K F0 H0 F H sl cs σ ∧ OutE K (atX W σ) F H Q (f sl cs)
def rdT (K : PySem.W.Frag) (W : WX) (f : FT) : TT := fun σ H Q => ∃ F0 H0 F sl cs, Rel K F0 H0 F H sl cs σ ∧ OutT K (atX W σ) F H Q (f sl cs)
def rdA (K : PySem.W.Frag) (W : WX) (f : FA) : TA := fun σ H Q => ∃ F0 H0 F sl cs, Rel K F0 H0 F H sl cs σ ∧ OutA K (atX W σ) F H Q (f sl cs)
/-- an exception leaves a statement: the slots as they stand -/
def RaisedS (K : PySem.W.Frag) (F0 : Fz) (H0 : Hp) (W : WX) (C : Nat) (fs : List (Str × D)) (sl : List SV) (cs : List CO) : Prop :=
  ∀ σ F' H' dx fv, Rel K F0 H0 F' H' sl cs σ → H' dx = some (.xd fv) → DenFs F' fv fs → W (.ref (He.ga K (clsNm C))) (some dx) σ H'
def OutS (K : PySem.W.Frag) (W : WX) (F0 : Fz) (H0 : Hp) (D : Ends) : Flw → Prop
  | .nx sl cs => ∀ σ F H, Rel K F0 H0 F H sl cs σ → D.nx σ H
  | .bk sl cs => ∀ σ F H, Rel K F0 H0 F H sl cs σ → D.bk σ H
  | .ct sl cs => ∀ σ F H, Rel K F0 H0 F H sl cs σ → D.ct σ H
  | .rt r cs => ∀ v F H, Nx F0 H0 F H → Wok F H cs → RvOk K F H v r → FreshV H0 r v → D.rt v H
  | .exc C fs sl cs => RaisedS K F0 H0 W C fs sl cs
  | .bad => False
def rdS (K : PySem.W.Frag) (W : WX) (f : FS) : TS := fun D σ H => ∃ F0 H0 F sl cs, Rel K F0 H0 F H sl cs σ ∧ OutS K W F0 H0 D (f sl cs)

/-! ### the judgements -/
abbrev DE (X : Cx) (W : WX) (e : Expr) (f : FE) : Prop := PE X e (rdE X.K W f)
abbrev DT (X : Cx) (W : WX) (e : Expr) (f : FT) : Prop := PT X e (rdT X.K W f)
abbrev DW (X : Cx) (W : WX) (e : Expr) (f : FT) : Prop := PW X e (rdT X.K W f)
abbrev DA (X : Cx) (W : WX) (es : List Expr) (f : FA) : Prop := PA X es (rdA X.K W f)
abbrev DS (X : Cx) (W : WX) (st : Stmt) (f : FS) : Prop := PS X st (rdS X.K W f)
abbrev DSs (X : Cx) (W : WX) (st : List Stmt) (f : FS) : Prop := PSs X st (rdS X.K W f)
theorem PE.imp {X : Cx} {e : Expr} {t t' : TE} (h : PE X e t) (i : ∀ σ H Q, t' σ H Q → t σ H Q) : PE X e t' := ⟨fun p s σ H Q I q => h.run p s σ H Q I (i σ H Q q)⟩
theorem PT.imp {X : Cx} {e : Expr} {t t' : TT} (h : PT X e t) (i : ∀ σ H Q, t' σ H Q → t σ H Q) : PT X e t' := ⟨fun p s σ H Q I q => h.run p s σ H Q I (i σ H Q q)⟩
theorem PW.imp {X : Cx} {e : Expr} {t t' : TT} (h : PW X e t) (i : ∀ σ H Q, t' σ H Q → t σ H Q) : PW X e t' := ⟨fun wh p s σ H Q I q => h.run wh p s σ H Q I (i σ H Q q)⟩
theorem PA.imp {X : Cx} {e : List Expr} {t t' : TA} (h : PA X e t) (i : ∀ σ H Q, t' σ H Q → t σ H Q) : PA X e t' := ⟨fun ps p s σ H Q I q => h.run ps p s σ H Q I (i σ H Q q)⟩
theorem PS.imp {X : Cx} {e : Stmt} {t t' : TS} (h : PS X e t) (i : ∀ D σ H, t' D σ H → t D σ H) : PS X e t' := ⟨fun p s σ H D I q => h.run p s σ H D I (i D σ H q)⟩
theorem PSs.imp {X : Cx} {e : List Stmt} {t t' : TS} (h : PSs X e t) (i : ∀ D σ H, t' D σ H → t D σ H) : PSs X e t' := ⟨fun p s σ H D I q => h.run p s σ H D I (i D σ H q)⟩

section
variable {K : PySem.W.Frag} {W : XK} {F0 F F' : Fz} {H0 H H' : Hp} {cs cs' : List CO}
theorem Raised.back {C : Nat} {fs : List (Str × D)} (h : Raised K F H W C fs cs) (n : Nx F H F' H') (w : Wok F' H' cs') : Raised K F' H' W C fs cs :=
  fun F2 H2 dx fv n2 w2 e d => h F2 H2 dx fv (n.trans w n2) w2 e d
theorem OutE.back {Q : VK} {o : Res (RV × List CO)} (h : OutE K W F H Q o) (n : Nx F H F' H') (w : Wok F' H' cs') : OutE K W F' H' Q o := by
  cases o with
  | ok a =>
    obtain ⟨r, c⟩ := a
    intro v F2 H2 n2 w2 k fv
    refine h v F2 H2 (n.trans w n2) w2 k ?_
    cases r with
    | new c => exact fun p e => n.none w (fv p e)
    | _ => trivial
  | exc C fs c => exact Raised.back h n w
  | bad => exact h
theorem OutT.back {Q : Bool → Hp → Prop} {o : Res (Bool × List CO)} (h : OutT K W F H Q o) (n : Nx F H F' H') (w : Wok F' H' cs') : OutT K W F' H' Q o := by
  cases o with
  | ok a => intro F2 H2 n2 w2; exact h F2 H2 (n.trans w n2) w2
  | exc C fs c => exact Raised.back h n w
  | bad => exact h
theorem OutA.back {Q : List V → Hp → Prop} {o : Res (List RV × List CO)} (h : OutA K W F H Q o) (n : Nx F H F' H') (w : Wok F' H' cs') : OutA K W F' H' Q o := by
  cases o with
  | ok a => intro vs F2 H2 n2 w2 k; exact h vs F2 H2 (n.trans w n2) w2 k
  | exc C fs c => exact Raised.back h n w
  | bad => exact h
theorem RaisedS.at_ {W : WX} {C : Nat} {fs : List (Str × D)} {sl : List SV} {σ : L2.St} (h : RaisedS K F0 H0 W C fs sl cs) (R : Rel K F0 H0 F H sl cs' σ) : Raised K F H (atX W σ) C fs cs :=
  fun F2 H2 dx fv n2 w2 e d => h σ F2 H2 dx fv (R.step n2 w2) e d
end
end SL

/-! Sb: rules for expressions. -/
namespace SL
open PySem L2

/-! ### views -/
def D.vw (cs : List CO) : D → Option D
  | .ref k => cs[k]?.bind CO.vw
  | d => some d
def RV.view (cs : List CO) : RV → Option D
  | .dat d => d.vw cs
  | .new c => some c.D
  | .own c => some c.D
  | .scr _ => none
/-- what may be read now -/
def Vw (F : Fz) (H : Hp) (v : V) (d : D) : Prop := Den F v d ∨ ∃ p o c, v = .ref p ∧ H p = some o ∧ COk F o c ∧ d = c.D
section
variable {K : PySem.W.Frag} {W : WX} {F F' : Fz} {H H' : Hp} {cs cs' : List CO} {v : V} {r : RV} {d : D}
theorem Den.vw {x : D} (h : Den F v x) (w : Wok F H cs) (e : x.vw cs = some d) : Vw F H v d := by
  cases h with
  | @ref p k e2 =>
    have e : cs[k]?.bind CO.vw = some d := e
    cases z : cs[k]? with
    | none => rw [z] at e; cases e
    | some c =>
      rw [z] at e
      obtain ⟨ed, nt⟩ := CO.vw_eq (show c.vw = some d from e)
      obtain ⟨_, o, h1, h2⟩ := w.at_ k p c e2 z
      exact .inr ⟨p, o, c, rfl, h1, h2.ok nt, ed⟩
  | non => cases e; exact .inl .non
  | bl b => cases e; exact .inl (.bl b)
  | int b => cases e; exact .inl (.int b)
  | str b => cases e; exact .inl (.str b)
  | lst a b => cases e; exact .inl (.lst a b)
  | tup a b => cases e; exact .inl (.tup a b)
  | dct a b => cases e; exact .inl (.dct a b)
  | obj a b => cases e; exact .inl (.obj a b)
  | dT a b => cases e; exact .inl (.dT a b)
theorem RvOk.vw (h : RvOk K F H v r) (w : Wok F H cs) (e : r.view cs = some d) : Vw F H v d := by
  cases r with
  | dat x => exact Den.vw (show Den F v x from h) w e
  | new c => cases e; obtain ⟨p, e, _, _, o, h1, h2⟩ := h; exact .inr ⟨p, o, c, e, h1, h2, rfl⟩
  | own c => cases e; obtain ⟨p, e, _, _, o, h1, h2⟩ := h; exact .inr ⟨p, o, c, e, h1, h2, rfl⟩
  | scr _ => cases e
theorem Vw.int {i : Int} (h : Vw F H v (.int i)) : v = .int i := by
  rcases h with h | ⟨_, _, c, _, _, _, e⟩
  · cases h; rfl
  · cases c <;> cases e
theorem Vw.bl {i : Bool} (h : Vw F H v (.bl i)) : v = .bl i := by
  rcases h with h | ⟨_, _, c, _, _, _, e⟩
  · cases h; rfl
  · cases c <;> cases e
theorem Vw.str {i : Str} (h : Vw F H v (.str i)) : v = .str i := by
  rcases h with h | ⟨_, _, c, _, _, _, e⟩
  · cases h; rfl
  · cases c <;> cases e
theorem Vw.non (h : Vw F H v .non) : v = .non := by
  rcases h with h | ⟨_, _, c, _, _, _, e⟩
  · cases h; rfl
  · cases c <;> cases e
theorem Vw.lst {ds : List D} (h : Vw F H v (.lst ds)) (e : ExH F H) : ∃ p vs, v = .ref p ∧ H p = some (.lst vs) ∧ DenAll F vs ds := by
  rcases h with h | ⟨p, o, c, rfl, h1, h2, e2⟩
  · cases h with
    | lst a b => exact ⟨_, _, rfl, e _ _ a, b⟩
  · cases c <;> cases e2
    cases o <;> first | exact h2.elim | skip
    exact ⟨_, _, rfl, h1, h2⟩
theorem Vw.tup {ds : List D} (h : Vw F H v (.tup ds)) (e : ExH F H) : ∃ p vs, v = .ref p ∧ H p = some (.tup vs) ∧ DenAll F vs ds := by
  rcases h with h | ⟨p, o, c, rfl, h1, h2, e2⟩
  · cases h with
    | tup a b => exact ⟨_, _, rfl, e _ _ a, b⟩
  · cases c <;> cases e2
theorem Vw.dct {ds : List (Key × D)} (h : Vw F H v (.dct ds)) (e : ExH F H) : ∃ p vs, v = .ref p ∧ H p = some (.dK vs) ∧ DenKv F vs ds := by
  rcases h with h | ⟨p, o, c, rfl, h1, h2, e2⟩
  · cases h with
    | dct a b => exact ⟨_, _, rfl, e _ _ a, b⟩
  · cases c <;> cases e2
    cases o <;> first | exact h2.elim | skip
    exact ⟨_, _, rfl, h1, h2⟩
end

/-! ### names, constants -/
def dVar (i : Nat) : FE := fun sl cs => match sl[i]? with
  | some (.dat d) => .ok (.dat d, cs)
  | some (.own c) => .ok (.own c, cs)
  | some (.scr ns) => .ok (.scr ns, cs)
  | _ => .bad
def dCon (d : D) : FE := fun _ cs => .ok (.dat d, cs)
section
variable {X : Cx} {W : WX} {pos : Pos}
theorem de_var {i : Nat} {x : Str} (h : PE X (.Name x pos) (tVar i)) : DE X W (.Name x pos) (dVar i) := PE.imp h fun σ H Q q => by
  obtain ⟨F0, H0, F, sl, cs, R, o⟩ := q
  unfold dVar at o
  cases e : sl[i]? with
  | none => rw [e] at o; exact o.elim
  | some sv =>
    rw [e] at o
    have z := R.at_ i sv e
    cases sv with
    | un => exact o.elim
    | dat d => obtain ⟨x, e1, e2⟩ := z; exact ⟨x, e1, o x F H .refl R.w e2 trivial⟩
    | own c => obtain ⟨p, e1, _, e2⟩ := z; exact ⟨_, e1, o _ F H .refl R.w ⟨p, rfl, e2⟩ trivial⟩
    | scr ns => obtain ⟨p, e1, e2⟩ := z; exact ⟨_, e1, o _ F H .refl R.w ⟨p, rfl, e2⟩ trivial⟩
theorem de_con {e : Expr} {v : V} {d : D} (h : PE X e (tC v)) (k : ∀ F, Den F v d) : DE X W e (dCon d) := PE.imp h fun σ H Q q => by
  obtain ⟨F0, H0, F, sl, cs, R, o⟩ := q
  exact o v F H .refl R.w (k F) trivial
theorem de_int {i : Int} {j : Nat} : DE X W (.Constant (.int i) j pos) (dCon (.int i)) := de_con pe_int fun _ => .int _
theorem de_bl {i : Bool} {j : Nat} : DE X W (.Constant (.bool i) j pos) (dCon (.bl i)) := de_con pe_bl fun _ => .bl _
theorem de_str {i : Str} {j : Nat} : DE X W (.Constant (.str i) j pos) (dCon (.str i)) := de_con pe_str fun _ => .str _
theorem de_non {j : Nat} : DE X W (.Constant .none j pos) (dCon .non) := de_con pe_non fun _ => .non
/-- a module's constant -/
theorem de_glob {x : Str} {v : V} {u : Value} {d : D} (hg : Gl X x) (hm : X.mg x = some u) (r : RelV v u) (k : ∀ F, Den F v d) (hd : (x == ("__debug__" : Str)) = false := by decide) : DE X W (.Name x pos) (dCon d) := de_con (pe_glob hg hm r hd) k
end

/-! ### operators by values -/
abbrev G1 := D → Option RV
abbrev G2 := D → D → Option RV
abbrev GN := List D → Option RV
/-- what is wanted behind an operator that changes nothing -/
def Aft (K : PySem.W.Frag) (F : Fz) (H : Hp) (cs : List CO) (Q : VK) (r : RV) : Prop := ∀ v F' H', Nx F H F' H' → Wok F' H' cs → RvOk K F' H' v r → FreshV H r v → Q v H'
def rd2 (K : PySem.W.Frag) (g : G2) : R2 := fun x y H Q => ∃ F cs a b r, Wok F H cs ∧ Vw F H x a ∧ Vw F H y b ∧ g a b = some r ∧ Aft K F H cs Q r
def rd1 (K : PySem.W.Frag) (g : G1) : V → Hp → VK → Prop := fun x H Q => ∃ F cs a r, Wok F H cs ∧ Vw F H x a ∧ g a = some r ∧ Aft K F H cs Q r
inductive VwAll (F : Fz) (H : Hp) : List V → List D → Prop
  | nil : VwAll F H [] []
  | cons {v : V} {vs : List V} {d : D} {ds : List D} : Vw F H v d → VwAll F H vs ds → VwAll F H (v :: vs) (d :: ds)
def rdN (K : PySem.W.Frag) (g : GN) : List V → Hp → VK → Prop := fun xs H Q => ∃ F cs as r, Wok F H cs ∧ VwAll F H xs as ∧ g as = some r ∧ Aft K F H cs Q r
def OpD (X : Cx) (f : Value → Value → Sem Value) (g : G2) : Prop := OpR X f (rd2 X.K g)
def UnD (X : Cx) (f : Value → Sem Value) (g : G1) : Prop := UnR X f (rd1 X.K g)
def CallD (X : Cx) (f : Value) (g : GN) : Prop := CallR X f (rdN X.K g)
theorem OpR.imp {X : Cx} {f : Value → Value → Sem Value} {r r' : R2} (h : OpR X f r) (i : ∀ x y H Q, r' x y H Q → r x y H Q) : OpR X f r' := fun p s σ H x y v u Q I rx ry q => h p s σ H x y v u Q I rx ry (i x y H Q q)
theorem UnR.imp {X : Cx} {f : Value → Sem Value} {r r' : V → Hp → VK → Prop} (h : UnR X f r) (i : ∀ x H Q, r' x H Q → r x H Q) : UnR X f r' := fun p s σ H x v Q I rx q => h p s σ H x v Q I rx (i x H Q q)
theorem CallR.imp {X : Cx} {f : Value} {r r' : List V → Hp → VK → Prop} (h : CallR X f r) (i : ∀ x H Q, r' x H Q → r x H Q) : CallR X f r' := fun p s σ H x v Q I rx q => h p s σ H x v Q I rx (i x H Q q)
section
variable {K : PySem.W.Frag} {F : Fz} {H : Hp} {cs : List CO} {Q : VK}
theorem Aft.dat {d : D} {v : V} (a : Aft K F H cs Q (.dat d)) (w : Wok F H cs) (h : Den F v d) : Q v H := a v F H .refl w h trivial
theorem Aft.int {i : Int} (a : Aft K F H cs Q (.dat (.int i))) (w : Wok F H cs) : Q (.int i) H := a.dat w (.int i)
theorem Aft.bl {i : Bool} (a : Aft K F H cs Q (.dat (.bl i))) (w : Wok F H cs) : Q (.bl i) H := a.dat w (.bl i)
theorem Aft.str {i : Str} (a : Aft K F H cs Q (.dat (.str i))) (w : Wok F H cs) : Q (.str i) H := a.dat w (.str i)
/-- a new mutable object laid at p -/
theorem Aft.new {c : CO} {o : HO} {p : Addr} (a : Aft K F H cs Q (.new c)) (w : Wok F H cs) (hp : H p = none) (h : COk F o c) : Q (.ref p) (upd H p o) := by
  obtain ⟨w2, n⟩ := w.laid (o := o) hp
  have nf : F p = none := by
    cases e : F p with
    | none => rfl
    | some u => have := w.ex p u e; rw [hp] at this; cases this
  have nm : p ∉ F.μ := fun z => by obtain ⟨_, o, e⟩ := w.there z; rw [hp] at e; cases e
  exact a _ F _ n w2 ⟨p, rfl, nf, nm, o, upd_same, h⟩ fun q e => by cases e; exact hp
/-- a new frozen object (a tuple) laid at p -/
theorem Aft.tup {d : D} {o : HO} {p : Addr} (a : Aft K F H cs Q (.dat d)) (w : Wok F H cs) (hp : H p = none) (h : Den (F.up p o) (.ref p) d) : Q (.ref p) (upd H p o) := by
  have nf : F p = none := by
    cases e : F p with
    | none => rfl
    | some u => have := w.ex p u e; rw [hp] at this; cases this
  have nm : p ∉ F.μ := fun z => by obtain ⟨_, o, e⟩ := w.there z; rw [hp] at e; cases e
  have x : Ex F (F.up p o) := .up nf
  refine a _ (F.up p o) _ ⟨x, fun _ h => .inl h, fun b u h => ?_, fun b u h _ => ?_⟩ ⟨fun b u h => ?_, w.len, w.nd, fun i q c h1 h2 => ?_⟩ h trivial
  · by_cases hb : b = p
    · subst hb; exact .inr hp
    · rw [up_ne hb] at h; exact .inl h
  · rw [upd_ne (ne_of_none h hp)]; exact h
  · by_cases hb : b = p
    · subst hb; rw [up_same] at h; rw [upd_same]; exact h
    · rw [up_ne hb] at h; rw [upd_ne hb]; exact w.ex b u h
  · obtain ⟨a1, u, b1, d1⟩ := w.at_ i q c h1 h2
    have hq : q ≠ p := fun z => nm (z ▸ List.mem_of_getElem? h1)
    exact ⟨by rw [up_ne hq]; exact a1, u, by rw [upd_ne hq]; exact b1, d1.mono x⟩
end

def optE (o : Option RV) (cs : List CO) : Res (RV × List CO) := match o with
  | some r => .ok (r, cs)
  | none => .bad
def Res.then {α β : Type} (r : Res α) (k : α → Res β) : Res β := match r with
  | .ok a => k a
  | .exc C fs cs => .exc C fs cs
  | .bad => .bad
def dOp (g : G2) (fa fb : FE) : FE := fun sl cs => (fa sl cs).then fun a => (fb sl a.2).then fun b => match a.1.view b.2, b.1.view b.2 with
  | some x, some y => optE (g x y) b.2
  | _, _ => .bad
def dUn (g : G1) (fa : FE) : FE := fun sl cs => (fa sl cs).then fun a => match a.1.view a.2 with
  | some x => optE (g x) a.2
  | _ => .bad
section
variable {K : PySem.W.Frag} {W : WX} {F0 F : Fz} {H0 H : Hp} {sl : List SV} {cs : List CO} {σ : L2.St}
/-- run the first, then on -/
theorem OutE.then_run {f : FE} {k : RV × List CO → Res (RV × List CO)} {Q Q' : VK} (R : Rel K F0 H0 F H sl cs σ) (o : OutE K (atX W σ) F H Q ((f sl cs).then k))
    (h : ∀ r c v F' H', f sl cs = .ok (r, c) → Nx F H F' H' → Wok F' H' c → RvOk K F' H' v r → FreshV H r v → Rel K F0 H0 F' H' sl c σ → OutE K (atX W σ) F' H' Q (k (r, c)) → Q' v H') : rdE K W f σ H Q' := by
  refine ⟨F0, H0, F, sl, cs, R, ?_⟩
  cases e : f sl cs with
  | ok a =>
    obtain ⟨r, c⟩ := a
    rw [e] at o
    intro v F' H' n w k fv
    exact h r c v F' H' e n w k fv (R.step n w) (OutE.back o n w)
  | exc C fs c => rw [e] at o; exact o
  | bad => rw [e] at o; exact o.elim
theorem OutE.aft {Q : VK} {o : Option RV} (h : OutE K (atX W σ) F H Q (optE o cs)) : ∃ r, o = some r ∧ Aft K F H cs Q r := by
  cases o with
  | none => exact h.elim
  | some r => exact ⟨r, rfl, h⟩
theorem dOp_run {g : G2} {fa fb : FE} {Q : VK} (q : rdE K W (dOp g fa fb) σ H Q) : rdE K W fa σ H fun x H1 => rdE K W fb σ H1 fun y H2 => rd2 K g x y H2 Q := by
  obtain ⟨F0, H0, F, sl, cs, R, o⟩ := q
  refine OutE.then_run R o fun r c v F1 H1 e n w k fv R1 o1 => ?_
  refine OutE.then_run R1 o1 fun r2 c2 v2 F2 H2 e2 n2 w2 k2 fv2 R2 o2 => ?_
  dsimp only at o2
  split at o2
  · rename_i x y ex ey
    obtain ⟨z, ez, az⟩ := OutE.aft o2
    exact ⟨F2, c2, x, y, z, w2, (k.step n2).vw w2 ex, k2.vw w2 ey, ez, az⟩
  · exact o2.elim
theorem dUn_run {g : G1} {fa : FE} {Q : VK} (q : rdE K W (dUn g fa) σ H Q) : rdE K W fa σ H fun x H1 => rd1 K g x H1 Q := by
  obtain ⟨F0, H0, F, sl, cs, R, o⟩ := q
  refine OutE.then_run R o fun r c v F1 H1 e n w k fv R1 o1 => ?_
  dsimp only at o1
  split at o1
  · rename_i x ex
    obtain ⟨z, ez, az⟩ := OutE.aft o1
    exact ⟨F1, c, x, z, w, k.vw w ex, ez, az⟩
  · exact o1.elim
end
section
variable {X : Cx} {W : WX} {pos : Pos} {a b c : Expr} {fa fb fc : FE} {g g' : G2}
theorem de_op {op : Operator} (ho : OpD X (binaryOp op) g) (ha : DE X W a fa) (hb : DE X W b fb) : DE X W (.BinOp a op b pos) (dOp g fa fb) :=
  PE.imp (pe_op ho ha hb) fun _ _ _ q => dOp_run q
theorem de_un {op : UnaryOp} {g : G1} (ho : UnD X (unaryOp op) g) (ha : DE X W a fa) : DE X W (.UnaryOp op a pos) (dUn g fa) :=
  PE.imp (pe_un ho ha) fun _ _ _ q => dUn_run q
theorem de_cmp {op : CmpOp} (ho : OpD X (compareOp op) g) (ha : DE X W a fa) (hb : DE X W b fb) (hm : behindInMarks op b = false) : DE X W (.Compare a [op] [b] pos) (dOp g fa fb) :=
  PE.imp (pe_cmpR ho ha hb hm) fun _ _ _ q => dOp_run q
/-- a truth value as a test -/
def toT (f : FE) : FT := fun sl cs => (f sl cs).then fun a => match a.1 with
  | .dat (.bl b) => .ok (b, a.2)
  | _ => .bad
theorem toT_run {K : PySem.W.Frag} {f : FE} {σ : L2.St} {H : Hp} {Q : Bool → Hp → Prop} (q : rdT K W (toT f) σ H Q) : rdE K W f σ H fun x H1 => ∃ k, x = .bl k ∧ Q k H1 := by
  obtain ⟨F0, H0, F, sl, cs, R, o⟩ := q
  refine ⟨F0, H0, F, sl, cs, R, ?_⟩
  unfold toT at o
  cases e : f sl cs with
  | ok a =>
    obtain ⟨r, c⟩ := a
    rw [e] at o
    intro v F' H' n w k fv
    simp only [Res.then] at o
    split at o
    · rename_i b
      have k' : Den F' v (.bl b) := k
      cases k'
      exact ⟨b, rfl, o F' H' n w⟩
    · exact o.elim
  | exc C fs c => rw [e] at o; exact o
  | bad => rw [e] at o; exact o.elim
theorem dt_cmp {op : CmpOp} (ho : OpD X (compareOp op) g) (ha : DE X W a fa) (hb : DE X W b fb) (hm : behindInMarks op b = false) : DT X W (.Compare a [op] [b] pos) (toT (dOp g fa fb)) :=
  PT.imp (pt_cmpR ho ha hb hm) fun _ _ _ q => dOp_run (toT_run q)
theorem dt_val {e : Expr} {f : FE} (h : DE X W e f) (he : ∀ whole, isTrue e X.env whole = (do let v ← whole; standAt e.pos; holding [v] (truthy v)) := by intro _; rfl) : DT X W e (toT f) :=
  PT.imp (pt_val h he) fun _ _ _ q => toT_run q
/-- a op1 b op2 c -/
def dChain (g g' : G2) (fa fb fc : FE) : FE := fun sl cs => (fa sl cs).then fun a => (fb sl a.2).then fun b => match a.1.view b.2, b.1.view b.2 with
  | some x, some y => match g x y with
    | some (.dat (.bl true)) => (fc sl b.2).then fun c => match b.1.view c.2, c.1.view c.2 with
      | some y, some z => optE (g' y z) c.2
      | _, _ => .bad
    | some (.dat (.bl false)) => .ok (.dat (.bl false), b.2)
    | _ => .bad
  | _, _ => .bad
theorem dChain_run {K : PySem.W.Frag} {σ : L2.St} {H : Hp} {Q : VK} (q : rdE K W (dChain g g' fa fb fc) σ H Q) : tChain (rd2 K g) (rd2 K g') (rdE K W fa) (rdE K W fb) (rdE K W fc) σ H Q := by
  obtain ⟨F0, H0, F, sl, cs, R, o⟩ := q
  refine OutE.then_run R o fun r c v F1 H1 e n w k fv R1 o1 => ?_
  refine OutE.then_run R1 o1 fun r2 c2 v2 F2 H2 e2 n2 w2 k2 fv2 R2 o2 => ?_
  dsimp only at o2
  split at o2
  · rename_i x y ex ey
    split at o2
    · rename_i eg
      refine ⟨F2, c2, x, y, _, w2, (k.step n2).vw w2 ex, k2.vw w2 ey, eg, fun v3 F3 H3 n3 w3 k3 _ => ?_⟩
      have k3' : Den F3 v3 (.bl true) := k3
      cases k3'
      refine ⟨true, rfl, ?_⟩
      rw [if_pos rfl]
      refine OutE.then_run (R2.step n3 w3) (OutE.back o2 n3 w3) fun r4 c4 v4 F4 H4 e4 n4 w4 k4 fv4 R4 o4 => ?_
      dsimp only at o4
      split at o4
      · rename_i y' z' ey' ez'
        obtain ⟨r5, e5, a5⟩ := OutE.aft o4
        exact ⟨F4, c4, y', z', r5, w4, ((k2.step n3).step n4).vw w4 ey', k4.vw w4 ez', e5, a5⟩
      · exact o4.elim
    · rename_i eg
      refine ⟨F2, c2, x, y, _, w2, (k.step n2).vw w2 ex, k2.vw w2 ey, eg, fun v3 F3 H3 n3 w3 k3 _ => ?_⟩
      have k3' : Den F3 v3 (.bl false) := k3
      cases k3'
      refine ⟨false, rfl, ?_⟩
      rw [if_neg Bool.false_ne_true]
      exact o2 _ F3 H3 n3 w3 k3 trivial
    · exact o2.elim
  · exact o2.elim
theorem de_chain {op op' : CmpOp} (ho : OpD X (compareOp op) g) (ho' : OpD X (compareOp op') g') (ha : DE X W a fa) (hb : DE X W b fb) (hc : DE X W c fc)
    (hm : lastMarks [op, op'] [b, c] = false := by with_unfolding_all rfl) : DE X W (.Compare a [op, op'] [b, c] pos) (dChain g g' fa fb fc) := PE.imp (pe_chain ho ho' ha hb hc hm) fun _ _ _ q => dChain_run q
theorem dt_chain {op op' : CmpOp} (ho : OpD X (compareOp op) g) (ho' : OpD X (compareOp op') g') (ha : DE X W a fa) (hb : DE X W b fb) (hc : DE X W c fc)
    (hm : lastMarks [op, op'] [b, c] = false := by with_unfolding_all rfl) : DT X W (.Compare a [op, op'] [b, c] pos) (toT (dChain g g' fa fb fc)) := PT.imp (pt_chain ho ho' ha hb hc hm) fun _ _ _ q => dChain_run (toT_run q)
end
end SL

/-! Sc: operators, displays, places, built-ins. -/
namespace SL
open PySem L2

/-! ### as the library's data -/
mutual
def D.py : D → PyData
  | .non => .none
  | .bl b => .bool b
  | .int i => .int i
  | .str x => .str x
  | .lst xs => .list (pyAll xs)
  | .tup xs => .tuple (pyAll xs)
  | .dct _ => .none
  | .obj _ _ => .none
  | .ref _ => .none
def pyAll : List D → List PyData
  | [] => []
  | x :: xs => D.py x :: pyAll xs
end
mutual
/-- no dict, no instance in it -/
def D.plain : D → Bool
  | .non => true
  | .bl _ => true
  | .int _ => true
  | .str _ => true
  | .lst xs => plainAll xs
  | .tup xs => plainAll xs
  | .dct _ => false
  | .obj _ _ => false
  | .ref _ => false
def plainAll : List D → Bool
  | [] => true
  | x :: xs => D.plain x && plainAll xs
end
section
variable {K : PySem.W.Frag} {F : Fz} {H : Hp}
mutual
theorem Den.dp (e : ExH F H) : ∀ {d : D} {v : V}, Den F v d → d.plain = true → Dp K H v d.py
  | .non, _, .non, _ => .non
  | .bl b, _, .bl _, _ => .bl b
  | .int i, _, .int _, _ => .int i
  | .str x, _, .str _, _ => .str x
  | .lst xs, _, .lst h a, p => .lst (SqL.of (e _ _ h)) (DenAll.dp e a p)
  | .tup xs, _, .tup h a, p => .tup (SqT.of (e _ _ h)) (DenAll.dp e a p)
  | .dct _, _, _, p => nomatch p
  | .obj _ _, _, _, p => nomatch p
  | .ref _, _, _, p => nomatch p
theorem DenAll.dp (e : ExH F H) : ∀ {ds : List D} {vs : List V}, DenAll F vs ds → plainAll ds = true → DpAll K H vs (pyAll ds)
  | [], _, .nil, _ => .nil
  | d :: ds, _, .cons h t, p => by
    have q := Bool.and_eq_true_iff.mp (show (D.plain d && plainAll ds) = true from p)
    exact .cons (Den.dp e h q.1) (DenAll.dp e t q.2)
end
theorem Vw.dp {v : V} {d : D} (h : Vw F H v d) (e : ExH F H) (p : d.plain = true) : Dp K H v d.py := by
  rcases h with h | ⟨q, o, c, rfl, h1, h2, rfl⟩
  · exact h.dp e p
  · cases c with
    | lst ds =>
      cases o <;> first | exact h2.elim | skip
      exact .lst (SqL.of h1) (DenAll.dp e h2 p)
    | dct _ => exact nomatch p
    | obj _ _ => exact nomatch p
    | tab _ _ => exact nomatch p
end

/-! ### operators -/
def gI2 (C : Int → Int → Bool) (f : Int → Int → D) : G2 := fun a b => match a, b with
  | .int i, .int j => if C i j then some (.dat (f i j)) else none
  | _, _ => none
def gSub : G2 := gI2 (fun _ _ => true) fun i j => .int (i - j)
def gAdd : G2 := fun a b => match a, b with
  | .int i, .int j => some (.dat (.int (i + j)))
  | .str i, .str j => if i.length + j.length ≤ sizeLine then some (.dat (.str (i ++ j))) else none
  | .lst i, .lst j => if i.length + j.length ≤ sizeLine then some (.new (.lst (i ++ j))) else none
  | _, _ => none
def mulB (i j : Int) : Bool := (decide (-(2 ^ 64) < i) && decide (i < 2 ^ 64)) || (decide (-(2 ^ 64) < j) && decide (j < 2 ^ 64))
def gMul : G2 := fun a b => match a, b with
  | .int i, .int j => if mulB i j then some (.dat (.int (i * j))) else none
  | .lst xs, .int k => if -(2 ^ 63) ≤ k ∧ k < 2 ^ 63 ∧ xs.length * k.toNat ≤ sizeLine then some (.new (.lst (List.replicate k.toNat xs).flatten)) else none
  | _, _ => none
def gFdiv : G2 := gI2 (fun _ j => decide (0 < j) && decide (j < 1073741824)) fun i j => .int (i / j)
def gMod : G2 := gI2 (fun _ j => decide (0 < j)) fun i j => .int (i % j)
def gPow : G2 := gI2 (fun i j => decide (0 ≤ j) && (decide (j ≤ 1000000) && decide (i.natAbs < 2 ^ 64))) fun i j => .int (i ^ j.toNat)
def gLt : G2 := gI2 (fun _ _ => true) fun i j => .bl (decide (i < j))
def gLe : G2 := gI2 (fun _ _ => true) fun i j => .bl (decide (i ≤ j))
def gGt : G2 := gI2 (fun _ _ => true) fun i j => .bl (decide (j < i))
def gGe : G2 := gI2 (fun _ _ => true) fun i j => .bl (decide (j ≤ i))
def eqD (a b : D) : Bool := PyData.eqv a.py b.py
def eqOk (a b : D) : Bool := (a.plain && b.plain) && (SeqAt.shaped a.py && SeqAt.shaped b.py)
/-- == of flat things -/
def scalD : D → D → Option Bool
  | .non, .non => some true
  | .int i, .int j => some (decide (i = j))
  | .bl i, .bl j => some (decide (i = j))
  | .str i, .str j => some (decide (i = j))
  | .non, .int _ => some false
  | .int _, .non => some false
  | .non, .bl _ => some false
  | .bl _, .non => some false
  | .non, .str _ => some false
  | .str _, .non => some false
  | .int _, .str _ => some false
  | .str _, .int _ => some false
  | .bl _, .str _ => some false
  | .str _, .bl _ => some false
  | _, _ => none
def eqB (a b : D) : Option Bool := match scalD a b with
  | some k => some k
  | none => if eqOk a b then some (eqD a b) else none
def gEq : G2 := fun a b => match eqB a b with
  | some k => some (.dat (.bl k))
  | none => none
def gNe : G2 := fun a b => match eqB a b with
  | some k => some (.dat (.bl (!k)))
  | none => none
def isNon : D → Bool
  | .non => true
  | _ => false
def gIsN : G2 := fun a b => match b with
  | .non => some (.dat (.bl (isNon a)))
  | _ => none
def gNotN : G2 := fun a b => match b with
  | .non => some (.dat (.bl (!isNon a)))
  | _ => none

section
variable {X : Cx} {W : WX} {pos : Pos}
theorem gI2_inv {C : Int → Int → Bool} {f : Int → Int → D} {a b : D} {r : RV} (h : gI2 C f a b = some r) : ∃ i j, a = .int i ∧ b = .int j ∧ C i j = true ∧ r = .dat (f i j) := by
  unfold gI2 at h
  split at h
  · split at h
    · rename_i c; cases h; exact ⟨_, _, rfl, rfl, c, rfl⟩
    · cases h
  · cases h
theorem opI {f : Value → Value → Sem Value} {C : Int → Int → Prop} {g : Int → Int → V} {Cb : Int → Int → Bool} {gd : Int → Int → D} (h : OpR X f (rI C g)) (hC : ∀ i j, Cb i j = true → C i j) (hg : ∀ F i j, Den F (g i j) (gd i j)) : OpD X f (gI2 Cb gd) :=
  OpR.imp h fun x y H Q ⟨F, cs, a, b, r, w, va, vb, e, k⟩ => by
    obtain ⟨i, j, rfl, rfl, c, rfl⟩ := gI2_inv e
    exact ⟨i, j, va.int, vb.int, hC i j c, k.dat w (hg F i j)⟩
theorem opI0 {f : Value → Value → Sem Value} {g : Int → Int → V} {gd : Int → Int → D} (h : OpR X f (rI0 g)) (hg : ∀ F i j, Den F (g i j) (gd i j)) : OpD X f (gI2 (fun _ _ => true) gd) :=
  OpR.imp h fun x y H Q ⟨F, cs, a, b, r, w, va, vb, e, k⟩ => by
    obtain ⟨i, j, rfl, rfl, c, rfl⟩ := gI2_inv e
    exact ⟨i, j, va.int, vb.int, k.dat w (hg F i j)⟩
theorem o_sub : OpD X (binaryOp .Sub) gSub := opI0 op_sub fun _ _ _ => .int _
theorem o_fdiv : OpD X (binaryOp .FloorDiv) gFdiv := opI op_fdiv (fun i j h => by have q := Bool.and_eq_true_iff.mp h; exact ⟨of_decide_eq_true q.1, of_decide_eq_true q.2⟩) fun _ _ _ => .int _
theorem o_mod : OpD X (binaryOp .Mod) gMod := opI op_mod (fun i j h => of_decide_eq_true h) fun _ _ _ => .int _
theorem o_pow : OpD X (binaryOp .Pow) gPow := opI op_pow (fun i j h => by have q := Bool.and_eq_true_iff.mp h; have q2 := Bool.and_eq_true_iff.mp q.2; exact ⟨of_decide_eq_true q.1, of_decide_eq_true q2.1, of_decide_eq_true q2.2⟩) fun _ _ _ => .int _
theorem o_lt : OpD X (compareOp .Lt) gLt := opI0 op_lt fun _ _ _ => .bl _
theorem o_le : OpD X (compareOp .LtE) gLe := opI0 op_le fun _ _ _ => .bl _
theorem o_gt : OpD X (compareOp .Gt) gGt := opI0 op_gt fun _ _ _ => .bl _
theorem o_ge : OpD X (compareOp .GtE) gGe := opI0 op_ge fun _ _ _ => .bl _
theorem o_add : OpD X (binaryOp .Add) gAdd :=
  OpR.imp (OpR.or op_add (OpR.or op_add_str op_cat)) fun x y H Q ⟨F, cs, a, b, r, w, va, vb, e, k⟩ => by
    unfold gAdd at e
    split at e
    · cases e; exact .inl ⟨_, _, va.int, vb.int, k.int w⟩
    · split at e
      · rename_i hl; cases e; exact .inr (.inl ⟨_, _, va.str, vb.str, hl, k.str w⟩)
      · cases e
    · split at e
      · rename_i hl; cases e
        obtain ⟨p, vs, rfl, hp, d1⟩ := va.lst w.ex
        obtain ⟨q, ws, rfl, hq, d2⟩ := vb.lst w.ex
        refine .inr (.inr ⟨p, q, vs, ws, rfl, rfl, hp, hq, by rw [d1.length, d2.length]; exact hl, fun n hn => ?_⟩)
        exact k.new w hn (d1.append d2)
      · cases e
    · cases e
theorem DenAll.rep {F : Fz} {vs : List V} {ds : List D} (h : DenAll F vs ds) : ∀ n : Nat, DenAll F (List.replicate n vs).flatten (List.replicate n ds).flatten
  | 0 => .nil
  | n + 1 => by
    rw [List.replicate_succ, List.replicate_succ, List.flatten_cons, List.flatten_cons]
    exact h.append (DenAll.rep h n)
theorem o_mul : OpD X (binaryOp .Mult) gMul :=
  OpR.imp (OpR.or op_mul op_rep) fun x y H Q ⟨F, cs, a, b, r, w, va, vb, e, k⟩ => by
    unfold gMul at e
    split at e
    · split at e
      · rename_i i j c; cases e
        refine .inl ⟨i, j, va.int, vb.int, ?_, k.int w⟩
        rcases Bool.or_eq_true_iff.mp c with q | q
        · have z := Bool.and_eq_true_iff.mp q; exact .inl ⟨of_decide_eq_true z.1, of_decide_eq_true z.2⟩
        · have z := Bool.and_eq_true_iff.mp q; exact .inr ⟨of_decide_eq_true z.1, of_decide_eq_true z.2⟩
      · cases e
    · split at e
      · rename_i xs j c; cases e
        obtain ⟨p, vs, rfl, hp, d1⟩ := va.lst w.ex
        refine .inr ⟨p, j, vs, rfl, vb.int, hp, c.1, c.2.1, by rw [d1.length]; exact c.2.2, fun n hn => ?_⟩
        exact k.new w hn (d1.rep _)
      · cases e
    · cases e
theorem eqOk_inv {a b : D} (h : eqOk a b = true) : a.plain = true ∧ b.plain = true ∧ SeqAt.shaped a.py = true ∧ SeqAt.shaped b.py = true := by
  have q := Bool.and_eq_true_iff.mp h
  have q1 := Bool.and_eq_true_iff.mp q.1
  have q2 := Bool.and_eq_true_iff.mp q.2
  exact ⟨q1.1, q1.2, q2.1, q2.2⟩
theorem scalD_ok {F : Fz} {H : Hp} {a b : D} {x y : V} {k : Bool} (h : scalD a b = some k) (va : Vw F H x a) (vb : Vw F H y b) : scal x y = true ∧ decide (x = y) = k := by
  cases a <;> cases b <;> first | (cases h; done) | skip
  all_goals
    first
    | (rw [va.non, vb.non]; cases h; exact ⟨rfl, by simp⟩)
    | (rw [va.int, vb.int]; cases h; exact ⟨rfl, by simp⟩)
    | (rw [va.bl, vb.bl]; cases h; exact ⟨rfl, by simp⟩)
    | (rw [va.str, vb.str]; cases h; exact ⟨rfl, by simp⟩)
    | (rw [va.non, vb.int]; cases h; exact ⟨rfl, by simp⟩)
    | (rw [va.int, vb.non]; cases h; exact ⟨rfl, by simp⟩)
    | (rw [va.non, vb.bl]; cases h; exact ⟨rfl, by simp⟩)
    | (rw [va.bl, vb.non]; cases h; exact ⟨rfl, by simp⟩)
    | (rw [va.non, vb.str]; cases h; exact ⟨rfl, by simp⟩)
    | (rw [va.str, vb.non]; cases h; exact ⟨rfl, by simp⟩)
    | (rw [va.int, vb.str]; cases h; exact ⟨rfl, by simp⟩)
    | (rw [va.str, vb.int]; cases h; exact ⟨rfl, by simp⟩)
    | (rw [va.bl, vb.str]; cases h; exact ⟨rfl, by simp⟩)
    | (rw [va.str, vb.bl]; cases h; exact ⟨rfl, by simp⟩)
theorem eqB_inv {a b : D} {k : Bool} (h : eqB a b = some k) : scalD a b = some k ∨ (eqOk a b = true ∧ eqD a b = k) := by
  unfold eqB at h
  split at h
  · rename_i j e; cases h; exact .inl e
  · split at h
    · rename_i c; cases h; exact .inr ⟨c, rfl⟩
    · cases h
theorem o_eq (hu : X.A.units + 64 < cLine) : OpD X (compareOp .Eq) gEq :=
  OpR.imp (OpR.or op_eq (op_eqD hu)) fun x y H Q ⟨F, cs, a, b, r, w, va, vb, e, k⟩ => by
    unfold gEq at e
    split at e
    · rename_i c ec; cases e
      rcases eqB_inv ec with h | ⟨h, h2⟩
      · obtain ⟨s1, s2⟩ := scalD_ok h va vb
        exact .inl ⟨s1, by rw [s2]; exact k.bl w⟩
      · obtain ⟨c1, c2, c3, c4⟩ := eqOk_inv h
        refine .inr ⟨a.py, b.py, va.dp w.ex c1, vb.dp w.ex c2, c3, c4, ?_⟩
        have h3 : PyData.eqv a.py b.py = c := h2
        rw [h3]; exact k.bl w
    · cases e
theorem o_ne (hu : X.A.units + 64 < cLine) : OpD X (compareOp .NotEq) gNe :=
  OpR.imp (OpR.or op_ne (op_neD hu)) fun x y H Q ⟨F, cs, a, b, r, w, va, vb, e, k⟩ => by
    unfold gNe at e
    split at e
    · rename_i c ec; cases e
      rcases eqB_inv ec with h | ⟨h, h2⟩
      · obtain ⟨s1, s2⟩ := scalD_ok h va vb
        exact .inl ⟨s1, by rw [s2]; exact k.bl w⟩
      · obtain ⟨c1, c2, c3, c4⟩ := eqOk_inv h
        refine .inr ⟨a.py, b.py, va.dp w.ex c1, vb.dp w.ex c2, c3, c4, ?_⟩
        have h3 : PyData.eqv a.py b.py = c := h2
        rw [h3]; exact k.bl w
    · cases e
theorem Vw.isNon {F : Fz} {H : Hp} {v : V} {d : D} (h : Vw F H v d) : decide (v = .non) = SL.isNon d := by
  rcases h with h | ⟨p, o, c, rfl, _, _, rfl⟩
  · cases h <;> rfl
  · cases c <;> rfl
theorem o_isN : OpD X (compareOp .Is) gIsN :=
  OpR.imp op_isN fun x y H Q ⟨F, cs, a, b, r, w, va, vb, e, k⟩ => by
    unfold gIsN at e
    split at e
    · cases e
      exact ⟨vb.non, by rw [va.isNon]; exact k.bl w⟩
    · cases e
theorem o_notN : OpD X (compareOp .IsNot) gNotN :=
  OpR.imp op_notN fun x y H Q ⟨F, cs, a, b, r, w, va, vb, e, k⟩ => by
    unfold gNotN at e
    split at e
    · cases e
      exact ⟨vb.non, by rw [va.isNon]; exact k.bl w⟩
    · cases e
end

/-! ### and, or, not, if -/
def dAnd (fa fb : FE) : FE := fun sl cs => (fa sl cs).then fun a => match a.1 with
  | .dat (.bl true) => fb sl a.2
  | .dat (.bl false) => .ok (.dat (.bl false), a.2)
  | _ => .bad
def dOr (fa fb : FE) : FE := fun sl cs => (fa sl cs).then fun a => match a.1 with
  | .dat (.bl true) => .ok (.dat (.bl true), a.2)
  | .dat (.bl false) => fb sl a.2
  | _ => .bad
def dNot (fa : FE) : FE := fun sl cs => (fa sl cs).then fun a => match a.1 with
  | .dat (.bl b) => .ok (.dat (.bl (!b)), a.2)
  | _ => .bad
def tAnd' (fa fb : FT) : FT := fun sl cs => (fa sl cs).then fun a => if a.1 then fb sl a.2 else .ok (false, a.2)
def tOr' (fa fb : FT) : FT := fun sl cs => (fa sl cs).then fun a => if a.1 then .ok (true, a.2) else fb sl a.2
def tNot' (fa : FT) : FT := fun sl cs => (fa sl cs).then fun a => .ok (!a.1, a.2)
def dIf (ft : FT) (fa fb : FE) : FE := fun sl cs => (ft sl cs).then fun a => if a.1 then fa sl a.2 else fb sl a.2
section
variable {K : PySem.W.Frag} {W : WX} {F0 F : Fz} {H0 H : Hp} {sl : List SV} {cs : List CO} {σ : L2.St}
theorem OutT.run_E {f : FT} {k : Bool × List CO → Res (RV × List CO)} {Q : VK} {Q' : Bool → Hp → Prop} (R : Rel K F0 H0 F H sl cs σ) (o : OutE K (atX W σ) F H Q ((f sl cs).then k))
    (h : ∀ b c F' H', f sl cs = .ok (b, c) → Nx F H F' H' → Wok F' H' c → Rel K F0 H0 F' H' sl c σ → OutE K (atX W σ) F' H' Q (k (b, c)) → Q' b H') : rdT K W f σ H Q' := by
  refine ⟨F0, H0, F, sl, cs, R, ?_⟩
  cases e : f sl cs with
  | ok a =>
    obtain ⟨r, c⟩ := a
    rw [e] at o
    intro F' H' n w
    exact h r c F' H' e n w (R.step n w) (OutE.back o n w)
  | exc C fs c => rw [e] at o; exact o
  | bad => rw [e] at o; exact o.elim
theorem OutT.run_T {f : FT} {k : Bool × List CO → Res (Bool × List CO)} {Q : Bool → Hp → Prop} {Q' : Bool → Hp → Prop} (R : Rel K F0 H0 F H sl cs σ) (o : OutT K (atX W σ) F H Q ((f sl cs).then k))
    (h : ∀ b c F' H', f sl cs = .ok (b, c) → Nx F H F' H' → Wok F' H' c → Rel K F0 H0 F' H' sl c σ → OutT K (atX W σ) F' H' Q (k (b, c)) → Q' b H') : rdT K W f σ H Q' := by
  refine ⟨F0, H0, F, sl, cs, R, ?_⟩
  cases e : f sl cs with
  | ok a =>
    obtain ⟨r, c⟩ := a
    rw [e] at o
    intro F' H' n w
    exact h r c F' H' e n w (R.step n w) (OutT.back o n w)
  | exc C fs c => rw [e] at o; exact o
  | bad => rw [e] at o; exact o.elim
end
section
variable {X : Cx} {W : WX} {pos : Pos} {a b c : Expr} {fa fb fc : FE} {ta tb : FT} {rest : List Expr}
theorem de_one {op : BoolOp} (h : DE X W a fa) : DE X W (.BoolOp op [a] pos) fa := pe_one h
theorem de_and (ha : DE X W a fa) (hb : DE X W (.BoolOp .And (b :: rest) pos) fb) : DE X W (.BoolOp .And (a :: b :: rest) pos) (dAnd fa fb) := PE.imp (pe_and ha hb) fun σ H Q q => by
  obtain ⟨F0, H0, F, sl, cs, R, o⟩ := q
  refine OutE.then_run R o fun r c v F1 H1 e n w k fv R1 o1 => ?_
  dsimp only at o1
  split at o1
  · have k' : Den F1 v (.bl true) := k
    cases k'
    refine ⟨true, rfl, ?_⟩
    rw [if_pos rfl]
    exact ⟨F0, H0, F1, sl, c, R1, o1⟩
  · have k' : Den F1 v (.bl false) := k
    cases k'
    refine ⟨false, rfl, ?_⟩
    rw [if_neg Bool.false_ne_true]
    exact o1 _ F1 H1 .refl w (.bl false) trivial
  · exact o1.elim
theorem de_or (ha : DE X W a fa) (hb : DE X W (.BoolOp .Or (b :: rest) pos) fb) : DE X W (.BoolOp .Or (a :: b :: rest) pos) (dOr fa fb) := PE.imp (pe_or ha hb) fun σ H Q q => by
  obtain ⟨F0, H0, F, sl, cs, R, o⟩ := q
  refine OutE.then_run R o fun r c v F1 H1 e n w k fv R1 o1 => ?_
  dsimp only at o1
  split at o1
  · have k' : Den F1 v (.bl true) := k
    cases k'
    refine ⟨true, rfl, ?_⟩
    rw [if_pos rfl]
    exact o1 _ F1 H1 .refl w (.bl true) trivial
  · have k' : Den F1 v (.bl false) := k
    cases k'
    refine ⟨false, rfl, ?_⟩
    rw [if_neg Bool.false_ne_true]
    exact ⟨F0, H0, F1, sl, c, R1, o1⟩
  · exact o1.elim
theorem de_not (ha : DE X W a fa) : DE X W (.UnaryOp .Not a pos) (dNot fa) := PE.imp (pe_not ha) fun σ H Q q => by
  obtain ⟨F0, H0, F, sl, cs, R, o⟩ := q
  refine OutE.then_run R o fun r c v F1 H1 e n w k fv R1 o1 => ?_
  dsimp only at o1
  split at o1
  · rename_i b
    have k' : Den F1 v (.bl b) := k
    cases k'
    exact ⟨b, rfl, o1 _ F1 H1 .refl w (.bl _) trivial⟩
  · exact o1.elim
theorem de_if (hc : DT X W c ta) (ha : DE X W a fa) (hb : DE X W b fb) : DE X W (.IfExp c a b pos) (dIf ta fa fb) := PE.imp (pe_ifExp hc ha hb) fun σ H Q q => by
  obtain ⟨F0, H0, F, sl, cs, R, o⟩ := q
  refine OutT.run_E R o fun t c F1 H1 e n w R1 o1 => ?_
  cases t with
  | true => rw [if_pos rfl]; exact ⟨F0, H0, F1, sl, c, R1, o1⟩
  | false => rw [if_neg Bool.false_ne_true]; exact ⟨F0, H0, F1, sl, c, R1, o1⟩
theorem dw_and1 (ha : DT X W a ta) : DW X W (.BoolOp .And [a] pos) ta := pw_and1 ha
theorem dw_or1 (ha : DT X W a ta) : DW X W (.BoolOp .Or [a] pos) ta := pw_or1 ha
theorem dw_and (ha : DT X W a ta) (hb : DW X W (.BoolOp .And (b :: rest) pos) tb) : DW X W (.BoolOp .And (a :: b :: rest) pos) (tAnd' ta tb) := PW.imp (pw_and ha hb) fun σ H Q q => by
  obtain ⟨F0, H0, F, sl, cs, R, o⟩ := q
  refine OutT.run_T R o fun t c F1 H1 e n w R1 o1 => ?_
  cases t with
  | true => rw [if_pos rfl]; exact ⟨F0, H0, F1, sl, c, R1, o1⟩
  | false => rw [if_neg Bool.false_ne_true]; exact o1 F1 H1 .refl w
theorem dw_or (ha : DT X W a ta) (hb : DW X W (.BoolOp .Or (b :: rest) pos) tb) : DW X W (.BoolOp .Or (a :: b :: rest) pos) (tOr' ta tb) := PW.imp (pw_or ha hb) fun σ H Q q => by
  obtain ⟨F0, H0, F, sl, cs, R, o⟩ := q
  refine OutT.run_T R o fun t c F1 H1 e n w R1 o1 => ?_
  cases t with
  | true => rw [if_pos rfl]; exact o1 F1 H1 .refl w
  | false => rw [if_neg Bool.false_ne_true]; exact ⟨F0, H0, F1, sl, c, R1, o1⟩
theorem dt_not (ha : DT X W a ta) : DT X W (.UnaryOp .Not a pos) (tNot' ta) := PT.imp (pt_not ha) fun σ H Q q => by
  obtain ⟨F0, H0, F, sl, cs, R, o⟩ := q
  exact OutT.run_T R o fun t c F1 H1 e n w R1 o1 => o1 F1 H1 .refl w
end

/-! ### arguments, displays -/
/-- a new object is frozen -/
def dFrz (f : FE) : FE := fun sl cs => (f sl cs).then fun a => match a.1 with
  | .new c => .ok (.dat c.D, a.2)
  | .own _ => .bad
  | r => .ok (r, a.2)
section
variable {X : Cx} {W : WX} {pos : Pos} {e : Expr} {f : FE}
theorem de_frz (h : DE X W e f) : DE X W e (dFrz f) := PE.imp h fun σ H Q q => by
  obtain ⟨F0, H0, F, sl, cs, R, o⟩ := q
  refine ⟨F0, H0, F, sl, cs, R, ?_⟩
  unfold dFrz at o
  cases e : f sl cs with
  | ok a =>
    obtain ⟨r, c⟩ := a
    rw [e] at o
    intro v F1 H1 n w k fv
    cases r with
    | new co =>
      obtain ⟨p, rfl, l⟩ := k
      obtain ⟨ho, w2, x, d, hp⟩ := w.freeze l
      have hpn : H p = none := fv p rfl
      refine o _ (F1.up p ho) H1 ⟨n.ex.trans x, n.new, fun b u hb => ?_, n.st⟩ w2 d trivial
      by_cases hq : b = p
      · subst hq; exact .inr hpn
      · rw [up_ne hq] at hb; exact n.gro b u hb
    | own co => exact o.elim
    | dat d => exact o v F1 H1 n w k trivial
    | scr ns => exact o v F1 H1 n w k trivial
  | exc C fs c => rw [e] at o; exact o
  | bad => rw [e] at o; exact o.elim
/-- a new object becomes a cell -/
def dCell (f : FE) : FE := fun sl cs => (f sl cs).then fun a => match a.1 with
  | .new c => .ok (.dat (.ref a.2.length), a.2 ++ [c])
  | .own _ => .bad
  | r => .ok (r, a.2)
theorem de_cell (h : DE X W e f) : DE X W e (dCell f) := PE.imp h fun σ H Q q => by
  obtain ⟨F0, H0, F, sl, cs, R, o⟩ := q
  refine ⟨F0, H0, F, sl, cs, R, ?_⟩
  unfold dCell at o
  cases e : f sl cs with
  | ok a =>
    obtain ⟨r, c⟩ := a
    rw [e] at o
    intro v F1 H1 n w k fv
    cases r with
    | new co =>
      obtain ⟨p, rfl, l⟩ := k
      obtain ⟨w2, hp⟩ := w.pin l
      have hpn : H p = none := fv p rfl
      refine o _ (F1.pin p) H1 ⟨n.ex.trans .pin, fun q hq => ?_, n.gro, n.st⟩ w2 (.ref hp) trivial
      rcases List.mem_append.mp (show q ∈ F1.μ ++ [p] from hq) with h | h
      · exact n.new q h
      · rw [List.mem_singleton.mp h]; exact .inr hpn
    | own co => exact o.elim
    | dat d => exact o v F1 H1 n w k trivial
    | scr ns => exact o v F1 H1 n w k trivial
  | exc C fs c => rw [e] at o; exact o
  | bad => rw [e] at o; exact o.elim
def dNil : FA := fun _ cs => .ok ([], cs)
def dCons (f : FE) (r : FA) : FA := fun sl cs => (dFrz f sl cs).then fun a => (r sl a.2).then fun b => .ok (a.1 :: b.1, b.2)
theorem OutE.run_A {K : PySem.W.Frag} {F0 F : Fz} {H0 H : Hp} {sl : List SV} {cs : List CO} {σ : L2.St} {f : FE} {k : RV × List CO → Res (List RV × List CO)} {Q : List V → Hp → Prop} {Q' : VK} (R : Rel K F0 H0 F H sl cs σ) (o : OutA K (atX W σ) F H Q ((f sl cs).then k))
    (h : ∀ r c v F' H', f sl cs = .ok (r, c) → Nx F H F' H' → Wok F' H' c → RvOk K F' H' v r → FreshV H r v → Rel K F0 H0 F' H' sl c σ → OutA K (atX W σ) F' H' Q (k (r, c)) → Q' v H') : rdE K W f σ H Q' := by
  refine ⟨F0, H0, F, sl, cs, R, ?_⟩
  cases e : f sl cs with
  | ok a =>
    obtain ⟨r, c⟩ := a
    rw [e] at o
    intro v F' H' n w k fv
    exact h r c v F' H' e n w k fv (R.step n w) (OutA.back o n w)
  | exc C fs c => rw [e] at o; exact o
  | bad => rw [e] at o; exact o.elim
theorem RvAll.step {K : PySem.W.Frag} {F F' : Fz} {H H' : Hp} {vs : List V} {rs : List RV} (h : RvAll K F H vs rs) (n : Nx F H F' H') : RvAll K F' H' vs rs := by
  induction h with
  | nil => exact .nil
  | cons h _ t => exact .cons (h.step n) t
theorem da_nil : DA X W [] dNil := PA.imp pa_nil fun σ H Q q => by
  obtain ⟨F0, H0, F, sl, cs, R, o⟩ := q
  exact o [] F H .refl R.w .nil
theorem da_cons {es : List Expr} {fr : FA} (h : DE X W e f) (k : DA X W es fr) (hs : starEach (e :: es) X.env = (false, eval e X.env) :: starEach es X.env := by rfl) : DA X W (e :: es) (dCons f fr) := PA.imp (pa_cons (de_frz h) k hs) fun σ H Q q => by
  obtain ⟨F0, H0, F, sl, cs, R, o⟩ := q
  refine OutE.run_A R o fun r c v F1 H1 e1 n w k fv R1 o1 => ?_
  refine ⟨F0, H0, F1, sl, c, R1, ?_⟩
  dsimp only at o1
  cases e2 : fr sl c with
  | ok b =>
    obtain ⟨rs, c2⟩ := b
    rw [e2] at o1
    intro vs F2 H2 n2 w2 k2
    exact o1 _ F2 H2 n2 w2 (.cons (k.step n2) k2)
  | exc C fs c2 => rw [e2] at o1; exact o1
  | bad => rw [e2] at o1; exact o1.elim
end
/-- all of them data -/
def datAll : List RV → Option (List D)
  | [] => some []
  | .dat d :: r => (datAll r).map (d :: ·)
  | _ :: _ => none
theorem datAll_ok {K : PySem.W.Frag} {F : Fz} {H : Hp} {vs : List V} {rs : List RV} (h : RvAll K F H vs rs) : ∀ {ds : List D}, datAll rs = some ds → DenAll F vs ds := by
  induction h with
  | nil => intro ds e; cases e; exact .nil
  | @cons v vs r rs h t ih =>
    intro ds e
    cases r with
    | dat d =>
      unfold datAll at e
      cases q : datAll rs with
      | none => rw [q] at e; cases e
      | some l => rw [q] at e; cases e; exact .cons h (ih q)
    | _ => cases e
def dTup (fa : FA) : FE := fun sl cs => (fa sl cs).then fun a => match datAll a.1 with
  | some ds => if ds.length ≤ sizeLine then .ok (.dat (.tup ds), a.2) else .bad
  | none => .bad
def dLst (fa : FA) : FE := fun sl cs => (fa sl cs).then fun a => match datAll a.1 with
  | some ds => if ds.length ≤ sizeLine then .ok (.new (.lst ds), a.2) else .bad
  | none => .bad
section
variable {X : Cx} {W : WX} {pos : Pos} {e : Expr} {es : List Expr} {f : FE} {fa : FA}
theorem OutA.run_E {K : PySem.W.Frag} {F0 F : Fz} {H0 H : Hp} {sl : List SV} {cs : List CO} {σ : L2.St} {f : FA} {k : List RV × List CO → Res (RV × List CO)} {Q : VK} {Q' : List V → Hp → Prop} (R : Rel K F0 H0 F H sl cs σ) (o : OutE K (atX W σ) F H Q ((f sl cs).then k))
    (h : ∀ r c v F' H', f sl cs = .ok (r, c) → Nx F H F' H' → Wok F' H' c → RvAll K F' H' v r → Rel K F0 H0 F' H' sl c σ → OutE K (atX W σ) F' H' Q (k (r, c)) → Q' v H') : rdA K W f σ H Q' := by
  refine ⟨F0, H0, F, sl, cs, R, ?_⟩
  cases e : f sl cs with
  | ok a =>
    obtain ⟨r, c⟩ := a
    rw [e] at o
    intro v F' H' n w k
    exact h r c v F' H' e n w k (R.step n w) (OutE.back o n w)
  | exc C fs c => rw [e] at o; exact o
  | bad => rw [e] at o; exact o.elim
theorem de_tup {k : Nat} (h : DA X W es fa) : DE X W (.Tuple es k pos) (dTup fa) := PE.imp (pe_tup h) fun σ H Q q => by
  obtain ⟨F0, H0, F, sl, cs, R, o⟩ := q
  refine OutA.run_E R o fun rs c vs F1 H1 e1 n w k R1 o1 => ?_
  dsimp only at o1
  split at o1
  · rename_i ds ed
    have dn := datAll_ok k ed
    split at o1
    · rename_i hl
      refine ⟨by rw [dn.length]; exact hl, fun p hp => ?_⟩
      refine Aft.tup (cs := c) o1 w hp (.tup up_same (dn.mono (.up ?_)))
      cases z : F1 p with
      | none => rfl
      | some u => have := w.ex _ u z; rw [hp] at this; cases this
    · exact o1.elim
  · exact o1.elim
theorem de_lst (h : DA X W es fa) : DE X W (.List es pos) (dLst fa) := PE.imp (pe_lst h) fun σ H Q q => by
  obtain ⟨F0, H0, F, sl, cs, R, o⟩ := q
  refine OutA.run_E R o fun rs c vs F1 H1 e1 n w k R1 o1 => ?_
  dsimp only at o1
  split at o1
  · rename_i ds ed
    have dn := datAll_ok k ed
    split at o1
    · rename_i hl
      refine ⟨by rw [dn.length]; exact hl, fun p hp => ?_⟩
      exact Aft.new (cs := c) o1 w hp dn
    · exact o1.elim
  · exact o1.elim
end

/-! ### places -/
def gIx : G2 := fun a b => match a, b with
  | .lst xs, .int i => (atI xs i).map .dat
  | .tup xs, .int i => (atI xs i).map .dat
  | .str z, .int i => if z.length ≤ sizeLine then (atI z.cps.toList i).map fun c => .dat (.str ⟨#[c]⟩) else none
  | _, _ => none
theorem DenAll.atI {F : Fz} {vs : List V} {ds : List D} (h : DenAll F vs ds) {i : Int} {d : D} (e : L2.atI ds i = some d) : ∃ v, L2.atI vs i = some v ∧ Den F v d := by
  unfold L2.atI at e ⊢
  rw [h.length]
  cases q : ixN ds.length i with
  | none => rw [q] at e; cases e
  | some j => rw [q] at e; exact h.get e
section
variable {X : Cx} {W : WX} {pos : Pos} {a b : Expr} {fa fb : FE}
theorem de_ix (ha : DE X W a fa) (hb : DE X W b fb) (hs : PlainIx b) : DE X W (.Subscript a b pos) (dOp gIx fa fb) := PE.imp (pe_ix ix_seq ha hb hs) fun σ H Q q =>
  (rdE_imp (dOp_run q)) fun x H1 q1 => (rdE_imp q1) fun y H2 ⟨F, cs, a, b, r, w, va, vb, e, k⟩ => by
    unfold gIx at e
    split at e
    · rename_i xs i
      cases z : L2.atI xs i with
      | none => rw [z] at e; cases e
      | some d =>
        rw [z] at e; cases e
        obtain ⟨p, vs, rfl, hp, d1⟩ := va.lst w.ex
        obtain ⟨v, e1, e2⟩ := d1.atI z
        exact .inl ⟨p, vs, i, v, rfl, vb.int, SqL.of hp, e1, k.dat w e2⟩
    · rename_i xs i
      cases z : L2.atI xs i with
      | none => rw [z] at e; cases e
      | some d =>
        rw [z] at e; cases e
        obtain ⟨p, vs, rfl, hp, d1⟩ := va.tup w.ex
        obtain ⟨v, e1, e2⟩ := d1.atI z
        exact .inr (.inl ⟨p, vs, i, v, rfl, vb.int, SqT.of hp, e1, k.dat w e2⟩)
    · rename_i z i
      split at e
      · rename_i hl
        cases q : L2.atI z.cps.toList i with
        | none => rw [q] at e; cases e
        | some c =>
          rw [q] at e; cases e
          exact .inr (.inr ⟨z, i, c, va.str, vb.int, hl, q, k.str w⟩)
      · cases e
    · cases e
where
  rdE_imp {K : PySem.W.Frag} {f : FE} {σ : L2.St} {H : Hp} {Q Q' : VK} (q : rdE K W f σ H Q) (h : ∀ v H', Q v H' → Q' v H') : rdE K W f σ H Q' := by
    obtain ⟨F0, H0, F, sl, cs, R, o⟩ := q
    refine ⟨F0, H0, F, sl, cs, R, ?_⟩
    cases e : f sl cs with
    | ok a => rw [e] at o; exact fun v F' H' n w k fv => h _ _ (o v F' H' n w k fv)
    | exc C fs c => rw [e] at o; exact o
    | bad => rw [e] at o; exact o
end

/-! ### built-ins by name -/
def dCB (g : GN) (fa : FA) : FE := fun sl cs => (fa sl cs).then fun a => match viewAll a.2 a.1 with
  | some ds => optE (g ds) a.2
  | none => .bad
where
  viewAll (cs : List CO) : List RV → Option (List D)
    | [] => some []
    | r :: rs => match r.view cs, viewAll cs rs with
      | some d, some ds => some (d :: ds)
      | _, _ => none
end SL

/-! Sd: built-ins by name, defs and their calls. -/
namespace SL
open PySem L2

/-! ### arguments that are only looked at -/
def dConsV (f : FE) (r : FA) : FA := fun sl cs => (f sl cs).then fun a => (r sl a.2).then fun b => .ok (a.1 :: b.1, b.2)
section
variable {X : Cx} {W : WX} {pos : Pos} {e : Expr} {es : List Expr} {f : FE} {fr fa : FA}
theorem daV_cons (h : DE X W e f) (k : DA X W es fr) (hs : starEach (e :: es) X.env = (false, eval e X.env) :: starEach es X.env := by rfl) : DA X W (e :: es) (dConsV f fr) := PA.imp (pa_cons h k hs) fun σ H Q q => by
  obtain ⟨F0, H0, F, sl, cs, R, o⟩ := q
  refine OutE.run_A R o fun r c v F1 H1 e1 n w k fv R1 o1 => ?_
  refine ⟨F0, H0, F1, sl, c, R1, ?_⟩
  dsimp only at o1
  cases e2 : fr sl c with
  | ok b =>
    obtain ⟨rs, c2⟩ := b
    rw [e2] at o1
    intro vs F2 H2 n2 w2 k2
    exact o1 _ F2 H2 n2 w2 (.cons (k.step n2) k2)
  | exc C fs c2 => rw [e2] at o1; exact o1
  | bad => rw [e2] at o1; exact o1.elim
theorem viewAll_ok {K : PySem.W.Frag} {F : Fz} {H : Hp} {cs : List CO} (w : Wok F H cs) {vs : List V} {rs : List RV} (h : RvAll K F H vs rs) : ∀ {ds : List D}, dCB.viewAll cs rs = some ds → VwAll F H vs ds := by
  induction h with
  | nil => intro ds e; cases e; exact .nil
  | @cons v vs r rs h t ih =>
    intro ds e
    unfold dCB.viewAll at e
    split at e
    · rename_i d l e1 e2
      cases e
      exact .cons (h.vw w e1) (ih e2)
    · cases e
theorem dCB_run {K : PySem.W.Frag} {σ : L2.St} {H : Hp} {Q : VK} {g : GN} (q : rdE K W (dCB g fa) σ H Q) : tCB (rdN K g) (rdA K W fa) σ H Q := by
  obtain ⟨F0, H0, F, sl, cs, R, o⟩ := q
  refine OutA.run_E R o fun rs c vs F1 H1 e1 n w k R1 o1 => ?_
  dsimp only at o1
  split at o1
  · rename_i ds ed
    obtain ⟨r, er, ar⟩ := OutE.aft o1
    exact ⟨F1, c, ds, r, w, viewAll_ok w k ed, er, ar⟩
  · exact o1.elim
theorem de_callB {id : String} {x : Str} {g : GN} {p : Pos} (hc : CallD X (.builtin id) g) (hg : Gl X x) (hm : X.mg x = none) (hv : bootBuiltins x = some (.builtin id)) (ha : DA X W (e :: es) fa) (hn : x ≠ "__name__" := by decide) (hdb : (x == ("__debug__" : Str)) = false := by decide)
    (he : starEach (e :: es) X.env = (false, eval e X.env) :: starEach es X.env := by rfl) (hpl : (backTo pos (starEach es X.env)).any (·.1) = false := by rfl) : DE X W (.Call (.Name x p) (e :: es) [] pos) (dCB g fa) :=
  PE.imp (pe_callB hc hg hm hv ha hn hdb he hpl) fun _ _ _ q => dCB_run q
theorem de_callTy {T : String} {x : Str} {g : GN} {p : Pos} (hc : CallD X (.type T) g) (hg : Gl X x) (hm : X.mg x = none) (hv : bootBuiltins x = some (.type T)) (ha : DA X W (e :: es) fa) (hn : x ≠ "__name__" := by decide) (hdb : (x == ("__debug__" : Str)) = false := by decide)
    (he : starEach (e :: es) X.env = (false, eval e X.env) :: starEach es X.env := by rfl) (hpl : (backTo pos (starEach es X.env)).any (·.1) = false := by rfl) : DE X W (.Call (.Name x p) (e :: es) [] pos) (dCB g fa) :=
  PE.imp (pe_callTy hc hg hm hv ha hn hdb he hpl) fun _ _ _ q => dCB_run q
end
theorem VwAll.one {F : Fz} {H : Hp} {vs : List V} {d : D} (h : VwAll F H vs [d]) : ∃ v, vs = [v] ∧ Vw F H v d := by
  cases h with
  | cons a b => cases b; exact ⟨_, rfl, a⟩
theorem VwAll.two {F : Fz} {H : Hp} {vs : List V} {d e : D} (h : VwAll F H vs [d, e]) : ∃ v u, vs = [v, u] ∧ Vw F H v d ∧ Vw F H u e := by
  cases h with
  | cons a b => obtain ⟨u, rfl, c⟩ := b.one; exact ⟨_, _, rfl, a, c⟩

def gLen : GN := fun as => match as with
  | [.lst xs] => some (.dat (.int xs.length))
  | [.tup xs] => some (.dat (.int xs.length))
  | [.str z] => if z.length ≤ sizeLine then some (.dat (.int z.length)) else none
  | _ => none
def gMax : GN := fun as => match as with
  | [.int i, .int j] => some (.dat (.int (if j > i then j else i)))
  | _ => none
def gMin : GN := fun as => match as with
  | [.int i, .int j] => some (.dat (.int (if j < i then j else i)))
  | _ => none
def gAbs : GN := fun as => match as with
  | [.int i] => some (.dat (.int (if i < 0 then -i else i)))
  | _ => none
def gInt : GN := fun as => match as with
  | [.int i] => some (.dat (.int i))
  | [.bl k] => some (.dat (.int (if k then 1 else 0)))
  | _ => none
def gList : GN := fun as => match as with
  | [.lst xs] => some (.new (.lst xs))
  | [.tup xs] => some (.new (.lst xs))
  | _ => none
/-- repr of data -/
def reprOk (d : D) : Bool := (d.plain && PyData.showable d.py) && (decide (PyData.depth d.py ≤ 60) && decide ((PyData.shown d.py).length ≤ sizeLine))
def gRepr : GN := fun as => match as with
  | [d] => if reprOk d then some (.dat (.str (PyData.shown d.py))) else none
  | _ => none
section
variable {X : Cx}
theorem c_len : CallD X (.builtin "len") gLen := CallR.imp call_len fun vs H Q ⟨F, cs, as, r, w, va, e, k⟩ => by
  unfold gLen at e
  split at e
  · cases e
    obtain ⟨v, rfl, a⟩ := va.one
    obtain ⟨p, xs, rfl, hp, d⟩ := a.lst w.ex
    exact ⟨_, xs.length, rfl, .inl ⟨xs, SqL.of hp, rfl⟩, by rw [d.length]; exact k.int w⟩
  · cases e
    obtain ⟨v, rfl, a⟩ := va.one
    obtain ⟨p, xs, rfl, hp, d⟩ := a.tup w.ex
    exact ⟨_, xs.length, rfl, .inr ⟨xs, SqT.of hp, rfl⟩, by rw [d.length]; exact k.int w⟩
  · split at e
    · rename_i hl; cases e
      obtain ⟨v, rfl, a⟩ := va.one
      rw [a.str]
      exact ⟨_, _, rfl, ⟨hl, rfl⟩, k.int w⟩
    · cases e
  · cases e
theorem c_max (hc : X.calm = true) : CallD X (.builtin "max") gMax := CallR.imp (call_max2 hc) fun vs H Q ⟨F, cs, as, r, w, va, e, k⟩ => by
  unfold gMax at e
  split at e
  · cases e
    obtain ⟨v, u, rfl, a, b⟩ := va.two
    rw [a.int, b.int]
    exact ⟨_, _, rfl, k.int w⟩
  · cases e
theorem c_min (hc : X.calm = true) : CallD X (.builtin "min") gMin := CallR.imp (call_min2 hc) fun vs H Q ⟨F, cs, as, r, w, va, e, k⟩ => by
  unfold gMin at e
  split at e
  · cases e
    obtain ⟨v, u, rfl, a, b⟩ := va.two
    rw [a.int, b.int]
    exact ⟨_, _, rfl, k.int w⟩
  · cases e
theorem c_abs : CallD X (.builtin "abs") gAbs := CallR.imp call_abs fun vs H Q ⟨F, cs, as, r, w, va, e, k⟩ => by
  unfold gAbs at e
  split at e
  · cases e
    obtain ⟨v, rfl, a⟩ := va.one
    rw [a.int]
    exact ⟨_, rfl, k.int w⟩
  · cases e
theorem c_int : CallD X (.type "int") gInt := CallR.imp call_int1 fun vs H Q ⟨F, cs, as, r, w, va, e, k⟩ => by
  unfold gInt at e
  split at e
  · cases e
    obtain ⟨v, rfl, a⟩ := va.one
    rw [a.int]
    exact .inl ⟨_, rfl, k.int w⟩
  · cases e
    obtain ⟨v, rfl, a⟩ := va.one
    rw [a.bl]
    exact .inr ⟨_, rfl, k.int w⟩
  · cases e
theorem c_list : CallD X (.type "list") gList := CallR.imp call_list_of fun vs H Q ⟨F, cs, as, r, w, va, e, k⟩ => by
  unfold gList at e
  split at e
  · cases e
    obtain ⟨v, rfl, a⟩ := va.one
    obtain ⟨p, xs, rfl, hp, d⟩ := a.lst w.ex
    exact ⟨p, xs, rfl, .inl (SqL.of hp), fun l hl => k.new w hl d⟩
  · cases e
    obtain ⟨v, rfl, a⟩ := va.one
    obtain ⟨p, xs, rfl, hp, d⟩ := a.tup w.ex
    exact ⟨p, xs, rfl, .inr (SqT.of hp), fun l hl => k.new w hl d⟩
  · cases e
mutual
theorem noDict_py : ∀ d : D, d.plain = true → PyData.hasDict d.py = false
  | .non, _ => by simp [D.py, PyData.hasDict]
  | .bl _, _ => by simp [D.py, PyData.hasDict]
  | .int _, _ => by simp [D.py, PyData.hasDict]
  | .str _, _ => by simp [D.py, PyData.hasDict]
  | .lst xs, h => by simp only [D.py, PyData.hasDict]; exact noDict_all xs h
  | .tup xs, h => by simp only [D.py, PyData.hasDict]; exact noDict_all xs h
  | .dct _, h => nomatch h
  | .obj _ _, h => nomatch h
  | .ref _, h => nomatch h
theorem noDict_all : ∀ ds : List D, plainAll ds = true → PyData.hasDictAll (pyAll ds) = false
  | [], _ => by simp [pyAll, PyData.hasDictAll]
  | d :: ds, h => by
    have q := Bool.and_eq_true_iff.mp (show (D.plain d && plainAll ds) = true from h)
    simp only [pyAll, PyData.hasDictAll, noDict_py d q.1, noDict_all ds q.2, Bool.or_false]
end
theorem c_repr (hu : X.A.units + 64 < cLine) (hg : X.A.guards = some []) : CallD X (.builtin "repr") gRepr := by
  intro pins s σ H vs us Q I rv h
  obtain ⟨F, cs, as, r, w, va, e, k⟩ := h
  unfold gRepr at e
  split at e
  · rename_i d
    split at e
    · rename_i ok; cases e
      have q := Bool.and_eq_true_iff.mp ok
      have q1 := Bool.and_eq_true_iff.mp q.1
      have q2 := Bool.and_eq_true_iff.mp q.2
      have hsz : (PyData.shown d.py).length ≤ sizeLine := of_decide_eq_true q2.2
      have hdp : PyData.depth d.py ≤ 60 := of_decide_eq_true q2.1
      have hnd : PyData.hasDict d.py = false := noDict_py d q1.1
      obtain ⟨v, rfl, a⟩ := va.one
      obtain ⟨u, rfl, ru⟩ := vals1 rv
      have dp : Dp X.K H v d.py := a.dp w.ex q1.1
      obtain ⟨adr, rd⟩ := Dp.reads I _ v u dp ru
      have fin : ∀ h' tk t, (∀ b o, s.heap.get? b = some o → h'.get? b = some o) → EP X pins σ Q (.str (PyData.shown d.py) t) { s with heap := h', toks := tk } := fun h' tk t hk => ⟨.str _, H, I.kept hk, ⟨_, rfl⟩, k.str w⟩
      have fin0 : EP X pins σ Q (.str (PyData.shown d.py) s.toks) { s with toks := s.toks + 1 } := ⟨.str _, H, I.tok _, ⟨_, rfl⟩, k.str w⟩
      generalize hd : d.py = pd at *
      cases rd with
      | none => simp only [PyData.shown] at fin0 ⊢; exact PySem.P.repr_of_none fin0
      | bool b => simp only [PyData.shown] at fin0 ⊢; exact PySem.P.repr_of_bool fin0
      | int i t =>
        simp only [PyData.shown] at fin0 ⊢
        refine PySem.P.repr_of_int ?_ fin0
        have z := q1.2
        simp only [PyData.showable, decide_eq_true_eq] at z
        exact z
      | str x t => simp only [PyData.shown] at fin0 hsz ⊢; exact PySem.P.repr_of_str fin0 hsz
      | list h1 h2 h3 h4 => exact repr_of_reads' (.list h1 h2 h3 h4) q1.2 (fun e => by rw [hnd] at e; cases e) hg (by omega) (fun _ _ e => e) (fun h' u tk hk => fin h' tk u hk) hsz
      | tuple h1 h2 h3 h4 => exact repr_of_reads' (.tuple h1 h2 h3 h4) q1.2 (fun e => by rw [hnd] at e; cases e) hg (by omega) (fun _ _ e => e) (fun h' u tk hk => fin h' tk u hk) hsz
      | dict h1 h2 h3 h4 h5 => simp [PyData.hasDict] at hnd
    · cases e
  · cases e
end

/-! ### isinstance -/
def kindS : D → Option String
  | .non => some "NoneType"
  | .bl _ => some "bool"
  | .int _ => some "int"
  | .str _ => some "str"
  | .lst _ => some "list"
  | .tup _ => some "tuple"
  | .dct _ => some "dict"
  | .obj _ _ => none
  | .ref _ => none
def dIsi (T : String) (f : FE) : FE := fun sl cs => (f sl cs).then fun a => match a.1.view a.2 with
  | some d => match kindS d with
    | some s => match kitB s T with
      | some b => .ok (.dat (.bl b), a.2)
      | none => .bad
    | none => .bad
  | none => .bad
theorem Vw.ty {K : PySem.W.Frag} {F : Fz} {H : Hp} {v : V} {d : D} (h : Vw F H v d) (e : ExH F H) {s : String} (k : kindS d = some s) : TyOf K H v (.type s) := by
  cases d with
  | non => cases k; rw [h.non]; exact .non
  | bl b => cases k; rw [h.bl]; exact .bl b
  | int i => cases k; rw [h.int]; exact .int i
  | str x => cases k; rw [h.str]; exact .str x
  | lst xs => cases k; obtain ⟨p, vs, rfl, hp, _⟩ := h.lst e; exact .lst hp
  | tup xs => cases k; obtain ⟨p, vs, rfl, hp, _⟩ := h.tup e; exact .tup hp
  | dct xs => cases k; obtain ⟨p, vs, rfl, hp, _⟩ := h.dct e; exact .dK hp
  | obj _ _ => cases k
  | ref _ => cases k
section
variable {X : Cx} {W : WX} {pos : Pos} {e : Expr} {f : FE}
theorem de_isi {T : String} {y : Str} {p p2 : Pos} (h : DE X W e f) (hg : Gl X "isinstance") (hm : X.mg "isinstance" = none) (hgT : Gl X y) (hmT : X.mg y = none) (hvT : bootBuiltins y = some (.type T)) (hn : y ≠ "__name__" := by decide) (hdb : (y == ("__debug__" : Str)) = false := by decide)
    (he : starEach [e, .Name y p2] X.env = (false, eval e X.env) :: starEach [.Name y p2] X.env := by rfl) (hpl : (backTo pos (starEach [.Name y p2] X.env)).any (·.1) = false := by rfl) (he2 : starEach [.Name y p2] X.env = (false, eval (.Name y p2) X.env) :: starEach [] X.env := by rfl) :
    DE X W (.Call (.Name "isinstance" p) [e, .Name y p2] [] pos) (dIsi T f) :=
  PE.imp (pe_callB call_isi hg hm (by decide +kernel) (pa_cons h (pa_cons (pe_bltn (v := .ty T) hgT hmT hvT rfl hn hdb) pa_nil he2) he) (by decide) (by decide) he hpl) fun σ H Q q => by
    obtain ⟨F0, H0, F, sl, cs, R, o⟩ := q
    refine OutE.then_run R o fun r c v F1 H1 e n w k fv R1 o1 => ?_
    dsimp only at o1
    split at o1
    · rename_i d ed
      split at o1
      · rename_i s es
        split at o1
        · rename_i b eb
          exact ⟨v, .ty T, .type s, .type T, b, rfl, .ty T, .base ((k.vw w ed).ty w.ex es), kit_ty eb, o1 _ F1 H1 .refl w (.bl b) trivial⟩
        · exact o1.elim
      · exact o1.elim
    · exact o1.elim
end
end SL

/-! Se: a def's promise by data, where nothing is being shown; its calls. -/
namespace SL
open PySem L2
open PyProof.Rows (envOfC)

/-- the promise of a def: phi tells the outcome, by its arguments and the cells -/
abbrev Phi := List RV → List CO → Res (RV × List CO)
def spF (K : PySem.W.Frag) (φ : Phi) : Sp := fun vs H Q E => ∃ F cs rs, Wok F H cs ∧ RvAll K F H vs rs ∧ OutE K E F H Q (φ rs cs)
/-- a def that keeps a promise, wherever no object is being shown (repr) around it -/
structure FnG (P : Program) (w : World) (K : PySem.W.Frag) (mg : Str → Option Value) (base : Heap) (k : Nat) (f : Addr) (fd : FuncData) (ps : List Str) (sp : Sp) : Prop where
  go : ∀ (A : Around) (outer : List Env) (s : Shared) (H : Hp) (args : Args) (us : List Value) (vs : List V) (Q : VK) (E : XK), A.guards = some [] → Room k A → vs.length = ps.length →
    Env0 P w K mg base A outer s H → BindsTo s fd args (ps.zip us) → Vals vs us → sp vs H Q E → codeAny (model P w) A (.call (.ref f) args) (CR (L2.CX P w) outer P w H s Q E) s

section
variable {P : Program} {w : World} {K : PySem.W.Frag} {mg : Str → Option Value} {base : Heap} {k : Nat} {f : Addr} {fd : FuncData} {ps : List Str} {sp : Sp}
theorem FnG.mono {j : Nat} (h : FnG P w K mg base j f fd ps sp) (l : j ≤ k) : FnG P w K mg base k f fd ps sp :=
  ⟨fun A o s H a us vs Q E g r n e b v q => h.go A o s H a us vs Q E g (r.mono l) n e b v q⟩
/-- a body that is walked -/
theorem FnG.mk' {x qual : Str} {params : Arguments} {body : List Stmt} {scope : Scope} {dvs : List V} {kws : List (Str × V)} {N : List Str} (FD : FunD K x qual params body scope dvs kws f fd) (S : FnScope N ps scope)
    (walk : ∀ (cdv : Value) (A : Around) (outer : List Env) (s : Shared) (H : Hp) (vs : List V) (Q : VK) (E : XK), vs.length = ps.length → A.guards = some [] → Room k (A.deeper (envOfC qual scope s.heap.objs.size f cdv)) → sp vs H Q E →
      ∃ t, PSs (cxOf (L2.CX P w) P w K mg base N qual scope f cdv A outer s H E) body t ∧ t { nx := fun _ H' => Q .non H', rt := Q } (L2.start N vs) H) : FnG P w K mg base (k + 1) f fd ps sp := by
  obtain ⟨oc, od, dV, kV, doc, pm, an, cdv, ct, osl, e0, lk, code, _, _⟩ := FD.ex
  subst e0
  constructor
  intro A outer s H args us vs Q E gd room vl env bind rel prom
  have stays : ∀ b o, base.get? b = some o → s.heap.get? b = some o := fun b o z => (env.bs b o z).1
  have inK : K.In s.heap := env.mod.kin.keeps stays
  have kinds : ∀ y ∈ ps.zip us, scope.names.lookup y.1 = some .local ∨ (scope.names.lookup y.1 = some .cell ∧ ((cellsFrom (s.heap.objs.size + 1) scope.names []).lookup y.1).isSome = true) := by
    intro y hy
    obtain ⟨n, v⟩ := y
    cases S.par n (List.of_mem_zip hy).1 with
    | inl z => exact Or.inl z
    | inr z => exact Or.inr ⟨z, PySem.W.cellsFrom_some _ _ _ (Or.inl z)⟩
  apply codeAny_call_function room.depth (inK _ _ lk) rfl S.co S.gen rfl (PySem.W.codeRec_of inK code)
  apply bind
  refine wpAny_newFunctionEnv_cells S.kind kinds ?_
  intro en hen s1 hs1
  subst hen
  refine ⟨(env.mod.nolimit.keeps stays).keeps hs1.toInCall.keep, codeAny_func ?_⟩
  obtain ⟨t, pt, qt⟩ := walk cdv A outer s H vs Q E vl gd (room.deeper _) prom
  have inv := inv_start (CX := L2.CX P w) (E := E) (w := w) (cd := cdv) (f := f) S room.hd env vl rel hs1
  refine wpAny_mono (pt.run [] s1 (L2.start N vs) H _ inv qt) ?_ fun _ _ z => z
  intro fl s' out
  match fl, out with
  | .ret u, ⟨v, _, H', J, rv, q⟩ => exact ⟨v, H', J.os, J.bare, J.base, J.hok, rv, q⟩
  | .next, ⟨_, H', J, q⟩ => exact ⟨.non, H', J.os, J.bare, J.base, J.hok, rfl, q⟩
  | .brk, ⟨_, _, _, q⟩ => exact q.elim
  | .cont, ⟨_, _, _, q⟩ => exact q.elim
end

/-! ### the body -/
def svOf : RV → Option SV
  | .dat d => some (.dat d)
  | .scr ns => some (.scr ns)
  | _ => none
def svAll : List RV → Option (List SV)
  | [] => some []
  | r :: rs => match svOf r, svAll rs with
    | some s, some l => some (s :: l)
    | _, _ => none
/-- what a body tells: n locals behind the parameters -/
def runB (n : Nat) (f : FS) : Phi := fun rs cs => match svAll rs with
  | some sl => match f (sl ++ List.replicate n .un) cs with
    | .nx _ cs' => .ok (.dat .non, cs')
    | .rt (.own _) _ => .bad
    | .rt r cs' => .ok (r, cs')
    | .exc C fs _ cs' => .exc C fs cs'
    | _ => .bad
  | none => .bad
section
variable {K : PySem.W.Frag} {F : Fz} {H : Hp} {cs : List CO}
theorem RvAll.length {vs : List V} {rs : List RV} (h : RvAll K F H vs rs) : vs.length = rs.length := by
  induction h with
  | nil => rfl
  | cons _ _ t => simp [t]
theorem svAll_len : ∀ {rs : List RV} {sl : List SV}, svAll rs = some sl → sl.length = rs.length
  | [], sl, e => by cases e; rfl
  | r :: rs, sl, e => by
    unfold svAll at e
    split at e
    · rename_i s l e1 e2; cases e; simp [svAll_len e2]
    · cases e
theorem svAll_ok {vs : List V} {rs : List RV} (h : RvAll K F H vs rs) : ∀ {sl : List SV}, svAll rs = some sl → ∀ (i : Nat) (sv : SV), sl[i]? = some sv → (∃ x, vs[i]? = some x) ∧ SvOk K H F H (vs.map some)[i]? sv ∧ ∀ c, sv ≠ .own c := by
  induction h with
  | nil => intro sl e i sv h; cases e; simp at h
  | @cons v vs r rs h t ih =>
    intro sl e i sv hi
    unfold svAll at e
    split at e
    · rename_i s l e1 e2
      cases e
      cases i with
      | zero =>
        simp only [List.getElem?_cons_zero, Option.some.injEq] at hi
        subst hi
        refine ⟨⟨v, by simp⟩, ?_, ?_⟩
        · cases r with
          | dat d => cases e1; exact ⟨v, by simp, h⟩
          | scr ns => cases e1; obtain ⟨p, rfl, h⟩ := h; exact ⟨p, by simp, h⟩
          | new c => cases e1
          | own c => cases e1
        · intro c z; subst z; cases r <;> cases e1
      | succ i =>
        simp only [List.getElem?_cons_succ] at hi
        obtain ⟨⟨x, a⟩, b, c⟩ := ih e2 i sv hi
        exact ⟨⟨x, by simpa using a⟩, by simpa using b, c⟩
    · cases e
/-- the state at a def's begin -/
theorem rel_start {N : List Str} {vs : List V} {rs : List RV} {sl : List SV} (w : Wok F H cs) (h : RvAll K F H vs rs) (e : svAll rs = some sl) : Rel K F H F H (sl ++ List.replicate (N.length - vs.length) .un) cs (L2.start N vs) := by
  have hl : sl.length = vs.length := (svAll_len e).trans h.length.symm
  have own : ∀ (i : Nat) (c : CO), (sl ++ List.replicate (N.length - vs.length) SV.un)[i]? ≠ some (.own c) := fun i c z => by
    by_cases hi : i < sl.length
    · rw [List.getElem?_append_left hi] at z
      exact (svAll_ok h e i _ z).2.2 c rfl
    · rw [List.getElem?_append_right (by omega), List.getElem?_replicate] at z
      split at z <;> cases z
  refine ⟨w, .refl, by simp [L2.start, hl], fun i sv z => ?_, fun i j c d p z => absurd z (own i c)⟩
  by_cases hi : i < sl.length
  · rw [List.getElem?_append_left hi] at z
    have q := (svAll_ok h e i _ z).2.1
    unfold L2.start
    rw [List.getElem?_append_left (by simp; omega)]
    exact q
  · rw [List.getElem?_append_right (by omega), List.getElem?_replicate] at z
    split at z <;> cases z
    trivial
/-- a body's reading from its walk -/
theorem body_run {N : List Str} {W : XK} {n : Nat} {f : FS} {vs : List V} {Q : VK} (hn : N.length - vs.length = n) (h : spF K (runB n f) vs H Q W) : rdS K (fun v d _ H => W v d H) f { nx := fun _ H' => Q .non H', rt := Q } (L2.start N vs) H := by
  obtain ⟨F, cs, rs, w, ra, o⟩ := h
  unfold runB at o
  split at o
  · rename_i sl e
    have R := rel_start (N := N) w ra e
    rw [hn] at R
    refine ⟨F, H, F, _, cs, R, ?_⟩
    split at o
    · rename_i sl' cs' z
      rw [z]
      intro σ' F' H' R'
      exact o .non F' H' R'.fr.nx R'.w .non trivial
    · exact o.elim
    · rename_i r cs' nn z
      rw [z]
      intro v F' H' fr w' k fv
      refine o v F' H' fr.nx w' k ?_
      cases r with
      | new c => exact fv
      | _ => trivial
    · rename_i C fs sl' cs' z
      rw [z]
      intro σ F' H' dx fv R' e d
      exact o F' H' dx fv R'.fr R'.w e d
    · exact o.elim
  · exact o.elim
end
end SL

/-! Sf: calls; statements. -/
namespace SL
open PySem L2

section
variable {K : PySem.W.Frag} {F : Fz} {H : Hp}
theorem RvAll.append {vs us : List V} {rs qs : List RV} (h : RvAll K F H vs rs) (k : RvAll K F H us qs) : RvAll K F H (vs ++ us) (rs ++ qs) := by
  induction h with
  | nil => exact k
  | cons a _ t => exact .cons a t
theorem RvAll.take {vs : List V} {rs : List RV} (h : RvAll K F H vs rs) (n : Nat) : RvAll K F H (vs.take n) (rs.take n) := by
  induction h generalizing n with
  | nil => cases n <;> exact .nil
  | cons a _ t => cases n with
    | zero => exact .nil
    | succ n => exact .cons a (t n)
theorem RvAll.drop {vs : List V} {rs : List RV} (h : RvAll K F H vs rs) (n : Nat) : RvAll K F H (vs.drop n) (rs.drop n) := by
  induction h generalizing n with
  | nil => cases n <;> exact .nil
  | cons a b t => cases n with
    | zero => exact .cons a b
    | succ n => exact t n
end
/-- what a callee may let out is taken, at the slots as they stand -/
def PassesW (X : Cx) (W : WX) : Prop := ∀ (pins : List (Addr × Obj)) (σ : L2.St) (H : Hp) (s : Shared) (e : Value) (s' : Shared), Inv X pins σ H s → L2.CX X.prog X.w X.stack H s (atX W σ) e s' → X.xe e s'
theorem passesW_of {X : Cx} {W : WX} (tk : Takes X W) : PassesW X W := fun _ _ _ _ e s' I c => tk e s' (XE.of_call I (fun _ _ _ h => h) c)
/-- nothing comes out -/
abbrev W0 : WX := fun _ _ _ _ => False
theorem passesL {X : Cx} : PassesW X W0 := fun pins σ H s e s' I c => passL pins σ H s e s' I c
/-- defaults: data that need no heap -/
def Flat (dvs : List V) (drs : List RV) : Prop := ∀ K F H, RvAll K F H dvs drs
theorem flat_nil : Flat [] [] := fun _ _ _ => .nil
theorem flat_cons {v : V} {d : D} {vs : List V} {rs : List RV} (h : ∀ F, Den F v d) (t : Flat vs rs) : Flat (v :: vs) (.dat d :: rs) := fun K F H => .cons (h F) (t K F H)
def dCall (n : Nat) (φ : Phi) (drs : List RV) (fa : FA) : FE := fun sl cs => (fa sl cs).then fun a => if (a.1 ++ drs).length = n then φ (a.1 ++ drs) a.2 else .bad
def dCallK (n m : Nat) (φ : Phi) (g : List RV → List RV → List RV) (fa fk : FA) : FE := fun sl cs => (fa sl cs).then fun a => (fk sl a.2).then fun b => if a.1.length = n ∧ b.1.length = m then φ (g a.1 b.1) b.2 else .bad
section
variable {X : Cx} {W : WX} {k n : Nat} {f : Addr} {fd : FuncData} {ps ks : List Str} {φ : Phi} {x : Str} {p pos : Pos} {e : Expr} {es : List Expr} {kws : List Keyword} {fa fk : FA} {ds : List Value} {dvs : List V} {drs : List RV}
theorem runG {pins : List (Addr × Obj)} {σ : L2.St} {H : Hp} {s : Shared} {Q : VK} {pa : List Value} {kw : List (Str × Value)} {us : List Value} {vs : List V} {sp : Sp} (FK : FnG X.prog X.w X.K X.mg X.base k f fd ps sp) (hr : Room k X.A) (hg : X.A.guards = some []) (hx : PassesW X W)
    (I : Inv X pins σ H s) (hb : BindsTo s fd ⟨pa, kw⟩ (ps.zip us)) (r : Vals vs us) (hl : vs.length = ps.length) (h : sp vs H Q (atX W σ)) : wpAny (model X.prog X.w) X.A (call (.ref f) pa kw) (EP X pins σ Q) X.xe s := by
  apply wpAny_call
  refine codeAny_mono (FK.go X.A X.stack s H _ us vs Q (atX W σ) hg hr hl I.env0 hb r h) ?_
  intro out s' ho
  match out, ho with
  | .error e, z => exact hx pins σ H s e s' I z
  | .ok (.ret u), z => exact I.after z
  | .ok .next, z => exact False.elim z
  | .ok .brk, z => exact False.elim z
  | .ok .cont, z => exact False.elim z
/-- f(e, ..), the lacking parameters' defaults behind -/
theorem de_call (FK : FnG X.prog X.w X.K X.mg X.base k f fd ps (spF X.K φ)) (hr : Room k X.A) (hg : X.A.guards = some []) (hgl : Gl X x) (hm : X.mg x = some (.ref f)) (hk : PySem.W.keepIn X.K (.ref f) = true) (hb : Binds X.K fd ps ds) (hd : Vals dvs ds) (hf : Flat dvs drs) (hn : ps.length = n)
    (hx : PassesW X W) (ha : DA X W (e :: es) fa) (hdb : (x == ("__debug__" : Str)) = false := by decide) (he : starEach (e :: es) X.env = (false, eval e X.env) :: starEach es X.env := by rfl) (hpl : (backTo pos (starEach es X.env)).any (·.1) = false := by rfl) :
    DE X W (.Call (.Name x p) (e :: es) [] pos) (dCall n φ drs fa) := by
  constructor
  intro pins s σ H Q I q
  obtain ⟨F0, H0, F, sl, cs, R, o⟩ := q
  have rd : rdA X.K W fa σ H fun vs H1 => (vs ++ dvs).length = n ∧ spF X.K φ (vs ++ dvs) H1 Q (atX W σ) := by
    refine OutA.run_E R o fun rs c vs F1 H1 e1 nx w k1 R1 o1 => ?_
    dsimp only at o1
    have kk := k1.append (hf X.K F1 H1)
    split at o1
    · rename_i hl
      exact ⟨kk.length.trans hl, F1, c, rs ++ drs, w, kk, o1⟩
    · exact o1.elim
  refine wpAny_Call_Name_kw (ld_glob I hgl hm ?_ hdb)
  refine PySem.W.callWith_K (h₀ := X.base) I.ok.mod.kin hk (thn (ha.run pos pins s σ H _ I rd) ?_) he hpl
  rintro us s1 ⟨vs, H1, I1, r, hl, q1⟩
  have rr : Vals (vs ++ dvs) (us ++ ds) := r.append hd
  exact ⟨I1.kIn, runG FK hr hg hx I1 (hb s1 us I1.kIn (by rw [← rr.length, hl, hn])) rr (by rw [hl, hn]) q1⟩
theorem de_call0 (FK : FnG X.prog X.w X.K X.mg X.base k f fd ps (spF X.K φ)) (hr : Room k X.A) (hg : X.A.guards = some []) (hgl : Gl X x) (hm : X.mg x = some (.ref f)) (hk : PySem.W.keepIn X.K (.ref f) = true) (hb : Binds X.K fd ps ds) (hd : Vals dvs ds) (hf : Flat dvs drs) (hn : ps.length = n)
    (hx : PassesW X W) (hdb : (x == ("__debug__" : Str)) = false := by decide) : DE X W (.Call (.Name x p) [] [] pos) (dCall n φ drs dNil) := by
  constructor
  intro pins s σ H Q I q
  obtain ⟨F0, H0, F, sl, cs, R, o⟩ := q
  have kk := hf X.K F H
  have o1 : OutE X.K (atX W σ) F H Q (if ([] ++ drs).length = n then φ ([] ++ drs) cs else .bad) := o
  split at o1
  · rename_i hl
    have rr : Vals ([] ++ dvs) ([] ++ ds) := hd
    refine wpAny_Call_Name_kw (ld_glob I hgl hm ?_ hdb)
    have l2 : dvs.length = n := by rw [kk.length]; simpa using hl
    exact PySem.W.callWith_K0 I.kIn hk (runG FK hr hg hx I (hb s [] I.kIn (by rw [← rr.length, List.nil_append, l2, hn])) rr (by rw [List.nil_append, l2, hn]) ⟨F, cs, _, R.w, kk, o1⟩)
  · exact o1.elim

/-- keywords -/
structure KB (K : PySem.W.Frag) (fd : FuncData) (ps : List Str) (n : Nat) (ks : List Str) (g : List RV → List RV → List RV) : Prop where
  ex : ∃ (gu : List Value → List Value → List Value) (gv : List V → List V → List V), (∀ (s : Shared) (us ws : List Value), K.In s.heap → us.length = n → ws.length = ks.length → BindsTo s fd ⟨us, ks.zip ws⟩ (ps.zip (gu us ws))) ∧
    (∀ {vs : List V} {us : List Value} {zs : List V} {ws : List Value}, Vals vs us → Vals zs ws → Vals (gv vs zs) (gu us ws)) ∧
    (∀ {K F H} {vs zs : List V} {rs qs : List RV}, RvAll K F H vs rs → RvAll K F H zs qs → RvAll K F H (gv vs zs) (g rs qs)) ∧
    (∀ {vs zs : List V}, vs.length = n → zs.length = ks.length → (gv vs zs).length = ps.length)
abbrev DK (X : Cx) (W : WX) (kws : List Keyword) (f : FA) : Prop := PK X kws (rdA X.K W f)
theorem PK.imp {X : Cx} {e : List Keyword} {t t' : TA} (h : PK X e t) (i : ∀ σ H Q, t' σ H Q → t σ H Q) : PK X e t' := ⟨fun ps p s σ H Q I q => h.run ps p s σ H Q I (i σ H Q q)⟩
theorem dk_nil : DK X W [] dNil := PK.imp pk_nil fun σ H Q q => by
  obtain ⟨F0, H0, F, sl, cs, R, o⟩ := q
  exact o [] F H .refl R.w .nil
theorem dk_cons {nm : Option Str} {kpos : Pos} {f1 : FE} {fr : FA} (h : DE X W e f1) (k : DK X W kws fr) : DK X W (⟨nm, e, kpos⟩ :: kws) (dCons f1 fr) := PK.imp (pk_cons (de_frz h) k) fun σ H Q q => by
  obtain ⟨F0, H0, F, sl, cs, R, o⟩ := q
  refine OutE.run_A R o fun r c v F1 H1 e1 n w k fv R1 o1 => ?_
  refine ⟨F0, H0, F1, sl, c, R1, ?_⟩
  dsimp only at o1
  cases e2 : fr sl c with
  | ok b =>
    obtain ⟨rs, c2⟩ := b
    rw [e2] at o1
    intro vs F2 H2 n2 w2 k2
    exact o1 _ F2 H2 n2 w2 (.cons (k.step n2) k2)
  | exc C fs c2 => rw [e2] at o1; exact o1
  | bad => rw [e2] at o1; exact o1.elim
variable {g : List RV → List RV → List RV} {m : Nat}
theorem dCallK_run {σ : L2.St} {H : Hp} {Q : VK} (q : rdE X.K W (dCallK n m φ g fa fk) σ H Q) : rdA X.K W fa σ H fun vs H1 => rdA X.K W fk σ H1 fun zs H2 => vs.length = n ∧ zs.length = m ∧ ∃ F c rs qs, Wok F H2 c ∧ RvAll X.K F H2 vs rs ∧ RvAll X.K F H2 zs qs ∧ OutE X.K (atX W σ) F H2 Q (φ (g rs qs) c) := by
  obtain ⟨F0, H0, F, sl, cs, R, o⟩ := q
  refine OutA.run_E R o fun rs c vs F1 H1 e1 n1 w k1 R1 o1 => ?_
  refine OutA.run_E R1 o1 fun qs c2 zs F2 H2 e2 n2 w2 k2 R2 o2 => ?_
  dsimp only at o2
  split at o2
  · rename_i hl
    exact ⟨k1.length.trans hl.1, k2.length.trans hl.2, F2, c2, rs, qs, w2, k1.step n2, k2, o2⟩
  · exact o2.elim
theorem de_callK (FK : FnG X.prog X.w X.K X.mg X.base k f fd ps (spF X.K φ)) (hr : Room k X.A) (hg : X.A.guards = some []) (hgl : Gl X x) (hm : X.mg x = some (.ref f)) (hk : PySem.W.keepIn X.K (.ref f) = true) (hb : KB X.K fd ps n ks g) (hmk : ks.length = m)
    (hx : PassesW X W) (ha : DA X W (e :: es) fa) (hkw : DK X W kws fk) (hall : (backToKw pos (keywordEach kws X.env)).all (·.1.isSome) = true := by rfl) (hks : (backToKw pos (keywordEach kws X.env)).filterMap (·.1) = ks := by rfl)
    (hdb : (x == ("__debug__" : Str)) = false := by decide) (he : starEach (e :: es) X.env = (false, eval e X.env) :: starEach es X.env := by rfl)
    (hpl : ((backTo pos (starEach (e :: es) X.env)).any (·.1) || (backToKw pos (keywordEach kws X.env)).any (·.1.isNone)) = false := by rfl) : DE X W (.Call (.Name x p) (e :: es) kws pos) (dCallK n m φ g fa fk) := by
  obtain ⟨gu, gv, b1, b2, b3, b4⟩ := hb.ex
  constructor
  intro pins s σ H Q I q
  refine wpAny_Call_Name_kw (ld_glob I hgl hm ?_ hdb)
  refine PySem.W.callWith_KW (h₀ := X.base) I.ok.mod.kin hk hall (thn (ha.run pos pins s σ H _ I (dCallK_run q)) ?_) hpl he
  rintro us s1 ⟨vs, H1, I1, r1, q1⟩
  refine thn (hkw.run pos pins s1 σ H1 _ I1 q1) ?_
  rintro ws s2 ⟨zs, H2, I2, r2, l1, l2, F, c, rs, qs, w, k1, k2, o⟩
  rw [hks]
  exact ⟨I2.kIn, runG FK hr hg hx I2 (b1 s2 us ws I2.kIn (by rw [← r1.length, l1]) (by rw [← r2.length, l2, hmk])) (b2 r1 r2) (b4 l1 (by rw [l2, hmk])) ⟨F, c, _, w, b3 k1 k2, o⟩⟩
/-- keywords alone -/
theorem de_callK0 (FK : FnG X.prog X.w X.K X.mg X.base k f fd ps (spF X.K φ)) (hr : Room k X.A) (hg : X.A.guards = some []) (hgl : Gl X x) (hm : X.mg x = some (.ref f)) (hk : PySem.W.keepIn X.K (.ref f) = true) (hb : KB X.K fd ps 0 ks g) (hmk : ks.length = m)
    (hx : PassesW X W) (hkw : DK X W kws fk) (hall : (backToKw pos (keywordEach kws X.env)).all (·.1.isSome) = true := by rfl) (hks : (backToKw pos (keywordEach kws X.env)).filterMap (·.1) = ks := by rfl)
    (hdb : (x == ("__debug__" : Str)) = false := by decide)
    (hpl : ((backTo pos (starEach [] X.env)).any (·.1) || (backToKw pos (keywordEach kws X.env)).any (·.1.isNone)) = false := by rfl) : DE X W (.Call (.Name x p) [] kws pos) (dCallK 0 m φ g dNil fk) := by
  obtain ⟨gu, gv, b1, b2, b3, b4⟩ := hb.ex
  constructor
  intro pins s σ H Q I q
  have q0 : rdA X.K W fk σ H fun zs H2 => zs.length = m ∧ ∃ F c qs, Wok F H2 c ∧ RvAll X.K F H2 zs qs ∧ OutE X.K (atX W σ) F H2 Q (φ (g [] qs) c) := by
    obtain ⟨F0, H0, F, sl, cs, R, o⟩ := q
    refine OutA.run_E (f := fk) R (k := fun b => if ([] : List RV).length = 0 ∧ b.1.length = m then φ (g [] b.1) b.2 else .bad) o fun qs c2 zs F2 H2 e2 n2 w2 k2 R2 o2 => ?_
    dsimp only at o2
    split at o2
    · rename_i hl
      exact ⟨k2.length.trans hl.2, F2, c2, qs, w2, k2, o2⟩
    · exact o2.elim
  refine wpAny_Call_Name_kw (ld_glob I hgl hm ?_ hdb)
  refine PySem.W.callWith_KW0 (h₀ := X.base) I.ok.mod.kin hk hall (thn (hkw.run pos pins s σ H _ I q0) ?_) hpl
  rintro ws s2 ⟨zs, H2, I2, r2, l2, F, c, qs, w, k2, o⟩
  rw [hks]
  exact ⟨I2.kIn, runG FK hr hg hx I2 (b1 s2 [] ws I2.kIn rfl (by rw [← r2.length, l2, hmk])) (b2 .nil r2) (b4 rfl (by rw [l2, hmk])) ⟨F, c, _, w, b3 .nil k2, o⟩⟩
end
end SL

/-! Sg: statements, loops. -/
namespace SL
open PySem L2

def Res.toF {α : Type} (sl : List SV) (r : Res α) (k : α → Flw) : Flw := match r with
  | .ok a => k a
  | .exc C fs cs => .exc C fs sl cs
  | .bad => .bad
section
variable {K : PySem.W.Frag} {W : WX} {F0 F F1 : Fz} {H0 H H1 : Hp} {sl : List SV} {cs : List CO} {σ : L2.St} {D : Ends}
theorem OutS.run_E {f : FE} {k : RV × List CO → Flw} {Q' : VK} (R : Rel K F0 H0 F H sl cs σ) (o : OutS K W F0 H0 D (Res.toF sl (f sl cs) k))
    (h : ∀ r c v F' H', f sl cs = .ok (r, c) → Nx F H F' H' → Wok F' H' c → RvOk K F' H' v r → FreshV H r v → Rel K F0 H0 F' H' sl c σ → OutS K W F0 H0 D (k (r, c)) → Q' v H') : rdE K W f σ H Q' := by
  refine ⟨F0, H0, F, sl, cs, R, ?_⟩
  cases e : f sl cs with
  | ok a => obtain ⟨r, c⟩ := a; rw [e] at o; exact fun v F' H' n w k fv => h r c v F' H' e n w k fv (R.step n w) o
  | exc C fs c => rw [e] at o; exact RaisedS.at_ o R
  | bad => rw [e] at o; exact o.elim
theorem OutS.run_T {f : FT} {k : Bool × List CO → Flw} {Q' : Bool → Hp → Prop} (R : Rel K F0 H0 F H sl cs σ) (o : OutS K W F0 H0 D (Res.toF sl (f sl cs) k))
    (h : ∀ r c F' H', f sl cs = .ok (r, c) → Nx F H F' H' → Wok F' H' c → Rel K F0 H0 F' H' sl c σ → OutS K W F0 H0 D (k (r, c)) → Q' r H') : rdT K W f σ H Q' := by
  refine ⟨F0, H0, F, sl, cs, R, ?_⟩
  cases e : f sl cs with
  | ok a => obtain ⟨r, c⟩ := a; rw [e] at o; exact fun F' H' n w => h r c F' H' e n w (R.step n w) o
  | exc C fs c => rw [e] at o; exact RaisedS.at_ o R
  | bad => rw [e] at o; exact o.elim
theorem OutS.run_A {f : FA} {k : List RV × List CO → Flw} {Q' : List V → Hp → Prop} (R : Rel K F0 H0 F H sl cs σ) (o : OutS K W F0 H0 D (Res.toF sl (f sl cs) k))
    (h : ∀ r c v F' H', f sl cs = .ok (r, c) → Nx F H F' H' → Wok F' H' c → RvAll K F' H' v r → Rel K F0 H0 F' H' sl c σ → OutS K W F0 H0 D (k (r, c)) → Q' v H') : rdA K W f σ H Q' := by
  refine ⟨F0, H0, F, sl, cs, R, ?_⟩
  cases e : f sl cs with
  | ok a => obtain ⟨r, c⟩ := a; rw [e] at o; exact fun v F' H' n w k => h r c v F' H' e n w k (R.step n w) o
  | exc C fs c => rw [e] at o; exact RaisedS.at_ o R
  | bad => rw [e] at o; exact o.elim
/-- another ghost -/
theorem Nx.gh (h : Nx F0 H0 F H) : Nx F H0 F H := ⟨Ex.refl _, fun _ z => .inl z, fun _ _ z => .inl z, fun b o z hm => h.st b o z fun y => hm (h.ex.mem y)⟩
theorem Nx.ungh (a : Nx F0 H0 F1 H1) (h : Nx F1 H0 F H) : Nx F0 H0 F H := ⟨a.ex.trans h.ex, fun q z => (h.new q z).elim (a.new q) .inr, fun b o z => (h.gro b o z).elim (fun y => a.gro b o y) .inr, fun b o z hm => h.st b o z fun y => by
  rcases a.new b y with y | y
  · exact hm y
  · rw [z] at y; cases y⟩
theorem Rel.gh (h : Rel K F0 H0 F H sl cs σ) : Rel K F H0 F H sl cs σ := ⟨h.w, h.fr.gh, h.len, h.at_, h.ds⟩
theorem Rel.ungh (a : Nx F0 H0 F1 H1) (h : Rel K F1 H0 F H sl cs σ) : Rel K F0 H0 F H sl cs σ := ⟨h.w, a.ungh h.fr, h.len, h.at_, h.ds⟩
theorem OutS.gh {o : Flw} (a : Nx F0 H0 F1 H1) (h : OutS K W F0 H0 D o) : OutS K W F1 H0 D o := by
  cases o with
  | nx sl cs => exact fun σ F H R => h σ F H (R.ungh a)
  | bk sl cs => exact fun σ F H R => h σ F H (R.ungh a)
  | ct sl cs => exact fun σ F H R => h σ F H (R.ungh a)
  | rt r cs => exact fun v F H f => h v F H (a.ungh f)
  | exc C fs sl cs => exact fun σ F' H' dx fv R => h σ F' H' dx fv (R.ungh a)
  | bad => exact h
/-- a slot is stored -/
theorem Rel.set {i : Nat} {v : V} {sv : SV} (R : Rel K F0 H0 F H sl cs σ) (hi : i < sl.length) (h : SvOk K H0 F H (some (some v)) sv)
    (dj : ∀ c, sv = .own c → ∀ j p d, v = .ref p → sl[j]? = some (.own d) → σ[j]? = some (some (.ref p)) → j = i) : Rel K F0 H0 F H (sl.set i sv) cs (σ.set i (some v)) := by
  have hσ : i < σ.length := by rw [R.len]; exact hi
  refine ⟨R.w, R.fr, by simp [R.len], fun j s e => ?_, fun j k c d p e1 e2 e3 e4 => ?_⟩
  · by_cases hj : i = j
    · subst hj
      rw [List.getElem?_set_self hi] at e; cases e
      rw [List.getElem?_set_self hσ]; exact h
    · rw [List.getElem?_set_ne hj] at e
      rw [List.getElem?_set_ne hj]; exact R.at_ j s e
  · by_cases hj : i = j
    · subst hj
      rw [List.getElem?_set_self hi] at e1; cases e1
      rw [List.getElem?_set_self hσ] at e3
      have e3' := Option.some.inj (Option.some.inj e3)
      by_cases hk : i = k
      · exact hk
      · rw [List.getElem?_set_ne hk] at e2 e4
        exact (dj c rfl k p d e3' e2 e4).symm
    · rw [List.getElem?_set_ne hj] at e1 e3
      by_cases hk : i = k
      · subst hk
        rw [List.getElem?_set_self hi] at e2; cases e2
        rw [List.getElem?_set_self hσ] at e4
        exact dj d rfl j p c (Option.some.inj (Option.some.inj e4)) e1 e3
      · rw [List.getElem?_set_ne hk] at e2 e4
        exact R.ds j k c d p e1 e2 e3 e4
/-- an object of a slot's own is changed -/
theorem Rel.mut {i : Nat} {p : Addr} {c c' : CO} {o' : HO} (R : Rel K F0 H0 F H sl cs σ) (e : sl[i]? = some (.own c)) (ev : σ[i]? = some (some (.ref p))) (k : COk F o' c') : Rel K F0 H0 F (upd H p o') (sl.set i (.own c')) cs σ := by
  have hi : i < sl.length := (List.getElem?_eq_some_iff.mp e).1
  obtain ⟨q, a, b, l⟩ := R.at_ i _ e
  rw [ev] at a
  have a' := Option.some.inj (Option.some.inj a)
  cases a'
  have ne : ∀ b u, F b = some u → b ≠ p := fun b u h z => by subst z; rw [l.1] at h; cases h
  refine ⟨⟨fun b u h => by rw [upd_ne (ne b u h)]; exact R.w.ex b u h, R.w.len, R.w.nd, fun j q d h1 h2 => ?_⟩, ⟨R.fr.ex, R.fr.new, R.fr.gro, fun x u h hm => ?_⟩, by simp [R.len], fun j s z => ?_, fun j k d d' q z1 z2 z3 z4 => ?_⟩
  · obtain ⟨a1, u, b1, d1⟩ := R.w.at_ j q d h1 h2
    have hq : q ≠ p := fun z => l.2.1 (z ▸ List.mem_of_getElem? h1)
    exact ⟨a1, u, by rw [upd_ne hq]; exact b1, d1⟩
  · have hq : x ≠ p := fun z => by subst z; rw [b] at h; cases h
    rw [upd_ne hq]; exact R.fr.st x u h hm
  · by_cases hj : i = j
    · subst hj
      rw [List.getElem?_set_self hi] at z; cases z
      exact ⟨p, ev, b, l.1, l.2.1, o', upd_same, k⟩
    · rw [List.getElem?_set_ne hj] at z
      have y := R.at_ j s z
      cases s with
      | own d =>
        obtain ⟨q, y1, y2, y3, y4, u, y5, y6⟩ := y
        have hq : q ≠ p := fun w => by subst w; exact hj (R.ds i j c d q e z ev y1)
        exact ⟨q, y1, y2, y3, y4, u, by rw [upd_ne hq]; exact y5, y6⟩
      | _ => exact y
  · by_cases hj : i = j
    · subst hj
      by_cases hk : i = k
      · exact hk
      · rw [List.getElem?_set_ne hk] at z2
        exact R.ds i k c d' q e z2 z3 z4
    · rw [List.getElem?_set_ne hj] at z1
      by_cases hk : i = k
      · subst hk; exact R.ds j i d c q z1 e z3 z4
      · rw [List.getElem?_set_ne hk] at z2
        exact R.ds j k d d' q z1 z2 z3 z4
/-- a cell is changed -/
theorem Rel.mutCell {i : Nat} {p : Addr} {c' : CO} {o' : HO} (R : Rel K F0 H0 F H sl cs σ) (ep : F.μ[i]? = some p) (k : CTk F p o' c') : Rel K F0 H0 F (upd H p o') sl (cs.set i c') σ := by
  have hm : p ∈ F.μ := List.mem_of_getElem? ep
  have hi : i < cs.length := by rw [← R.w.len]; exact (List.getElem?_eq_some_iff.mp ep).1
  have np : F p = none := (R.w.there hm).1
  have ne : ∀ b u, F b = some u → b ≠ p := fun b u h z => by subst z; rw [np] at h; cases h
  refine ⟨⟨fun b u h => by rw [upd_ne (ne b u h)]; exact R.w.ex b u h, by simp [R.w.len], R.w.nd, fun j q d h1 h2 => ?_⟩, ⟨R.fr.ex, R.fr.new, R.fr.gro, fun x u h hx => ?_⟩, R.len, fun j s z => ?_, R.ds⟩
  · by_cases hj : i = j
    · subst hj
      rw [List.getElem?_set_self hi] at h2; cases h2
      rw [ep] at h1; cases h1
      exact ⟨np, o', upd_same, k⟩
    · rw [List.getElem?_set_ne hj] at h2
      obtain ⟨a1, u, b1, d1⟩ := R.w.at_ j q d h1 h2
      have hq : q ≠ p := fun z => by subst z; exact hj (R.w.nd i j q ep h1)
      exact ⟨a1, u, by rw [upd_ne hq]; exact b1, d1⟩
  · have hq : x ≠ p := fun z => by
      subst z
      rcases R.fr.new x hm with y | y
      · exact hx y
      · rw [h] at y; cases y
    rw [upd_ne hq]; exact R.fr.st x u h hx
  · have y := R.at_ j s z
    cases s with
    | own d =>
      obtain ⟨q, y1, y2, y3, y4, u, y5, y6⟩ := y
      have hq : q ≠ p := fun w => y4 (w ▸ hm)
      exact ⟨q, y1, y2, y3, y4, u, by rw [upd_ne hq]; exact y5, y6⟩
    | _ => exact y
/-- a slot's own object is frozen -/
def frzS (i : Nat) (sl : List SV) : List SV := match sl[i]? with
  | some (.own c) => sl.set i (.dat c.D)
  | _ => sl
theorem Rel.frz {i : Nat} (R : Rel K F0 H0 F H sl cs σ) : ∃ F', Rel K F0 H0 F' H (frzS i sl) cs σ := by
  unfold frzS
  split
  · rename_i c e
    obtain ⟨p, a, b, l⟩ := R.at_ i _ e
    obtain ⟨o, w, x, dn, hp⟩ := R.w.freeze l
    have hi : i < sl.length := (List.getElem?_eq_some_iff.mp e).1
    refine ⟨F.up p o, w, ⟨R.fr.ex.trans x, R.fr.new, fun q u h => ?_, R.fr.st⟩, by simp [R.len], fun j s z => ?_, fun j k d d' q z1 z2 z3 z4 => ?_⟩
    · by_cases hq : q = p
      · subst hq; exact .inr b
      · rw [up_ne hq] at h; exact R.fr.gro q u h
    · by_cases hj : i = j
      · subst hj
        rw [List.getElem?_set_self hi] at z; cases z
        exact ⟨_, a, dn⟩
      · rw [List.getElem?_set_ne hj] at z
        have y := R.at_ j s z
        cases s with
        | un => trivial
        | dat d => obtain ⟨v, y1, y2⟩ := y; exact ⟨v, y1, y2.mono x⟩
        | own d =>
          obtain ⟨q, y1, y2, y3, y4, u, y5, y6⟩ := y
          have hq : q ≠ p := fun w => by subst w; exact hj (R.ds i j c d q e z a y1)
          exact ⟨q, y1, y2, by rw [up_ne hq]; exact y3, y4, u, y5, y6.mono x⟩
        | scr ns => obtain ⟨q, y1, y2⟩ := y; exact ⟨q, y1, sqL_ex x y2⟩
    · by_cases hj : i = j
      · subst hj; rw [List.getElem?_set_self hi] at z1; cases z1
      · rw [List.getElem?_set_ne hj] at z1
        by_cases hk : i = k
        · subst hk; rw [List.getElem?_set_self hi] at z2; cases z2
        · rw [List.getElem?_set_ne hk] at z2
          exact R.ds j k _ d' q z1 z2 z3 z4
  · exact ⟨F, R⟩
end

/-! ### statements -/
def dNx : FS := fun sl cs => .nx sl cs
def dBk : FS := fun sl cs => .bk sl cs
def dCt : FS := fun sl cs => .ct sl cs
def dBad : FS := fun _ _ => .bad
def dSeq (f g : FS) : FS := fun sl cs => match f sl cs with
  | .nx sl' cs' => g sl' cs'
  | r => r
def dDrop (f : FE) : FS := fun sl cs => Res.toF sl (f sl cs) fun a => .nx sl a.2
def dRet (f : FE) : FS := fun sl cs => Res.toF sl (f sl cs) fun a => .rt a.1 a.2
def dRetN : FS := fun _ cs => .rt (.dat .non) cs
def dRetV (i : Nat) : FS := fun sl cs => match sl[i]? with
  | some (.dat d) => .rt (.dat d) cs
  | some (.own c) => .rt (.new c) cs
  | some (.scr ns) => .rt (.scr ns) cs
  | _ => .bad
def dIfS (t : FT) (f g : FS) : FS := fun sl cs => Res.toF sl (t sl cs) fun a => if a.1 then f sl a.2 else g sl a.2
def setS (i : Nat) (r : RV) (sl : List SV) : Option (List SV) := if i < sl.length then match r with
  | .dat d => some (sl.set i (.dat d))
  | .new c => some (sl.set i (.own c))
  | .scr ns => some (sl.set i (.scr ns))
  | .own _ => none
  else none
def nxO (o : Option (List SV)) (cs : List CO) : Flw := match o with
  | some sl => .nx sl cs
  | none => .bad
def dAsg (i : Nat) (f : FE) : FS := fun sl cs => Res.toF sl (f sl cs) fun a => nxO (setS i a.1 sl) a.2
def dPar (i j : Nat) (fa : FA) : FS := fun sl cs => Res.toF sl (fa sl cs) fun a => match a.1 with
  | [.dat x, .dat y] => match setS i (.dat x) sl with
    | some s1 => nxO (setS j (.dat y) s1) a.2
    | none => .bad
  | _ => .bad
def dFz (i : Nat) (f : FS) : FS := fun sl cs => f (frzS i sl) cs
section
variable {X : Cx} {W : WX} {st : Stmt} {sts : List Stmt} {f g : FS} {fe : FE} {ft : FT} {fa : FA}
theorem ds_nx (h : PS X st tNext) : DS X W st dNx := PS.imp h fun D σ H q => by
  obtain ⟨F0, H0, F, sl, cs, R, o⟩ := q; exact o σ F H R
theorem ds_bk (h : PS X st tBreak) : DS X W st dBk := PS.imp h fun D σ H q => by
  obtain ⟨F0, H0, F, sl, cs, R, o⟩ := q; exact o σ F H R
theorem ds_ct (h : PS X st tCont) : DS X W st dCt := PS.imp h fun D σ H q => by
  obtain ⟨F0, H0, F, sl, cs, R, o⟩ := q; exact o σ F H R
theorem ds_never : DS X W st dBad := PS.imp ps_never fun D σ H q => by
  obtain ⟨F0, H0, F, sl, cs, R, o⟩ := q; exact o
theorem dss_never : DSs X W sts dBad := PSs.imp pss_never fun D σ H q => by
  obtain ⟨F0, H0, F, sl, cs, R, o⟩ := q; exact o
theorem dss_nil : DSs X W [] dNx := PSs.imp pss_nil fun D σ H q => by
  obtain ⟨F0, H0, F, sl, cs, R, o⟩ := q; exact o σ F H R
theorem dss_one (h : DS X W st f) : DSs X W [st] f := pss_one h
theorem dss_cons (h : DS X W st f) (k : DSs X W sts g) : DSs X W (st :: sts) (dSeq f g) := PSs.imp (pss_cons h k) fun D σ H q => by
  obtain ⟨F0, H0, F, sl, cs, R, o⟩ := q
  refine ⟨F0, H0, F, sl, cs, R, ?_⟩
  unfold dSeq at o
  cases e : f sl cs with
  | nx sl' cs' => rw [e] at o; exact fun σ' F' H' R' => ⟨F0, H0, F', sl', cs', R', o⟩
  | rt r c => rw [e] at o; exact o
  | bk a b => rw [e] at o; exact o
  | ct a b => rw [e] at o; exact o
  | exc C fs s c => rw [e] at o; exact o
  | bad => rw [e] at o; exact o
theorem dss_frz (i : Nat) (h : DSs X W sts f) : DSs X W sts (dFz i f) := PSs.imp h fun D σ H q => by
  obtain ⟨F0, H0, F, sl, cs, R, o⟩ := q
  obtain ⟨F', R'⟩ := R.frz (i := i)
  exact ⟨F0, H0, F', _, cs, R', o⟩
theorem ds_drop (h : PS X st (tDrop (rdE X.K W fe))) : DS X W st (dDrop fe) := PS.imp h fun D σ H q => by
  obtain ⟨F0, H0, F, sl, cs, R, o⟩ := q
  exact OutS.run_E R o fun r c v F' H' e n w k fv R' o' => o' σ F' H' R'
theorem ds_ret (h : PS X st (tRet (rdE X.K W fe))) : DS X W st (dRet fe) := PS.imp h fun D σ H q => by
  obtain ⟨F0, H0, F, sl, cs, R, o⟩ := q
  refine OutS.run_E R o fun r c v F' H' e n w k fv R' o' => o' v F' H' R'.fr w k ?_
  cases r with
  | new c => exact fun p ep => R.fr.none R.w (fv p ep)
  | _ => trivial
theorem ds_retN (h : PS X st tRetN) : DS X W st dRetN := PS.imp h fun D σ H q => by
  obtain ⟨F0, H0, F, sl, cs, R, o⟩ := q; exact o .non F H R.fr R.w .non trivial
theorem ds_retV {i : Nat} (h : PS X st (tRet (tVar i))) : DS X W st (dRetV i) := PS.imp h fun D σ H q => by
  obtain ⟨F0, H0, F, sl, cs, R, o⟩ := q
  unfold dRetV at o
  cases e : sl[i]? with
  | none => rw [e] at o; exact o.elim
  | some sv =>
    rw [e] at o
    have z := R.at_ i sv e
    cases sv with
    | un => exact o.elim
    | dat d => obtain ⟨x, e1, e2⟩ := z; exact ⟨x, e1, o x F H R.fr R.w e2 trivial⟩
    | own c => obtain ⟨p, e1, h0, e2⟩ := z; exact ⟨_, e1, o _ F H R.fr R.w ⟨p, rfl, e2⟩ fun q z => by cases z; exact h0⟩
    | scr ns => obtain ⟨p, e1, e2⟩ := z; exact ⟨_, e1, o _ F H R.fr R.w ⟨p, rfl, e2⟩ trivial⟩
theorem ds_if (h : PS X st (tIfS (rdT X.K W ft) (rdS X.K W f) (rdS X.K W g))) : DS X W st (dIfS ft f g) := PS.imp h fun D σ H q => by
  obtain ⟨F0, H0, F, sl, cs, R, o⟩ := q
  refine OutS.run_T R o fun b c F' H' e n w R' o' => ?_
  cases b with
  | true => rw [if_pos rfl]; exact ⟨F0, H0, F', sl, c, R', o'⟩
  | false => rw [if_neg Bool.false_ne_true]; exact ⟨F0, H0, F', sl, c, R', o'⟩
theorem Rel.setS {K : PySem.W.Frag} {F0 F : Fz} {H0 H Hb : Hp} {sl s1 : List SV} {cs : List CO} {σ : L2.St} {i : Nat} {r : RV} {v : V} (R : Rel K F0 H0 F H sl cs σ) (k : RvOk K F H v r) (fv : ∀ c, r = .new c → ∀ p, v = .ref p → H0 p = none ∧ ∀ (j : Nat) d, sl[j]? = some (.own d) → σ[j]? ≠ some (some (.ref p)))
    (e : SL.setS i r sl = some s1) : Rel K F0 H0 F H s1 cs (σ.set i (some v)) := by
  unfold SL.setS at e
  split at e
  · rename_i hi
    cases r with
    | dat d => cases e; exact R.set hi ⟨v, rfl, k⟩ fun c z => by cases z
    | scr ns => cases e; obtain ⟨p, rfl, k⟩ := k; exact R.set hi ⟨p, rfl, k⟩ fun c z => by cases z
    | new c =>
      cases e
      obtain ⟨p, rfl, l⟩ := k
      obtain ⟨h0, hd⟩ := fv c rfl p rfl
      refine R.set hi ⟨p, rfl, h0, l⟩ fun c' z j q d ev e1 e2 => ?_
      cases ev
      exact absurd e2 (hd j d e1)
    | own c => cases e
  · cases e
/-- a new object is none of the slots' own -/
theorem Rel.apart {K : PySem.W.Frag} {F0 F : Fz} {H0 H : Hp} {sl : List SV} {cs : List CO} {σ : L2.St} (R : Rel K F0 H0 F H sl cs σ) {p : Addr} (hp : H p = none) : H0 p = none ∧ ∀ (j : Nat) d, sl[j]? = some (.own d) → σ[j]? ≠ some (some (.ref p)) := by
  refine ⟨R.fr.none R.w hp, fun j d e ev => ?_⟩
  obtain ⟨q, a, _, _, _, o, b, _⟩ := R.at_ j _ e
  rw [ev] at a; cases a
  rw [hp] at b; cases b
theorem ds_asg {i : Nat} (h : PS X st (tAsg (rdE X.K W fe) (gName i))) : DS X W st (dAsg i fe) := PS.imp h fun D σ H q => by
  obtain ⟨F0, H0, F, sl, cs, R, o⟩ := q
  refine OutS.run_E R o fun r c v F' H' e n w k fv R' o' => ?_
  dsimp only at o'
  cases z : SL.setS i r sl with
  | none => rw [z] at o'; exact o'.elim
  | some s1 =>
    rw [z] at o'
    refine o' _ F' H' (Rel.setS (Hb := H) R' k (fun c ec p ep => ?_) z)
    subst ec
    exact R.apart (fv p ep)
theorem ds_par {i j : Nat} (h : PS X st (tPar i j (rdA X.K W fa))) : DS X W st (dPar i j fa) := PS.imp h fun D σ H q => by
  obtain ⟨F0, H0, F, sl, cs, R, o⟩ := q
  refine OutS.run_A R o fun rs c vs F' H' e n w k R' o' => ?_
  dsimp only at o'
  split at o'
  · rename_i x y
    cases k with
    | cons k1 k =>
      cases k with
      | cons k2 k =>
        cases k
        refine ⟨_, _, rfl, ?_⟩
        split at o'
        · rename_i s1 z1
          cases z2 : SL.setS j (.dat y) s1 with
          | none => rw [z2] at o'; exact o'.elim
          | some s2 =>
            rw [z2] at o'
            have R1 := Rel.setS (Hb := H) R' k1 (fun c ec => by cases ec) z1
            exact o' _ F' H' (Rel.setS (Hb := H) R1 k2 (fun c ec => by cases ec) z2)
        · exact o'.elim
  · exact o'.elim
end

/-! ### changing one's own list -/
/-- the object that slot i names, changed by g -/
def putO (i : Nat) (c : CO) (sl : List SV) (cs : List CO) : Flw := match sl[i]? with
  | some (.own _) => .nx (sl.set i (.own c)) cs
  | some (.dat (.ref k)) => .nx sl (cs.set k c)
  | _ => .bad
def CO.noTab : CO → Option CO
  | .tab _ _ => none
  | c => some c
theorem CO.noTab_eq {c d : CO} (h : c.noTab = some d) : d = c ∧ ∀ P q, c ≠ .tab P q := by
  cases c with
  | tab P q => cases h
  | _ => cases h; exact ⟨rfl, fun P q z => by cases z⟩
def getO (i : Nat) (sl : List SV) (cs : List CO) : Option CO := match sl[i]? with
  | some (.own c) => some c
  | some (.dat (.ref k)) => cs[k]?.bind CO.noTab
  | _ => none
section
variable {K : PySem.W.Frag} {W : WX} {F0 F : Fz} {H0 H : Hp} {sl : List SV} {cs : List CO} {σ : L2.St} {D : Ends}
theorem Rel.getO {i : Nat} {c : CO} (R : Rel K F0 H0 F H sl cs σ) (e : SL.getO i sl cs = some c) : ∃ p o, σ[i]? = some (some (.ref p)) ∧ H p = some o ∧ COk F o c := by
  unfold SL.getO at e
  split at e
  · rename_i z; cases e
    obtain ⟨p, a, _, _, _, o, b, k⟩ := R.at_ i _ z
    exact ⟨p, o, a, b, k⟩
  · rename_i k z
    obtain ⟨p, a, b⟩ : ∃ p, σ[i]? = some (some (.ref p)) ∧ F.μ[k]? = some p := by
      obtain ⟨x, a, b⟩ := R.at_ i _ z
      cases b with
      | ref b => exact ⟨_, a, b⟩
    cases q : cs[k]? with
    | none => rw [q] at e; cases e
    | some c0 =>
      rw [q] at e
      obtain ⟨ed, nt⟩ := CO.noTab_eq e
      subst ed
      obtain ⟨_, o, d, k⟩ := R.w.at_ _ p _ b q
      exact ⟨p, o, a, d, k.ok nt⟩
  · cases e
theorem Rel.putO {i : Nat} {p : Addr} {c : CO} {o' : HO} (R : Rel K F0 H0 F H sl cs σ) (ev : σ[i]? = some (some (.ref p))) (k : COk F o' c) (o : OutS K W F0 H0 D (SL.putO i c sl cs)) : D.nx σ (upd H p o') := by
  unfold SL.putO at o
  split at o
  · rename_i z; exact o σ F _ (R.mut z ev k)
  · rename_i j z
    obtain ⟨x, a, b⟩ := R.at_ i _ z
    rw [ev] at a; cases a
    cases b with
    | ref b => exact o σ F _ (R.mutCell b (.inl k))
  · exact o.elim
end
def dApp (i : Nat) (fa : FA) : FS := fun sl cs => match getO i sl cs with
  | some (.lst _) => Res.toF sl (fa sl cs) fun a => match a.1, getO i sl a.2 with
    | [.dat d], some (.lst xs) => if xs.length < sizeLine then putO i (.lst (xs ++ [d])) sl a.2 else .bad
    | _, _ => .bad
  | _ => .bad
/-- xs.extend(ys) -/
def dExt (i : Nat) (fa : FA) : FS := fun sl cs => match getO i sl cs with
  | some (.lst _) => Res.toF sl (fa sl cs) fun a => match a.1, getO i sl a.2 with
    | [.dat (.lst ys)], some (.lst xs) => if xs.length + ys.length ≤ sizeLine then putO i (.lst (xs ++ ys)) sl a.2 else .bad
    | _, _ => .bad
  | _ => .bad
/-- xs.pop() as a statement -/
def dPop (i : Nat) : FS := fun sl cs => match getO i sl cs with
  | some (.lst xs) => if xs.isEmpty then .bad else putO i (.lst xs.dropLast) sl cs
  | _ => .bad
/-- xs[j] = e -/
def dSetIx (i : Nat) (fe fj : FE) : FS := fun sl cs => Res.toF sl (dFrz fe sl cs) fun a => match a.1 with
  | .dat d => match getO i sl a.2 with
    | some _ => Res.toF sl (fj sl a.2) fun b => match b.1, getO i sl b.2 with
      | .dat (.int j), some (.lst xs) => match ixN xs.length j with
        | some n => putO i (.lst (xs.set n d)) sl b.2
        | none => .bad
      | _, _ => .bad
    | none => .bad
  | _ => .bad
section
variable {X : Cx} {W : WX} {st : Stmt} {fe fj : FE} {fa : FA} {i : Nat}
theorem ds_app (h : PS X st (tDrop (tBM X.K "list" rAppend (tVar i) (rdA X.K W fa)))) : DS X W st (dApp i fa) := PS.imp h fun D σ H q => by
  obtain ⟨F0, H0, F, sl, cs, R, o⟩ := q
  unfold dApp at o
  split at o
  · rename_i xs0 e0
    obtain ⟨p, ho, ev, hp, k⟩ := R.getO e0
    cases ho <;> first | exact k.elim | skip
    refine ⟨_, ev, .inl ⟨rfl, _, SqL.of hp⟩, ?_⟩
    refine OutS.run_A R o fun rs c vs F' H' e n w k' R' o' => ?_
    dsimp only at o'
    split at o'
    · rename_i rs' d xs e2
      split at o'
      · rename_i hl
        cases k' with
        | cons kd kn =>
          cases kn
          obtain ⟨p2, ho2, ev2, hp2, k2⟩ := R'.getO e2
          rw [ev] at ev2; cases ev2
          cases ho2 <;> first | exact k2.elim | skip
          rename_i ys
          have k3 : DenAll F' ys xs := k2
          exact ⟨p, ys, _, rfl, rfl, hp2, by rw [k3.length]; exact hl, R'.putO (c := .lst (xs ++ [d])) (o' := .lst (ys ++ [_])) ev (k3.append (.cons kd .nil)) o'⟩
      · exact o'.elim
    · exact o'.elim
  · exact o.elim
theorem ds_pop (h : PS X st (tDrop (tBM0 X.K "list" rPop (tVar i)))) : DS X W st (dPop i) := PS.imp h fun D σ H q => by
  obtain ⟨F0, H0, F, sl, cs, R, o⟩ := q
  unfold dPop at o
  split at o
  · rename_i xs e0
    obtain ⟨p, ho, ev, hp, k⟩ := R.getO e0
    cases ho <;> first | exact k.elim | skip
    rename_i ys
    have k3 : DenAll F ys xs := k
    split at o
    · exact o.elim
    · rename_i ne
      have hy : ys.length - 1 < ys.length := by
        have : xs ≠ [] := fun z => ne (by rw [z]; rfl)
        have h2 := List.length_pos_iff.mpr this
        rw [k3.length]; omega
      refine ⟨_, ev, .inl ⟨rfl, _, SqL.of hp⟩, p, ys, ys[ys.length - 1], rfl, rfl, hp, List.getElem?_eq_getElem hy, ?_⟩
      exact R.putO (c := .lst xs.dropLast) (o' := .lst ys.dropLast) ev k3.dropLast o
  · exact o.elim
theorem ds_setix (h : PS X st (tAsg (rdE X.K W (dFrz fe)) (L2.gSub (tVar i) (rdE X.K W fj) rSetL))) : DS X W st (dSetIx i fe fj) := PS.imp h fun D σ H q => by
  obtain ⟨F0, H0, F, sl, cs, R, o⟩ := q
  refine OutS.run_E R o fun r c v F1 H1 e n w k fv R1 o1 => ?_
  dsimp only at o1
  split at o1
  · rename_i d
    split at o1
    · rename_i co e0
      obtain ⟨p, ho, ev, hp, k0⟩ := R1.getO e0
      refine ⟨_, ev, ?_⟩
      refine OutS.run_E R1 o1 fun r2 c2 v2 F2 H2 e2 n2 w2 k2 fv2 R2 o2 => ?_
      dsimp only at o2
      split at o2
      · rename_i j xs e3
        obtain ⟨p3, ho3, ev3, hp3, k3⟩ := R2.getO e3
        rw [ev] at ev3; cases ev3
        cases ho3 <;> first | exact k3.elim | skip
        rename_i ys
        have k4 : DenAll F2 ys xs := k3
        have k5 : Den F2 v2 (.int j) := k2
        cases k5
        split at o2
        · rename_i m em
          exact ⟨p, ys, j, m, rfl, rfl, hp3, by rw [k4.length]; exact em, R2.putO (c := .lst (xs.set m d)) (o' := .lst (ys.set m v)) ev (k4.set (Den.mono n2.ex (show Den F1 v d from k)) m) o2⟩
        · exact o2.elim
      · exact o2.elim
    · exact o1.elim
  · exact o1.elim
end

/-! ### loops -/
/-- what is walked: data, or a cell's list as it stands -/
inductive Src where
  | lit (ds : List D) | cel (k : Nat)
def lstOf : Option CO → Option (List D)
  | some (.lst ds) => some ds
  | _ => none
def Src.now (cs : List CO) : Src → Option (List D)
  | .lit ds => some ds
  | .cel k => lstOf (cs[k]?)
/-- an iterator that yields these -/
def IterOk (J : It) (F0 : Fz) (src : Src) : Prop := ∀ F H cs, Ex F0 F → Wok F H cs → ∀ ds, src.now cs = some ds → ∀ i : Nat,
  (i < ds.length → J.go i H ∧ ∀ x H', J.yld i H x H' → ∃ F', Nx F H F' H' ∧ Wok F' H' cs ∧ ∃ d, ds[i]? = some d ∧ Den F' x d) ∧ (ds.length ≤ i → J.stop i H)
abbrev FI := List SV → List CO → Res (Src × List CO)
def OutI (K : PySem.W.Frag) (W : XK) (F : Fz) (H : Hp) (Rr : It → Hp → Prop) : Res (Src × List CO) → Prop
  | .ok (ds, cs') => ∀ J F' H', Nx F H F' H' → Wok F' H' cs' → IterOk J F' ds → Rr J H'
  | .exc C fs cs' => Raised K F H W C fs cs'
  | .bad => False
def rdI (K : PySem.W.Frag) (W : WX) (f : FI) : TI := fun σ H Rr => ∃ F0 H0 F sl cs, Rel K F0 H0 F H sl cs σ ∧ OutI K (atX W σ) F H Rr (f sl cs)
abbrev DI (X : Cx) (W : WX) (tg iter : Expr) (f : FI) : Prop := PI X tg iter (rdI X.K W f)
theorem PI.imp {X : Cx} {tg e : Expr} {t t' : TI} (h : PI X tg e t) (i : ∀ σ H R, t' σ H R → t σ H R) : PI X tg e t' := ⟨fun p s σ H R I q => h.run p s σ H R I (i σ H R q)⟩
/-- a target -/
abbrev FG := D → List SV → Option (List SV)
def rdG (K : PySem.W.Frag) (t : FG) : TG := fun v σ H Q => ∃ F0 H0 F sl cs d s1, Rel K F0 H0 F H sl cs σ ∧ Den F v d ∧ t d sl = some s1 ∧ ∀ σ', Rel K F0 H0 F H s1 cs σ' → Q σ' H
abbrev DG (X : Cx) (tg : Expr) (t : FG) : Prop := PG X tg (rdG X.K t)
theorem PG.imp {X : Cx} {e : Expr} {t t' : TG} (h : PG X e t) (i : ∀ v σ H Q, t' v σ H Q → t v σ H Q) : PG X e t' := ⟨fun p s σ H v u Q I r q => h.run p s σ H v u Q I r (i v σ H Q q)⟩
def tgN (i : Nat) : FG := fun d sl => setS i (.dat d) sl
theorem dg_name {X : Cx} {e : Expr} {i : Nat} (h : PG X e (gName i)) : DG X e (tgN i) := PG.imp h fun v σ H Q q => by
  obtain ⟨F0, H0, F, sl, cs, d, s1, R, k, e, o⟩ := q
  exact o _ (Rel.setS (Hb := H) (r := .dat d) R k (fun c ec => by cases ec) e)
def tgAll : List Nat → List D → List SV → Option (List SV)
  | [], [], sl => some sl
  | i :: is, d :: ds, sl => match setS i (.dat d) sl with
    | some s1 => tgAll is ds s1
    | none => none
  | _, _, _ => none
def tgT (is : List Nat) : FG := fun d sl => match d with
  | .tup ds => tgAll is ds sl
  | _ => none
/-- the targets one by one -/
def gAll : List Nat → TGs
  | [] => gNil
  | i :: is => gCons (gName i) (gAll is)
theorem gAll_run {K : PySem.W.Frag} {F0 F : Fz} {H0 H : Hp} {cs : List CO} {Q : L2.St → Hp → Prop} : ∀ {is : List Nat} {ds : List D} {vs : List V} {sl s1 : List SV} {σ : L2.St}, Rel K F0 H0 F H sl cs σ → DenAll F vs ds → tgAll is ds sl = some s1 → (∀ σ', Rel K F0 H0 F H s1 cs σ' → Q σ' H) → gAll is vs σ H Q
  | [], ds, vs, sl, s1, σ, R, k, e, o => by
    cases k with
    | nil => cases e; exact ⟨rfl, o σ R⟩
    | cons _ _ => cases e
  | i :: is, ds, vs, sl, s1, σ, R, k, e, o => by
    cases k with
    | nil => cases e
    | cons k1 k2 =>
      unfold tgAll at e
      split at e
      · rename_i s2 e2
        exact ⟨_, _, rfl, gAll_run (Rel.setS (Hb := H) (r := .dat _) R k1 (fun c ec => by cases ec) e2) k2 e o⟩
      · cases e
theorem tgAll_len : ∀ {is : List Nat} {ds : List D} {sl s1 : List SV}, tgAll is ds sl = some s1 → ds.length = is.length
  | [], [], _, _, _ => rfl
  | [], _ :: _, _, _, e => by cases e
  | _ :: _, [], _, _, e => by cases e
  | i :: is, d :: ds, sl, s1, e => by
    unfold tgAll at e
    split at e
    · simp [tgAll_len e]
    · cases e
theorem dg_tup {X : Cx} {e : Expr} {is : List Nat} (h : PG X e (gTup X.K is.length (gAll is))) : DG X e (tgT is) := PG.imp h fun v σ H Q q => by
  obtain ⟨F0, H0, F, sl, cs, d, s1, R, k, e, o⟩ := q
  cases d with
  | tup ds =>
    cases k with
    | tup h1 h2 => exact ⟨_, _, rfl, SqT.of (R.w.ex _ _ h1), by rw [h2.length]; exact tgAll_len e, gAll_run R h2 e o⟩
  | _ => cases e
/-- a, b = e: a tuple's items stored -/
def dUnp (t : FG) (f : FE) : FS := fun sl cs => Res.toF sl (dFrz f sl cs) fun a => match a.1 with
  | .dat d => nxO (t d sl) a.2
  | _ => .bad
theorem ds_unp {X : Cx} {W : WX} {st : Stmt} {t : FG} {f : FE} (h : PS X st (tAsg (rdE X.K W (dFrz f)) (rdG X.K t))) : DS X W st (dUnp t f) := PS.imp h fun D σ H q => by
  obtain ⟨F0, H0, F, sl, cs, R, o⟩ := q
  refine OutS.run_E R o fun r c v F1 H1 e n w k fv R1 o1 => ?_
  dsimp only at o1
  split at o1
  · rename_i d
    cases z : t d sl with
    | none => rw [z] at o1; exact o1.elim
    | some s1 => rw [z] at o1; exact ⟨F0, H0, F1, sl, c, d, s1, R1, k, z, fun σ' R' => o1 σ' F1 H1 R'⟩
  · exact o1.elim
def loopF (t : FG) (body : FS) : List D → List SV → List CO → Flw
  | [], sl, cs => .nx sl cs
  | d :: ds, sl, cs => match t d sl with
    | none => .bad
    | some s1 => match body s1 cs with
      | .nx s2 c2 => loopF t body ds s2 c2
      | .ct s2 c2 => loopF t body ds s2 c2
      | .bk s2 c2 => .nx s2 c2
      | .rt r c => .rt r c
      | .exc C fs s c => .exc C fs s c
      | .bad => .bad
/-- a loop over what may change -/
def loopS (t : FG) (body : FS) (src : Src) : Nat → Nat → List SV → List CO → Flw
  | 0, _, _, _ => .bad
  | n + 1, i, sl, cs => match src.now cs with
    | none => .bad
    | some ds => match ds[i]? with
      | none => .nx sl cs
      | some d => match t d sl with
        | none => .bad
        | some s1 => match body s1 cs with
          | .nx s2 c2 => loopS t body src n (i + 1) s2 c2
          | .ct s2 c2 => loopS t body src n (i + 1) s2 c2
          | .bk s2 c2 => .nx s2 c2
          | .rt r c => .rt r c
          | .exc C fs s c => .exc C fs s c
          | .bad => .bad
def loopX (t : FG) (body : FS) : Src → List SV → List CO → Flw
  | .lit ds => loopF t body ds
  | .cel k => loopS t body (.cel k) 100000 0
def dFor (fi : FI) (t : FG) (body : FS) : FS := fun sl cs => Res.toF sl (fi sl cs) fun a => loopX t body a.1 sl a.2
theorem ds_for {X : Cx} {W : WX} {st : Stmt} {fi : FI} {t : FG} {body : FS} (h : PS X st (tFor (rdI X.K W fi) (rdG X.K t) (rdS X.K W body))) : DS X W st (dFor fi t body) := PS.imp h fun D σ H q => by
  obtain ⟨F0, H0, F, sl, cs, R, o⟩ := q
  refine ⟨F0, H0, F, sl, cs, R, ?_⟩
  unfold dFor at o
  cases e : fi sl cs with
  | exc C fs c => rw [e] at o; exact RaisedS.at_ o R
  | bad => rw [e] at o; exact o.elim
  | ok a =>
    obtain ⟨src, c1⟩ := a
    rw [e] at o
    intro J F1 H1 n1 w1 it
    have R1 := R.step n1 w1
    cases src with
    | lit ds =>
      have o' : OutS X.K W F1 H0 D (loopF t body ds sl c1) := OutS.gh R1.fr o
      refine ⟨fun i m σ' H' => i + m = ds.length ∧ ∃ F' sl' cs', Rel X.K F1 H0 F' H' sl' cs' σ' ∧ OutS X.K W F1 H0 D (loopF t body (ds.drop i) sl' cs'), ⟨ds.length, Nat.zero_add _, F1, sl, c1, R1.gh, o'⟩, ?_⟩
      rintro i m σ2 H2 ⟨him, F2, s2, c2, R2, o2⟩
      obtain ⟨ig, is⟩ := it F2 H2 c2 R2.fr.ex R2.w ds rfl i
      by_cases hi : i < ds.length
      · refine .inr ⟨(ig hi).1, fun σ' H' => i + 1 + (m - 1) = ds.length ∧ ∃ F' sl' cs', Rel X.K F1 H0 F' H' sl' cs' σ' ∧ OutS X.K W F1 H0 D (loopF t body (ds.drop (i + 1)) sl' cs'), fun σ' H' w => ⟨m - 1, by omega, w⟩, ?_⟩
        intro x H3 y
        obtain ⟨F3, n3, w3, d, ed, kd⟩ := (ig hi).2 x H3 y
        have R3 := R2.step n3 w3
        have hd : ds.drop i = d :: ds.drop (i + 1) := by
          rw [List.drop_eq_getElem_cons hi]
          rw [List.getElem?_eq_getElem hi] at ed
          cases ed; rfl
        rw [hd] at o2
        unfold loopF at o2
        split at o2
        · exact o2.elim
        · rename_i s3 e3
          refine ⟨F1, H0, F3, s2, c2, d, s3, R3, kd, e3, fun σ4 R4 => ⟨F1, H0, F3, s3, c2, R4, ?_⟩⟩
          split at o2 <;> rename_i e4 <;> rw [e4]
          · exact fun σ5 F5 H5 R5 => ⟨by omega, F5, _, _, R5, o2⟩
          · exact fun σ5 F5 H5 R5 => ⟨by omega, F5, _, _, R5, o2⟩
          · exact o2
          · exact o2
          · exact o2
          · exact o2
      · refine .inl ⟨is (by omega), ?_⟩
        rw [List.drop_eq_nil_of_le (by omega)] at o2
        exact o2 σ2 F2 H2 R2
    | cel k =>
      have o' : OutS X.K W F1 H0 D (loopS t body (.cel k) 100000 0 sl c1) := OutS.gh R1.fr o
      refine ⟨fun i m σ' H' => ∃ F' sl' cs', Rel X.K F1 H0 F' H' sl' cs' σ' ∧ OutS X.K W F1 H0 D (loopS t body (.cel k) m i sl' cs'), ⟨100000, F1, sl, c1, R1.gh, o'⟩, ?_⟩
      rintro i m σ2 H2 ⟨F2, s2, c2, R2, o2⟩
      cases m with
      | zero => exact o2.elim
      | succ m =>
        unfold loopS at o2
        cases en : Src.now c2 (.cel k) with
        | none => rw [en] at o2; exact o2.elim
        | some ds =>
          rw [en] at o2
          obtain ⟨ig, is⟩ := it F2 H2 c2 R2.fr.ex R2.w ds en i
          dsimp only at o2
          by_cases hi : i < ds.length
          · refine .inr ⟨(ig hi).1, fun σ' H' => ∃ F' sl' cs', Rel X.K F1 H0 F' H' sl' cs' σ' ∧ OutS X.K W F1 H0 D (loopS t body (.cel k) m (i + 1) sl' cs'), fun σ' H' w => ⟨m, by omega, w⟩, ?_⟩
            intro x H3 y
            obtain ⟨F3, n3, w3, d, ed, kd⟩ := (ig hi).2 x H3 y
            have R3 := R2.step n3 w3
            rw [ed] at o2
            dsimp only at o2
            split at o2
            · exact o2.elim
            · rename_i s3 e3
              refine ⟨F1, H0, F3, s2, c2, d, s3, R3, kd, e3, fun σ4 R4 => ⟨F1, H0, F3, s3, c2, R4, ?_⟩⟩
              split at o2 <;> rename_i e4 <;> rw [e4]
              · exact fun σ5 F5 H5 R5 => ⟨F5, _, _, R5, o2⟩
              · exact fun σ5 F5 H5 R5 => ⟨F5, _, _, R5, o2⟩
              · exact o2
              · exact o2
              · exact o2
              · exact o2
          · refine .inl ⟨is (by omega), ?_⟩
            rw [List.getElem?_eq_none (by omega)] at o2
            exact o2 σ2 F2 H2 R2
def whileF (t : FT) (body : FS) : Nat → List SV → List CO → Flw
  | 0, _, _ => .bad
  | n + 1, sl, cs => Res.toF sl (t sl cs) fun a => if a.1 then match body sl a.2 with
      | .nx s2 c2 => whileF t body n s2 c2
      | .ct s2 c2 => whileF t body n s2 c2
      | .bk s2 c2 => .nx s2 c2
      | .rt r c => .rt r c
      | .exc C fs s c => .exc C fs s c
      | .bad => .bad
    else .nx sl a.2
/-- with at most n turns -/
def dWhile (n : Nat) (t : FT) (body : FS) : FS := fun sl cs => whileF t body n sl cs
theorem ds_while {X : Cx} {W : WX} {st : Stmt} {t : FT} {body : FS} (n : Nat) (h : PS X st (tWhile (rdT X.K W t) (rdS X.K W body))) : DS X W st (dWhile n t body) := PS.imp h fun D σ H q => by
  obtain ⟨F0, H0, F, sl, cs, R, o⟩ := q
  refine ⟨fun m σ' H' => ∃ F' sl' cs', Rel X.K F0 H0 F' H' sl' cs' σ' ∧ OutS X.K W F0 H0 D (whileF t body m sl' cs'), ⟨n, F, sl, cs, R, o⟩, ?_⟩
  rintro m σ2 H2 ⟨F2, s2, c2, R2, o2⟩
  cases m with
  | zero => exact o2.elim
  | succ m =>
    refine OutS.run_T R2 o2 fun b c F3 H3 e n3 w3 R3 o3 => ?_
    cases b with
    | false => rw [if_neg Bool.false_ne_true]; exact o3 σ2 F3 H3 R3
    | true =>
      rw [if_pos rfl]
      refine ⟨fun σ' H' => ∃ F' sl' cs', Rel X.K F0 H0 F' H' sl' cs' σ' ∧ OutS X.K W F0 H0 D (whileF t body m sl' cs'), fun σ' H' w => ⟨m, Nat.lt_succ_self m, w⟩, F0, H0, F3, s2, c, R3, ?_⟩
      have o4 : OutS X.K W F0 H0 D (match body s2 c with
        | .nx s2 c2 => whileF t body m s2 c2
        | .ct s2 c2 => whileF t body m s2 c2
        | .bk s2 c2 => .nx s2 c2
        | .rt r c => .rt r c
        | .exc C fs s c => .exc C fs s c
        | .bad => .bad) := o3
      split at o4 <;> rename_i e4 <;> rw [e4]
      · exact fun σ5 F5 H5 R5 => ⟨F5, _, _, R5, o4⟩
      · exact fun σ5 F5 H5 R5 => ⟨F5, _, _, R5, o4⟩
      · exact o4
      · exact o4
      · exact o4
      · exact o4
end SL

/-! Sh: what is walked; comprehensions; slices. -/
namespace SL
open PySem L2

def one (c : Nat) : D := .str ⟨#[c]⟩
/-! the items of a list, a tuple, a text -/

def itemsOf (f : FE) : FI := fun sl cs => (dFrz f sl cs).then fun a => match a.1 with
  | .dat (.lst ds) => .ok (.lit ds, a.2)
  | .dat (.tup ds) => .ok (.lit ds, a.2)
  | .dat (.str z) => .ok (.lit (z.cps.toList.map one), a.2)
  | .dat (.ref k) => if (lstOf (a.2[k]?)).isSome then .ok (.cel k, a.2) else .bad
  | _ => .bad
def rngL (lo : Int) (n : Nat) : List D := (List.range n).map fun i => .int (lo + (i : Nat))
def rng1 (fa : FA) : FI := fun sl cs => (fa sl cs).then fun a => match a.1 with
  | [.dat (.int j)] => if -(2 ^ 62) ≤ j ∧ j < 2 ^ 62 then .ok (.lit (rngL 0 j.toNat), a.2) else .bad
  | _ => .bad
def rng2 (fa : FA) : FI := fun sl cs => (fa sl cs).then fun a => match a.1 with
  | [.dat (.int i), .dat (.int j)] => if -(2 ^ 62) ≤ i ∧ i < 2 ^ 62 ∧ -(2 ^ 62) ≤ j ∧ j < 2 ^ 62 then .ok (.lit (rngL i (j - i).toNat), a.2) else .bad
  | _ => .bad
def rngC (lo c : Int) (n : Nat) : List D := (List.range n).map fun i => .int (lo + (i : Nat) * c)
def rng3 (fa : FA) : FI := fun sl cs => (fa sl cs).then fun a => match a.1 with
  | [.dat (.int i), .dat (.int j), .dat (.int c)] => if c ≠ 0 ∧ c.natAbs < 1073741824 ∧ Builtin.Range.small i j c = true ∧ 0 ≤ Builtin.Range.rangeSize i j c then .ok (.lit (rngC i c (Builtin.Range.rangeSize i j c).toNat), a.2) else .bad
  | _ => .bad
def enumL : Nat → List D → List D
  | _, [] => []
  | i, d :: ds => .tup [.int (i : Nat), d] :: enumL (i + 1) ds
def enumF (fa : FA) : FI := fun sl cs => (fa sl cs).then fun a => match a.1 with
  | [.dat (.lst ds)] => .ok (.lit (enumL 0 ds), a.2)
  | _ => .bad
def zipL : List D → List D → List D
  | a :: as, b :: bs => .tup [a, b] :: zipL as bs
  | _, _ => []
def zipF (fa : FA) : FI := fun sl cs => (fa sl cs).then fun a => match a.1 with
  | [.dat (.lst ds), .dat (.lst es)] => .ok (.lit (zipL ds es), a.2)
  | _ => .bad
section
variable {F F0 F' : Fz} {H H0 H' : Hp} {cs : List CO}
/-- a new tuple laid and frozen -/
theorem Wok.tup (w : Wok F H cs) {p : Addr} {o : HO} (hp : H p = none) : Wok (F.up p o) (upd H p o) cs ∧ Nx F H (F.up p o) (upd H p o) := by
  have nf : F p = none := by
    cases e : F p with
    | none => rfl
    | some u => have := w.ex p u e; rw [hp] at this; cases this
  have nm : p ∉ F.μ := fun z => by obtain ⟨_, o, e⟩ := w.there z; rw [hp] at e; cases e
  have x : Ex F (F.up p o) := .up nf
  refine ⟨⟨fun b u h => ?_, w.len, w.nd, fun i q c h1 h2 => ?_⟩, ⟨x, fun _ h => .inl h, fun b u h => ?_, fun b u h _ => ?_⟩⟩
  · by_cases hb : b = p
    · subst hb; rw [up_same] at h; rw [upd_same]; exact h
    · rw [up_ne hb] at h; rw [upd_ne hb]; exact w.ex b u h
  · obtain ⟨a1, u, b1, d1⟩ := w.at_ i q c h1 h2
    have hq : q ≠ p := fun z => nm (z ▸ List.mem_of_getElem? h1)
    exact ⟨by rw [up_ne hq]; exact a1, u, by rw [upd_ne hq]; exact b1, d1.mono x⟩
  · by_cases hb : b = p
    · subst hb; exact .inr hp
    · rw [up_ne hb] at h; exact .inl h
  · rw [upd_ne (ne_of_none h hp)]; exact h
theorem it_list {K : PySem.W.Frag} {a : Addr} {vs : List V} {ds : List D} (h : F0 a = some (.lst vs)) (k : DenAll F0 vs ds) : IterOk (Itl K a) F0 (.lit ds) := by
  intro F H cs x w _ ed i
  cases ed
  have hH : H a = some (.lst vs) := w.ex _ _ (x _ _ h)
  refine ⟨fun hi => ?_, fun hi => ⟨vs, SqL.of hH, by rw [k.length]; exact hi⟩⟩
  obtain ⟨v, ev, dv⟩ := k.get (List.getElem?_eq_getElem hi)
  refine ⟨⟨vs, v, SqL.of hH, ev⟩, ?_⟩
  rintro y H' ⟨rfl, q⟩
  have e2 := q vs (SqL.of hH)
  rw [ev] at e2; cases e2
  exact ⟨F, .refl, w, _, List.getElem?_eq_getElem hi, dv.mono x⟩
theorem it_cell {K : PySem.W.Frag} {a : Addr} {k : Nat} (h : F0.μ[k]? = some a) : IterOk (Itl K a) F0 (.cel k) := by
  intro F H cs x w ds en i
  obtain ⟨vs, hH, kd⟩ : ∃ vs, H a = some (.lst vs) ∧ DenAll F vs ds := by
    have en : lstOf (cs[k]?) = some ds := en
    cases e : cs[k]? with
    | none => rw [e] at en; cases en
    | some c =>
      rw [e] at en
      cases c with
      | lst ds' =>
        cases en
        obtain ⟨_, o, h1, h2⟩ := w.at_ k a _ (x.cell h) e
        rcases h2 with h2 | ⟨q, ps, z, _⟩
        · cases o <;> first | exact h2.elim | skip
          exact ⟨_, h1, h2⟩
        · cases z
      | _ => cases en
  refine ⟨fun hi => ?_, fun hi => ⟨vs, SqL.of hH, by rw [kd.length]; exact hi⟩⟩
  obtain ⟨v, ev, dv⟩ := kd.get (List.getElem?_eq_getElem hi)
  refine ⟨⟨vs, v, SqL.of hH, ev⟩, ?_⟩
  rintro y H' ⟨rfl, q⟩
  have e2 := q vs (SqL.of hH)
  rw [ev] at e2; cases e2
  exact ⟨F, .refl, w, _, List.getElem?_eq_getElem hi, dv⟩
theorem it_tup {K : PySem.W.Frag} {a : Addr} {vs : List V} {ds : List D} (h : F0 a = some (.tup vs)) (k : DenAll F0 vs ds) : IterOk (Itt K a) F0 (.lit ds) := by
  intro F H cs x w _ ed i
  cases ed
  have hH : H a = some (.tup vs) := w.ex _ _ (x _ _ h)
  refine ⟨fun hi => ?_, fun hi => ⟨vs, SqT.of hH, by rw [k.length]; exact hi⟩⟩
  obtain ⟨v, ev, dv⟩ := k.get (List.getElem?_eq_getElem hi)
  refine ⟨⟨vs, v, SqT.of hH, ev⟩, ?_⟩
  rintro y H' ⟨rfl, q⟩
  have e2 := q vs (SqT.of hH)
  rw [ev] at e2; cases e2
  exact ⟨F, .refl, w, _, List.getElem?_eq_getElem hi, dv.mono x⟩
theorem it_str {z : Str} : IterOk (Its z) F0 (.lit (z.cps.toList.map one)) := by
  intro F H cs x w _ ed i
  cases ed
  refine ⟨fun hi => ⟨show i < z.cps.size by simpa using hi, ?_⟩, fun hi => show z.cps.size ≤ i by simpa using hi⟩
  rintro y H' ⟨rfl, c, ec, rfl⟩
  refine ⟨F, .refl, w, one c, ?_, .str _⟩
  rw [List.getElem?_map]
  simp [ec]
theorem it_rng {lo : Int} {n : Nat} : IterOk (Itr lo n) F0 (.lit (rngL lo n)) := by
  intro F H cs x w _ ed i
  cases ed
  refine ⟨fun hi => ?_, fun hi => show n ≤ i by simpa [rngL] using hi⟩
  have hi' : i < n := by simpa [rngL] using hi
  refine ⟨hi', ?_⟩
  rintro y H' ⟨rfl, rfl⟩
  exact ⟨F, .refl, w, .int (lo + (i : Nat)), by simp [rngL, List.getElem?_map, List.getElem?_range hi'], .int _⟩
theorem it_rngC {lo c : Int} {n : Nat} : IterOk (Itc lo c n) F0 (.lit (rngC lo c n)) := by
  intro F H cs x w _ ed i
  cases ed
  refine ⟨fun hi => ?_, fun hi => show n ≤ i by simpa [rngC] using hi⟩
  have hi' : i < n := by simpa [rngC] using hi
  refine ⟨hi', ?_⟩
  rintro y H' ⟨rfl, rfl⟩
  exact ⟨F, .refl, w, .int (lo + (i : Nat) * c), by simp [rngC, List.getElem?_map, List.getElem?_range hi'], .int _⟩
theorem enumL_get : ∀ (ds : List D) (k i : Nat), (enumL k ds)[i]? = ds[i]?.map fun d => .tup [.int ((k + i : Nat) : Int), d]
  | [], k, i => by simp [enumL]
  | d :: ds, k, 0 => by simp [enumL]
  | d :: ds, k, i + 1 => by simp only [enumL, List.getElem?_cons_succ, enumL_get ds (k + 1) i]; rw [show k + 1 + i = k + (i + 1) by omega]
theorem enumL_len : ∀ (ds : List D) (k : Nat), (enumL k ds).length = ds.length
  | [], _ => rfl
  | d :: ds, k => by simp [enumL, enumL_len ds]
theorem it_enum {K : PySem.W.Frag} {a : Addr} {vs : List V} {ds : List D} (h : F0 a = some (.lst vs)) (k : DenAll F0 vs ds) : IterOk (Ite K a) F0 (.lit (enumL 0 ds)) := by
  intro F H cs x w _ ed i
  cases ed
  have hH : H a = some (.lst vs) := w.ex _ _ (x _ _ h)
  rw [enumL_len]
  refine ⟨fun hi => ?_, fun hi => ⟨vs, SqL.of hH, by rw [k.length]; exact hi⟩⟩
  obtain ⟨v, ev, dv⟩ := k.get (List.getElem?_eq_getElem hi)
  refine ⟨⟨vs, v, SqL.of hH, ev⟩, ?_⟩
  rintro y H' ⟨T, u, rfl, hT, rfl, q⟩
  have e2 := q vs (SqL.of hH)
  rw [ev] at e2; cases e2
  obtain ⟨w2, n2⟩ := w.tup (o := .tup [.int (i : Nat), v]) hT
  refine ⟨_, n2, w2, .tup [.int (i : Nat), ds[i]], ?_, .tup up_same (.cons (.int _) (.cons ((dv.mono x).mono n2.ex) .nil))⟩
  rw [enumL_get, List.getElem?_eq_getElem hi]
  simp
theorem zipL_get : ∀ (as bs : List D) (i : Nat), (zipL as bs)[i]? = match as[i]?, bs[i]? with
    | some a, some b => some (.tup [a, b])
    | _, _ => none
  | [], bs, i => by simp [zipL]
  | a :: as, [], i => by
    cases h : (a :: as)[i]? <;> simp [zipL]
  | a :: as, b :: bs, 0 => by simp [zipL]
  | a :: as, b :: bs, i + 1 => by simp only [zipL, List.getElem?_cons_succ, zipL_get as bs i]
theorem zipL_len : ∀ (as bs : List D), (zipL as bs).length = min as.length bs.length
  | [], bs => by simp [zipL]
  | a :: as, [] => by simp [zipL]
  | a :: as, b :: bs => by simp only [zipL, List.length_cons, zipL_len as bs]; omega
theorem it_zip {K : PySem.W.Frag} {a b : Addr} {vs us : List V} {ds es : List D} (h : F0 a = some (.lst vs)) (k : DenAll F0 vs ds) (h' : F0 b = some (.lst us)) (k' : DenAll F0 us es) : IterOk (Itz K a b) F0 (.lit (zipL ds es)) := by
  intro F H cs x w _ ed i
  cases ed
  have hA : H a = some (.lst vs) := w.ex _ _ (x _ _ h)
  have hB : H b = some (.lst us) := w.ex _ _ (x _ _ h')
  rw [zipL_len]
  refine ⟨fun hi => ?_, fun hi => ⟨vs, us, SqL.of hA, SqL.of hB, by rw [k.length, k'.length]; omega⟩⟩
  have h1 : i < ds.length := by omega
  have h2 : i < es.length := by omega
  obtain ⟨v, ev, dv⟩ := k.get (List.getElem?_eq_getElem h1)
  obtain ⟨u, eu, du⟩ := k'.get (List.getElem?_eq_getElem h2)
  refine ⟨⟨vs, us, v, u, SqL.of hA, SqL.of hB, ev, eu⟩, ?_⟩
  rintro y H' ⟨T, v', u', rfl, hT, rfl, q1, q2⟩
  have e1 := q1 vs (SqL.of hA)
  have e2 := q2 us (SqL.of hB)
  rw [ev] at e1; cases e1
  rw [eu] at e2; cases e2
  obtain ⟨w2, n2⟩ := w.tup (o := .tup [v, u]) hT
  refine ⟨_, n2, w2, .tup [ds[i], es[i]], ?_, .tup up_same (.cons ((dv.mono x).mono n2.ex) (.cons ((du.mono x).mono n2.ex) .nil))⟩
  rw [zipL_get, List.getElem?_eq_getElem h1, List.getElem?_eq_getElem h2]
end
section
variable {K : PySem.W.Frag} {W : WX} {F0 F : Fz} {H0 H : Hp} {sl : List SV} {cs : List CO} {σ : L2.St}
theorem OutI.run_E {f : FE} {k : RV × List CO → Res (Src × List CO)} {Rr : It → Hp → Prop} {Q' : VK} (R : Rel K F0 H0 F H sl cs σ) (o : OutI K (atX W σ) F H Rr ((f sl cs).then k))
    (h : ∀ r c v F' H', f sl cs = .ok (r, c) → Nx F H F' H' → Wok F' H' c → RvOk K F' H' v r → Rel K F0 H0 F' H' sl c σ → OutI K (atX W σ) F H Rr (k (r, c)) → Q' v H') : rdE K W f σ H Q' := by
  refine ⟨F0, H0, F, sl, cs, R, ?_⟩
  cases e : f sl cs with
  | ok a => obtain ⟨r, c⟩ := a; rw [e] at o; exact fun v F' H' n w k fv => h r c v F' H' e n w k (R.step n w) o
  | exc C fs c => rw [e] at o; exact o
  | bad => rw [e] at o; exact o.elim
theorem OutI.run_A {f : FA} {k : List RV × List CO → Res (Src × List CO)} {Rr : It → Hp → Prop} {Q' : List V → Hp → Prop} (R : Rel K F0 H0 F H sl cs σ) (o : OutI K (atX W σ) F H Rr ((f sl cs).then k))
    (h : ∀ r c v F' H', f sl cs = .ok (r, c) → Nx F H F' H' → Wok F' H' c → RvAll K F' H' v r → Rel K F0 H0 F' H' sl c σ → OutI K (atX W σ) F H Rr (k (r, c)) → Q' v H') : rdA K W f σ H Q' := by
  refine ⟨F0, H0, F, sl, cs, R, ?_⟩
  cases e : f sl cs with
  | ok a => obtain ⟨r, c⟩ := a; rw [e] at o; exact fun v F' H' n w k => h r c v F' H' e n w k (R.step n w) o
  | exc C fs c => rw [e] at o; exact o
  | bad => rw [e] at o; exact o.elim
end
section
variable {X : Cx} {W : WX} {tg e e2 : Expr} {f : FE} {fa : FA} {p pos tpos : Pos}
theorem di_iter (h : DE X W e f) : DI X W tg e (itemsOf f) := by
  constructor
  intro pins s σ H Rr I q
  have hz := de_frz h
  obtain ⟨F0, H0, F, sl, cs, R, o⟩ := q
  cases z : dFrz f sl cs with
  | exc C fs c =>
    unfold itemsOf at o; rw [z] at o
    exact (pi_list (tg := tg) hz).run pins s σ H Rr I ⟨F0, H0, F, sl, cs, R, by rw [z]; exact o⟩
  | bad => unfold itemsOf at o; rw [z] at o; exact o.elim
  | ok a =>
    obtain ⟨r, c⟩ := a
    have o' := o
    unfold itemsOf at o'
    rw [z] at o'
    cases r with
    | dat d =>
      cases d with
      | lst ds =>
        refine (pi_list (tg := tg) hz).run pins s σ H Rr I (OutI.run_E R o fun r c v F' H' e1 n w k R' o1 => ?_)
        rw [z] at e1; cases e1
        cases (show Den F' v (.lst ds) from k) with
        | lst h1 h2 => exact ⟨_, rfl, ⟨_, SqL.of (w.ex _ _ h1)⟩, o1 _ F' H' n w (it_list h1 h2)⟩
      | tup ds =>
        refine (pi_tup (tg := tg) hz).run pins s σ H Rr I (OutI.run_E R o fun r c v F' H' e1 n w k R' o1 => ?_)
        rw [z] at e1; cases e1
        cases (show Den F' v (.tup ds) from k) with
        | tup h1 h2 => exact ⟨_, rfl, ⟨_, SqT.of (w.ex _ _ h1)⟩, o1 _ F' H' n w (it_tup h1 h2)⟩
      | str x =>
        refine (pi_str (tg := tg) hz).run pins s σ H Rr I (OutI.run_E R o fun r c v F' H' e1 n w k R' o1 => ?_)
        rw [z] at e1; cases e1
        cases (show Den F' v (.str x) from k)
        exact ⟨_, rfl, o1 _ F' H' n w it_str⟩
      | ref j =>
        cases hz2 : lstOf (c[j]?) with
        | some ds =>
          refine (pi_list (tg := tg) hz).run pins s σ H Rr I (OutI.run_E R o fun r c v F' H' e1 n w k R' o1 => ?_)
          rw [z] at e1; cases e1
          have hds := hz2
          dsimp only at o1
          rw [hz2] at o1
          cases (show Den F' v (.ref j) from k) with
          | @ref p _ h1 =>
            cases ec : c[j]? with
            | none => rw [ec] at hds; cases hds
            | some co =>
              rw [ec] at hds
              cases co with
              | lst xs =>
                obtain ⟨_, ob, g1, g2⟩ := w.at_ j p _ h1 ec
                rcases g2 with g2 | ⟨q, ps, y, _⟩
                · cases ob <;> first | exact g2.elim | skip
                  exact ⟨_, rfl, ⟨_, SqL.of g1⟩, o1 _ F' H' n w (it_cell h1)⟩
                · cases y
              | _ => cases hds
        | none =>
          have o' : OutI X.K (atX W σ) F H Rr (if (lstOf (c[j]?)).isSome then .ok (.cel j, c) else .bad) := o'
          rw [hz2] at o'
          exact o'.elim
      | _ => exact o'.elim
    | _ => exact o'.elim
theorem di_range1 {a : Expr} (hg : Gl X "range") (hm : X.mg "range" = none) (ha : DA X W [a] fa) (hs : starEach [a] X.env = [(false, eval a X.env)] := by rfl) : DI X W tg (.Call (.Name "range" p) [a] [] pos) (rng1 fa) :=
  PI.imp (pi_range1 hg hm ha hs) fun σ H Rr q => by
    obtain ⟨F0, H0, F, sl, cs, R, o⟩ := q
    refine OutI.run_A R o fun rs c vs F' H' e1 n w k R' o1 => ?_
    dsimp only at o1
    split at o1
    · split at o1
      · rename_i j hb
        cases k with
        | cons k1 k2 =>
          cases k2
          have k' : Den F' _ (.int j) := k1
          cases k'
          exact ⟨j, rfl, hb.1, hb.2, o1 _ F' H' n w it_rng⟩
      · exact o1.elim
    · exact o1.elim
theorem di_range2 {a b : Expr} (hg : Gl X "range") (hm : X.mg "range" = none) (ha : DA X W [a, b] fa) (hs : starEach [a, b] X.env = [(false, eval a X.env), (false, eval b X.env)] := by rfl) (hs2 : starEach [b] X.env = [(false, eval b X.env)] := by rfl) : DI X W tg (.Call (.Name "range" p) [a, b] [] pos) (rng2 fa) :=
  PI.imp (pi_range2 hg hm ha hs hs2) fun σ H Rr q => by
    obtain ⟨F0, H0, F, sl, cs, R, o⟩ := q
    refine OutI.run_A R o fun rs c vs F' H' e1 n w k R' o1 => ?_
    dsimp only at o1
    split at o1
    · split at o1
      · rename_i i j hb
        cases k with
        | cons k1 k2 =>
          cases k2 with
          | cons k2 k3 =>
            cases k3
            have k' : Den F' _ (.int i) := k1
            cases k'
            have k' : Den F' _ (.int j) := k2
            cases k'
            exact ⟨i, j, rfl, hb, o1 _ F' H' n w it_rng⟩
      · exact o1.elim
    · exact o1.elim
theorem di_range3 {a b c : Expr} (hg : Gl X "range") (hm : X.mg "range" = none) (ha : DA X W [a, b, c] fa) (hs : starEach [a, b, c] X.env = (false, eval a X.env) :: starEach [b, c] X.env := by rfl) (hpl : (backTo pos (starEach [b, c] X.env)).any (·.1) = false := by rfl) : DI X W tg (.Call (.Name "range" p) [a, b, c] [] pos) (rng3 fa) :=
  PI.imp (pi_range3 hg hm ha hs hpl) fun σ H Rr q => by
    obtain ⟨F0, H0, F, sl, cs, R, o⟩ := q
    refine OutI.run_A R o fun rs c vs F' H' e1 n w k R' o1 => ?_
    dsimp only at o1
    split at o1
    · split at o1
      · rename_i i j m hb
        cases k with
        | cons k1 k2 =>
          cases k2 with
          | cons k2 k3 =>
            cases k3 with
            | cons k3 k4 =>
              cases k4
              have k' : Den F' _ (.int i) := k1
              cases k'
              have k' : Den F' _ (.int j) := k2
              cases k'
              have k' : Den F' _ (.int m) := k3
              cases k'
              exact ⟨i, j, m, _, rfl, ⟨hb.1, hb.2.1, hb.2.2.1, (Int.toNat_of_nonneg hb.2.2.2).symm⟩, o1 _ F' H' n w it_rngC⟩
      · exact o1.elim
    · exact o1.elim
theorem di_enum {elts : List Expr} {kk : Nat} (hg : Gl X "enumerate") (hm : X.mg "enumerate" = none) (ha : DA X W [e] fa) (hs : starEach [e] X.env = [(false, eval e X.env)] := by rfl) : DI X W (.Tuple elts kk tpos) (.Call (.Name "enumerate" p) [e] [] pos) (enumF fa) :=
  PI.imp (pi_enum hg hm ha hs) fun σ H Rr q => by
    obtain ⟨F0, H0, F, sl, cs, R, o⟩ := q
    refine OutI.run_A R o fun rs c vs F' H' e1 n w k R' o1 => ?_
    dsimp only at o1
    split at o1
    · rename_i ds
      cases k with
      | cons k1 k2 =>
        cases k2
        have k' : Den F' _ (.lst ds) := k1
        cases k' with
        | lst h1 h2 => exact ⟨_, _, rfl, SqL.of (w.ex _ _ h1), o1 _ F' H' n w (it_enum h1 h2)⟩
    · exact o1.elim
theorem di_zip {elts : List Expr} {kk : Nat} (hg : Gl X "zip") (hm : X.mg "zip" = none) (ha : DA X W [e, e2] fa) (hs : starEach [e, e2] X.env = (false, eval e X.env) :: starEach [e2] X.env := by rfl) (hpl : (backTo pos (starEach [e2] X.env)).any (·.1) = false := by rfl) : DI X W (.Tuple elts kk tpos) (.Call (.Name "zip" p) [e, e2] [] pos) (zipF fa) :=
  PI.imp (pi_zip hg hm ha hs hpl) fun σ H Rr q => by
    obtain ⟨F0, H0, F, sl, cs, R, o⟩ := q
    refine OutI.run_A R o fun rs c vs F' H' e1 n w k R' o1 => ?_
    dsimp only at o1
    split at o1
    · rename_i ds es
      cases k with
      | cons k1 k2 =>
        cases k2 with
        | cons k2 k3 =>
          cases k3
          have k1' : Den F' _ (.lst ds) := k1
          have k2' : Den F' _ (.lst es) := k2
          cases k1' with
          | lst h1 h2 =>
            cases k2' with
            | lst h3 h4 => exact ⟨_, _, _, _, rfl, SqL.of (w.ex _ _ h1), SqL.of (w.ex _ _ h3), o1 _ F' H' n w (it_zip h1 h2 h3 h4)⟩
    · exact o1.elim
end

/-! ### comprehensions -/
theorem wipe_get (σ : L2.St) : ∀ (vs : List Nat) (j : Nat), (wipe σ vs)[j]? = if j ∈ vs then σ[j]?.map fun _ => none else σ[j]?
  | [], j => by simp [wipe]
  | v :: vs, j => by
    unfold wipe
    by_cases hv : v = j
    · subst hv
      rw [if_pos List.mem_cons_self]
      by_cases hl : v < σ.length
      · rw [List.getElem?_set_self (by rw [wipe_length]; exact hl), List.getElem?_eq_getElem hl]; rfl
      · rw [List.getElem?_eq_none (by simp [wipe_length]; omega), List.getElem?_eq_none (by omega)]; rfl
    · rw [List.getElem?_set_ne hv, wipe_get σ vs j]
      have : (j ∈ v :: vs) ↔ j ∈ vs := by simp [Ne.symm hv]
      simp only [this]
theorem wipe_set {σ : L2.St} {vs : List Nat} {i : Nat} {x : Option V} (h : i ∈ vs) : wipe (σ.set i x) vs = wipe σ vs := by
  apply List.ext_getElem?
  intro j
  rw [wipe_get, wipe_get]
  by_cases hj : i = j
  · subst hj
    rw [if_pos h, if_pos h]
    by_cases hl : i < σ.length
    · rw [List.getElem?_set_self hl, List.getElem?_eq_getElem hl]; rfl
    · rw [List.set_eq_of_length_le (by omega)]
  · rw [List.getElem?_set_ne hj]
def wipeL (vs : List Nat) (sl : List SV) : List SV := sl.mapIdx fun i s => if i ∈ vs then .un else s
theorem Rel.wipe {K : PySem.W.Frag} {F0 F : Fz} {H0 H : Hp} {sl : List SV} {cs : List CO} {σ : L2.St} (R : Rel K F0 H0 F H sl cs σ) (vs : List Nat) : Rel K F0 H0 F H (wipeL vs sl) cs (L2.wipe σ vs) := by
  have get : ∀ j, (wipeL vs sl)[j]? = sl[j]?.map fun s => if j ∈ vs then SV.un else s := fun j => by simp [wipeL]
  have key : ∀ (j : Nat) (s : SV), s ≠ .un → (wipeL vs sl)[j]? = some s → j ∉ vs ∧ sl[j]? = some s ∧ (L2.wipe σ vs)[j]? = σ[j]? := fun j s ns e => by
    rw [get] at e
    by_cases hj : j ∈ vs
    · cases z : sl[j]? with
      | none => rw [z] at e; cases e
      | some u => rw [z] at e; simp [hj] at e; exact absurd e.symm ns
    · refine ⟨hj, ?_, by rw [wipe_get, if_neg hj]⟩
      cases z : sl[j]? with
      | none => rw [z] at e; cases e
      | some u => rw [z] at e; simp [hj] at e; rw [e]
  refine ⟨R.w, R.fr, by simp [wipe_length, wipeL, R.len], fun j s e => ?_, fun i j c d p e1 e2 e3 e4 => ?_⟩
  · by_cases hs : s = .un
    · subst hs; trivial
    · obtain ⟨_, a, b⟩ := key j s hs e
      rw [b]; exact R.at_ j s a
  · obtain ⟨_, a1, b1⟩ := key i _ (fun z => by cases z) e1
    obtain ⟨_, a2, b2⟩ := key j _ (fun z => by cases z) e2
    rw [b1] at e3; rw [b2] at e4
    exact R.ds i j c d p a1 a2 e3 e4
/-- the target g stores by t, at the slots vs alone -/
def TgOk (K : PySem.W.Frag) (g : TG) (t : FG) (vs : List Nat) : Prop := ∀ (F0 F : Fz) (H0 H : Hp) (cs : List CO) (sl s1 : List SV) (σ : L2.St) (v : V) (d : D) (Q : L2.St → Hp → Prop),
  Rel K F0 H0 F H sl cs σ → Den F v d → t d sl = some s1 → (∀ σ', Rel K F0 H0 F H s1 cs σ' → L2.wipe σ' vs = L2.wipe σ vs → Q σ' H) → g v σ H Q
theorem tgOk_name {K : PySem.W.Frag} {i : Nat} {vs : List Nat} (h : i ∈ vs) : TgOk K (gName i) (tgN i) vs := by
  intro F0 H0 F H cs sl s1 σ v d Q R k e o
  exact o _ (Rel.setS (Hb := H) (r := .dat d) R k (fun c ec => by cases ec) e) (wipe_set h)
theorem gAll_wipe {K : PySem.W.Frag} {F0 F : Fz} {H0 H : Hp} {cs : List CO} {Q : L2.St → Hp → Prop} {ws : List Nat} : ∀ {is : List Nat} {ds : List D} {vs : List V} {sl s1 : List SV} {σ : L2.St}, (∀ i ∈ is, i ∈ ws) → Rel K F0 H0 F H sl cs σ → DenAll F vs ds → tgAll is ds sl = some s1 → (∀ σ', Rel K F0 H0 F H s1 cs σ' → L2.wipe σ' ws = L2.wipe σ ws → Q σ' H) → gAll is vs σ H Q
  | [], ds, vs, sl, s1, σ, hw, R, k, e, o => by
    cases k with
    | nil => cases e; exact ⟨rfl, o σ R rfl⟩
    | cons _ _ => cases e
  | i :: is, ds, vs, sl, s1, σ, hw, R, k, e, o => by
    cases k with
    | nil => cases e
    | cons k1 k2 =>
      unfold tgAll at e
      split at e
      · rename_i s2 e2
        refine ⟨_, _, rfl, gAll_wipe (fun j hj => hw j (List.mem_cons_of_mem _ hj)) (Rel.setS (Hb := H) (r := .dat _) R k1 (fun c ec => by cases ec) e2) k2 e fun σ' R' ew => o σ' R' ?_⟩
        rw [ew]; exact wipe_set (hw i List.mem_cons_self)
      · cases e
theorem tgOk_tup {K : PySem.W.Frag} {is vs : List Nat} (h : ∀ i ∈ is, i ∈ vs) : TgOk K (gTup K is.length (gAll is)) (tgT is) vs := by
  intro F0 H0 F H cs sl s1 σ v d Q R k e o
  cases d with
  | tup ds =>
    cases k with
    | tup h1 h2 => exact ⟨_, _, rfl, SqT.of (R.w.ex _ _ h1), by rw [h2.length]; exact tgAll_len e, gAll_wipe h R h2 e o⟩
  | _ => cases e
def lcF (t : FG) (ft : FT) (fe : FE) (sl : List SV) : List D → List D → List CO → Res (List D × List CO)
  | [], acc, cs => .ok (acc, cs)
  | d :: ds, acc, cs => match t d sl with
    | none => .bad
    | some s1 => match ft s1 cs with
      | .ok (true, c1) => match dFrz fe s1 c1 with
        | .ok (.dat x, c2) => if acc.length < sizeLine then lcF t ft fe sl ds (acc ++ [x]) c2 else .bad
        | _ => .bad
      | .ok (false, c1) => lcF t ft fe sl ds acc c1
      | _ => .bad
def lcS (t : FG) (ft : FT) (fe : FE) (sl : List SV) (src : Src) : Nat → Nat → List D → List CO → Res (List D × List CO)
  | 0, _, _, _ => .bad
  | n + 1, i, acc, cs => match src.now cs with
    | none => .bad
    | some ds => match ds[i]? with
      | none => .ok (acc, cs)
      | some d => match t d sl with
        | none => .bad
        | some s1 => match ft s1 cs with
          | .ok (true, c1) => match dFrz fe s1 c1 with
            | .ok (.dat x, c2) => if acc.length < sizeLine then lcS t ft fe sl src n (i + 1) (acc ++ [x]) c2 else .bad
            | _ => .bad
          | .ok (false, c1) => lcS t ft fe sl src n (i + 1) acc c1
          | _ => .bad
theorem lcF_eq {t : FG} {ft : FT} {fe : FE} {sl : List SV} {all : List D} : ∀ (ds : List D) (i : Nat) (acc : List D) (cs : List CO), all.drop i = ds → lcF t ft fe sl ds acc cs = lcS t ft fe sl (.lit all) (ds.length + 1) i acc cs
  | [], i, acc, cs, h => by
    have hi : all.length ≤ i := by
      have := congrArg List.length h
      rw [List.length_drop, List.length_nil] at this
      omega
    unfold lcF lcS
    show _ = (match all[i]? with | none => _ | some d => _)
    rw [List.getElem?_eq_none hi]
  | d :: ds, i, acc, cs, h => by
    have hi : all[i]? = some d := by
      have := congrArg (fun l => l[0]?) h
      simpa [List.getElem?_drop] using this
    have hd : all.drop (i + 1) = ds := by
      have := congrArg (fun l => l.drop 1) h
      simpa [List.drop_drop] using this
    unfold lcF lcS
    simp only [Src.now, hi]
    cases e1 : t d sl with
    | none => rfl
    | some s1 =>
      simp only
      cases e2 : ft s1 cs with
      | ok b =>
        obtain ⟨b, c1⟩ := b
        cases b with
        | true =>
          simp only
          cases e3 : dFrz fe s1 c1 with
          | ok r =>
            obtain ⟨r, c2⟩ := r
            cases r with
            | dat x =>
              simp only
              rw [lcF_eq ds (i + 1) (acc ++ [x]) c2 hd]
              rfl
            | _ => rfl
          | _ => rfl
        | false =>
          simp only
          rw [lcF_eq ds (i + 1) acc c1 hd]
          rfl
      | _ => rfl
def lcX (t : FG) (ft : FT) (fe : FE) (sl : List SV) : Src → List CO → Res (List D × List CO)
  | .lit ds => lcF t ft fe sl ds []
  | .cel k => lcS t ft fe sl (.cel k) 100000 0 []
theorem lcX_eq {t : FG} {ft : FT} {fe : FE} {sl : List SV} (src : Src) (cs : List CO) : ∃ n, lcX t ft fe sl src cs = lcS t ft fe sl src n 0 [] cs := by
  cases src with
  | lit ds => exact ⟨_, lcF_eq ds 0 [] cs rfl⟩
  | cel k => exact ⟨_, rfl⟩
def dLc (fi : FI) (t : FG) (ft : FT) (fe : FE) (vs : List Nat) : FE := fun sl cs => (fi sl cs).then fun a => (lcX t ft fe (wipeL vs sl) a.1 a.2).then fun b => .ok (.new (.lst b.1), b.2)
theorem dLc_run {K : PySem.W.Frag} {W W' : WX} {fi : FI} {t : FG} {ft : FT} {fe : FE} {vs : List Nat} {g : TG} {σ : L2.St} {H : Hp} {Q : VK} (tg : TgOk K g t vs) (q : rdE K W (dLc fi t ft fe vs) σ H Q) : tLc (rdI K W fi) g (rdT K W' ft) (rdE K W' (dFrz fe)) vs σ H Q := by
  obtain ⟨F0, H0, F, sl, cs, R, o⟩ := q
  refine ⟨F0, H0, F, sl, cs, R, ?_⟩
  unfold dLc at o
  cases e : fi sl cs with
  | exc C fs c => rw [e] at o; exact o
  | bad => rw [e] at o; exact o.elim
  | ok a =>
    obtain ⟨src, c1⟩ := a
    rw [e] at o
    intro J F1 H1 n1 w1 it D hD
    have R1 := R.step n1 w1
    have nf : F1 D = none := by
      cases z : F1 D with
      | none => rfl
      | some u => have := w1.ex D u z; rw [hD] at this; cases this
    have nm : D ∉ F1.μ := fun z => by obtain ⟨_, o, e⟩ := w1.there z; rw [hD] at e; cases e
    obtain ⟨w2, n2⟩ := w1.laid (o := .lst []) hD
    obtain ⟨N, eN⟩ := lcX_eq (t := t) (ft := ft) (fe := fe) (sl := wipeL vs sl) src c1
    have o' : OutE K (atX W σ) F1 H1 Q ((lcX t ft fe (wipeL vs sl) src c1).then fun b => .ok (.new (.lst b.1), b.2)) := OutE.back o n1 w1
    rw [eN] at o'
    let Iv : Nat → Nat → Hp → Prop := fun i m H' => ∃ F' c' acc us, Nx F1 H1 F' H' ∧ Wok F' H' c' ∧ F' D = none ∧ D ∉ F'.μ ∧ H' D = some (.lst us) ∧ DenAll F' us acc ∧ OutE K (atX W σ) F1 H1 Q ((lcS t ft fe (wipeL vs sl) src m i acc c').then fun b => .ok (.new (.lst b.1), b.2))
    refine ⟨fun i m H' => Iv i m H', ⟨N, F1, c1, [], [], n2, w2, nf, nm, upd_same, .nil, o'⟩, ?_⟩
    rintro i m H2 ⟨F2, c2, acc, us, n3, w3, f3, m3, d3, k3, o3⟩
    cases m with
    | zero => exact o3.elim
    | succ m =>
    unfold lcS at o3
    cases en : Src.now c2 src with
    | none => rw [en] at o3; exact o3.elim
    | some ds =>
    rw [en] at o3
    dsimp only at o3
    obtain ⟨ig, is⟩ := it F2 H2 c2 n3.ex w3 ds en i
    by_cases hi : i < ds.length
    · refine .inr ⟨(ig hi).1, fun H' => Iv (i + 1) m H', fun H' w => ⟨m, by omega, w⟩, ?_⟩
      intro x H3 y
      obtain ⟨F3, n4, w4, d, ed, kd⟩ := (ig hi).2 x H3 y
      have n5 : Nx F1 H1 F3 H3 := n3.trans w3 n4
      rw [ed] at o3
      dsimp only at o3
      have dD : H3 D = some (.lst us) := n4.st D _ d3 m3
      have keep : ∀ {Fa Fb : Fz} {Ha Hb : Hp} {us : List V}, Nx Fa Ha Fb Hb → Fa D = none → D ∉ Fa.μ → Ha D = some (.lst us) → Fb D = none ∧ D ∉ Fb.μ := by
        intro Fa Fb Ha Hb us n f mm dd
        refine ⟨?_, fun hm => (n.new D hm).elim mm fun z => by (rw [dd] at z; cases z)⟩
        cases z : Fb D with
        | none => rfl
        | some u =>
          rcases n.gro D u z with z | z
          · rw [f] at z; cases z
          · rw [dd] at z; cases z
      obtain ⟨fD, mD⟩ := keep n4 f3 m3 d3
      have k4 := k3.mono n4.ex
      have R3 : Rel K F0 H0 F3 H3 (wipeL vs sl) c2 (L2.wipe σ vs) := (R1.step n5 w4).wipe vs
      split at o3
      · exact o3.elim
      · rename_i s1 e1
        refine tg F0 F3 H0 H3 c2 _ s1 _ x d _ R3 kd e1 fun σ4 R4 ew => ⟨?_, F0, H0, F3, s1, c2, R4, ?_⟩
        · rw [ew]
          apply List.ext_getElem?
          intro j
          rw [wipe_get, wipe_get]
          split
          · cases σ[j]? <;> rfl
          · rfl
        · split at o3
          · rename_i cc et
            rw [et]
            intro F4 H4 n6 w6
            rw [if_pos rfl]
            refine ⟨F0, H0, F4, s1, cc, R4.step n6 w6, ?_⟩
            split at o3
            · rename_i z c5 ez
              split at o3
              · rename_i hl
                rw [ez]
                intro v F5 H5 n7 w7 k7 fv7
                have n8 : Nx F3 H3 F5 H5 := n6.trans w6 n7
                have dD5 : H5 D = some (.lst us) := n8.st D _ dD mD
                obtain ⟨fD5, mD5⟩ := keep n8 fD mD dD
                have k5 := k4.mono n8.ex
                have ne : ∀ b u, F5 b = some u → b ≠ D := fun b u h z => by subst z; rw [fD5] at h; cases h
                have n9 := n5.trans w4 n8
                refine ⟨us, dD5, by rw [k5.length]; exact hl, F5, c5, acc ++ [z], us ++ [v], ⟨n9.ex, n9.new, n9.gro, fun b u h hm => ?_⟩, ⟨fun b u h => by rw [upd_ne (ne b u h)]; exact w7.ex b u h, w7.len, w7.nd, fun j q c h1 h2 => ?_⟩, fD5, mD5, upd_same, k5.append (.cons k7 .nil), o3⟩
                · have hb : b ≠ D := fun z => by subst z; rw [hD] at h; cases h
                  rw [upd_ne hb]; exact n9.st b u h hm
                · obtain ⟨a1, u, b1, d1⟩ := w7.at_ j q c h1 h2
                  have hq : q ≠ D := fun z => mD5 (z ▸ List.mem_of_getElem? h1)
                  exact ⟨a1, u, by rw [upd_ne hq]; exact b1, d1⟩
              · exact o3.elim
            · exact o3.elim
          · rename_i cc et
            rw [et]
            intro F4 H4 n6 w6
            rw [if_neg Bool.false_ne_true]
            obtain ⟨fD4, mD4⟩ := keep n6 fD mD dD
            exact ⟨F4, cc, acc, us, n5.trans w4 n6, w6, fD4, mD4, n6.st D _ dD mD, k4.mono n6.ex, o3⟩
          · exact o3.elim
    · refine .inl ⟨is (by omega), ?_⟩
      rw [List.getElem?_eq_none (by omega)] at o3
      exact o3 _ F2 H2 n3 w3 ⟨D, rfl, f3, m3, _, d3, k3⟩ fun p ep => by cases ep; exact hD
section
variable {X : Cx} {W W' : WX} {e : Expr} {st : Stmt} {fi : FI} {t : FG} {ft : FT} {fe : FE} {vs : List Nat} {g : TG} {i : Nat}
theorem de_lc (tg : TgOk X.K g t vs) (h : PE X e (tLc (rdI X.K W fi) g (rdT X.K W' ft) (rdE X.K W' (dFrz fe)) vs)) : DE X W e (dLc fi t ft fe vs) := PE.imp h fun σ H Q q => dLc_run tg q
theorem ds_lc (tg : TgOk X.K g t vs) (h : PS X st (tAsg (tLc (rdI X.K W fi) g (rdT X.K W' ft) (rdE X.K W' (dFrz fe)) vs) (gName i))) : DS X W st (dAsg i (dLc fi t ft fe vs)) := ds_asg (PS.imp h fun D σ H q => dLc_run tg q)
def tYesD : FT := fun _ cs => .ok (true, cs)
theorem dts_nil : PTs X [] (rdT X.K W tYesD) := ⟨fun pins s σ H Q I q => by
  obtain ⟨F0, H0, F, sl, cs, R, o⟩ := q
  exact pts_nil.run pins s σ H Q I (o F H .refl R.w)⟩
theorem dts_one {c : Expr} (h : DT X W c ft) : PTs X [c] (rdT X.K W ft) := pts_one h
end

/-! ### slices -/
def cutD (xs : List D) (lo hi : Option Int) : List D := (xs.drop (HT.sIx xs.length 0 lo)).take (HT.sIx xs.length xs.length hi - HT.sIx xs.length 0 lo)
abbrev FO := List SV → List CO → Res (Option Int × List CO)
def oNone : FO := fun _ cs => .ok (none, cs)
def oSome (f : FE) : FO := fun sl cs => (f sl cs).then fun a => match a.1 with
  | .dat (.int i) => .ok (some i, a.2)
  | _ => .bad
def dSl (f : FE) (fl fh : FO) : FE := fun sl cs => (f sl cs).then fun a => (fl sl a.2).then fun lo => (fh sl lo.2).then fun hi => match a.1.view hi.2 with
  | some (.lst xs) => .ok (.new (.lst (cutD xs lo.1 hi.1)), hi.2)
  | some (.str z) => if z.length ≤ sizeLine then .ok (.dat (.str (cutS z lo.1 hi.1)), hi.2) else .bad
  | _ => .bad
end SL

/-! Si: the script, slices, truth; the end of a law. -/
namespace SL
open PySem L2

section
variable {X : Cx} {W : WX} {pos p : Pos} {e b : Expr} {fe fb : FE} {fl fh : FO} {i : Nat}
/-- len(script) -/
def dLenS (i : Nat) : FE := fun sl cs => match sl[i]? with
  | some (.scr ns) => .ok (.dat (.int ns.length), cs)
  | _ => .bad
/-- script[k] -/
def dIxS (i : Nat) (fb : FE) : FE := fun sl cs => match sl[i]? with
  | some (.scr ns) => (fb sl cs).then fun b => match b.1 with
    | .dat (.int j) => match atI ns j with
      | some n => .ok (.dat (.int n), b.2)
      | none => .bad
    | _ => .bad
  | _ => .bad
theorem de_lenS (h : PE X e (tCB (fun xs H Q => ∃ x n, xs = [x] ∧ LenV X.K x H n ∧ Q (.int n) H) (tCons (tVar i) tNil))) : DE X W e (dLenS i) := PE.imp h fun σ H Q q => by
  obtain ⟨F0, H0, F, sl, cs, R, o⟩ := q
  unfold dLenS at o
  split at o
  · rename_i ns z
    obtain ⟨a, e1, e2⟩ := R.at_ i _ z
    exact ⟨_, e1, _, _, rfl, .inl ⟨_, sqL_exH R.w.ex e2, rfl⟩, by rw [List.length_map]; exact o _ F H .refl R.w (.int _) trivial⟩
  · exact o.elim
theorem de_ixS (h : PE X e (tOp (rIxL X.K) (tVar i) (rdE X.K W fb))) : DE X W e (dIxS i fb) := PE.imp h fun σ H Q q => by
  obtain ⟨F0, H0, F, sl, cs, R, o⟩ := q
  unfold dIxS at o
  split at o
  · rename_i ns z
    obtain ⟨a, e1, e2⟩ := R.at_ i _ z
    refine ⟨_, e1, ?_⟩
    refine OutE.then_run R o fun r c v F1 H1 e3 n w k fv R1 o1 => ?_
    dsimp only at o1
    split at o1
    · rename_i j
      have k' : Den F1 v (.int j) := k
      cases k'
      split at o1
      · rename_i m em
        refine ⟨a, _, j, .int m, rfl, rfl, sqL_exH w.ex (sqL_ex n.ex e2), ?_, o1 _ F1 H1 .refl w (.int _) trivial⟩
        unfold atI at em ⊢
        rw [List.length_map]
        cases y : ixN ns.length j with
        | none => rw [y] at em; cases em
        | some t =>
          rw [y] at em
          show (ns.map V.int)[t]? = _
          rw [List.getElem?_map]
          have em' : ns[t]? = some m := em
          rw [em']; rfl
      · exact o1.elim
    · exact o1.elim
  · exact o.elim
theorem DenAll.cut {F : Fz} {vs : List V} {ds : List D} (h : DenAll F vs ds) (lo hi : Option Int) : DenAll F (cutV vs lo hi) (cutD ds lo hi) := by
  unfold cutV cutD
  rw [h.length]
  exact (h.drop _).take _
def rdO (K : PySem.W.Frag) (W : WX) (f : FO) : TO := fun σ H Q => ∃ F0 H0 F sl cs, Rel K F0 H0 F H sl cs σ ∧ match f sl cs with
  | .ok (r, cs') => ∀ F' H', Nx F H F' H' → Wok F' H' cs' → Q r H'
  | .exc C fs cs' => Raised K F H (atX W σ) C fs cs'
  | .bad => False
abbrev DO (X : Cx) (W : WX) (e : Option Expr) (f : FO) : Prop := PO X e (rdO X.K W f)
theorem PO.imp {X : Cx} {e : Option Expr} {t t' : TO} (h : PO X e t) (i : ∀ σ H R, t' σ H R → t σ H R) : PO X e t' := ⟨fun p s σ H R I q => h.run p s σ H R I (i σ H R q)⟩
theorem do_none : DO X W none oNone := PO.imp po_none fun σ H Q q => by
  obtain ⟨F0, H0, F, sl, cs, R, o⟩ := q
  exact o F H .refl R.w
theorem do_some (h : DE X W e fe) : DO X W (some e) (oSome fe) := PO.imp (po_some h) fun σ H Q q => by
  obtain ⟨F0, H0, F, sl, cs, R, o⟩ := q
  refine ⟨F0, H0, F, sl, cs, R, ?_⟩
  unfold oSome at o
  cases z : fe sl cs with
  | exc C fs c => rw [z] at o; exact o
  | bad => rw [z] at o; exact o.elim
  | ok a =>
    obtain ⟨r, c⟩ := a
    rw [z] at o
    simp only [Res.then] at o
    intro v F' H' n w k fv
    split at o
    · rename_i j y
      split at y
      · rename_i i2
        cases y
        have k' : Den F' v (.int i2) := k
        cases k'
        exact ⟨i2, rfl, o F' H' n w⟩
      · cases y
    · rename_i y; split at y <;> cases y
    · exact o.elim
theorem OutE.run_O {K : PySem.W.Frag} {F0 F : Fz} {H0 H : Hp} {sl : List SV} {cs : List CO} {σ : L2.St} {f : FO} {k : Option Int × List CO → Res (RV × List CO)} {Q : VK} {Q' : Option Int → Hp → Prop} (R : Rel K F0 H0 F H sl cs σ) (o : OutE K (atX W σ) F H Q ((f sl cs).then k))
    (h : ∀ r c F' H', f sl cs = .ok (r, c) → Nx F H F' H' → Wok F' H' c → Rel K F0 H0 F' H' sl c σ → OutE K (atX W σ) F' H' Q (k (r, c)) → Q' r H') : rdO K W f σ H Q' := by
  refine ⟨F0, H0, F, sl, cs, R, ?_⟩
  cases e : f sl cs with
  | ok a => obtain ⟨r, c⟩ := a; rw [e] at o; exact fun F' H' n w => h r c F' H' e n w (R.step n w) (OutE.back o n w)
  | exc C fs c => rw [e] at o; exact o
  | bad => rw [e] at o; exact o.elim
theorem de_sl {lo hi : Option Expr} {p2 : Pos} (h : DE X W e fe) (hl : DO X W lo fl) (hu : DO X W hi fh) : DE X W (.Subscript e (.Slice lo hi none p2) pos) (dSl fe fl fh) := PE.imp (pe_slice (SlR.or sl_list sl_str) h hl hu) fun σ H Q q => by
  obtain ⟨F0, H0, F, sl, cs, R, o⟩ := q
  refine OutE.then_run R o fun r c v F1 H1 e1 n w k fv R1 o1 => ?_
  refine OutE.run_O R1 o1 fun l c2 F2 H2 e2 n2 w2 R2 o2 => ?_
  refine OutE.run_O R2 o2 fun u c3 F3 H3 e3 n3 w3 R3 o3 => ?_
  dsimp only at o3
  have k3 := (k.step n2).step n3
  split at o3
  · rename_i xs ex
    obtain ⟨p, vs, rfl, hp, d⟩ := (k3.vw w3 ex).lst w3.ex
    exact .inl ⟨p, vs, rfl, SqL.of hp, fun q hq => Aft.new (cs := c3) (c := .lst (cutD xs l u)) o3 w3 hq (d.cut l u)⟩
  · rename_i z ez
    split at o3
    · rename_i hl
      rw [(k3.vw w3 ez).str]
      exact .inr ⟨z, rfl, hl, Aft.str (cs := c3) o3 w3⟩
    · exact o3.elim
  · exact o3.elim
/-- truth of a list, a tuple, a text, an int, None -/
def truD : D → Option Bool
  | .non => some false
  | .bl b => some b
  | .int i => some (i != 0)
  | .str z => if z.length ≤ sizeLine then some ((z.length : Int) != 0) else none
  | .lst xs => some (!xs.isEmpty)
  | .tup xs => some (!xs.isEmpty)
  | .dct xs => some (!xs.isEmpty)
  | .obj _ _ => none
  | .ref _ => none
def toTru (f : FE) : FT := fun sl cs => (f sl cs).then fun a => match a.1.view a.2 with
  | some d => match truD d with
    | some b => .ok (b, a.2)
    | none => .bad
  | none => .bad
theorem DenAll.isEmpty {F : Fz} {vs : List V} {ds : List D} (h : DenAll F vs ds) : ds.isEmpty = vs.isEmpty := by cases h <;> rfl
theorem DenKv.isEmpty {F : Fz} {vs : List (Key × V)} {ds : List (Key × D)} (h : DenKv F vs ds) : ds.isEmpty = vs.isEmpty := by cases h <;> rfl
theorem dt_tru (h : DE X W e fe) (he : ∀ whole, isTrue e X.env whole = (do let v ← whole; standAt e.pos; holding [v] (truthy v)) := by intro _; rfl) : DT X W e (toTru fe) := PT.imp (pt_truth h he) fun σ H Q q => by
  obtain ⟨F0, H0, F, sl, cs, R, o⟩ := q
  refine ⟨F0, H0, F, sl, cs, R, ?_⟩
  unfold toTru at o
  cases z : fe sl cs with
  | exc C fs c => rw [z] at o; exact o
  | bad => rw [z] at o; exact o.elim
  | ok a =>
    obtain ⟨r, c⟩ := a
    rw [z] at o
    simp only [Res.then] at o
    intro v F' H' n w k fv
    split at o
    · rename_i d ed
      split at o
      · rename_i b eb
        have vw := k.vw w ed
        refine ⟨b, ?_, o F' H' n w⟩
        cases d with
        | non => rw [vw.non]; cases eb; rfl
        | bl x => rw [vw.bl]; cases eb; rfl
        | int x => rw [vw.int]; cases eb; rfl
        | str x =>
          rw [vw.str]
          have eb : (if x.length ≤ sizeLine then some ((x.length : Int) != 0) else none) = some b := eb
          split at eb
          · rename_i hl; cases eb; exact ⟨hl, rfl⟩
          · cases eb
        | lst xs => obtain ⟨p, vs, rfl, hp, d⟩ := vw.lst w.ex; cases eb; exact .inl ⟨vs, SqL.of hp, by rw [d.isEmpty]⟩
        | tup xs => obtain ⟨p, vs, rfl, hp, d⟩ := vw.tup w.ex; cases eb; exact .inr (.inl ⟨vs, SqT.of hp, by rw [d.isEmpty]⟩)
        | dct xs => obtain ⟨p, vs, rfl, hp, d⟩ := vw.dct w.ex; cases eb; exact .inr (.inr ⟨vs, hp, by rw [d.isEmpty]⟩)
        | obj _ _ => cases eb
        | ref _ => cases eb
      · exact o.elim
    · exact o.elim
end

end SL

/-! Sj: how calls bind; a def of the top; small rules for the generator. -/
namespace SL
open PySem L2

/-- where a parameter's value comes from: a place among the positional values, among the keywords' values, among the lacking keyword-only defaults -/
inductive ASrc where
  | pos (i : Nat) | kw (j : Nat) | df (k : Nat)
def arr {α : Type} : List ASrc → List α → List α → List α → List α
  | [], _, _, _ => []
  | .pos i :: r, us, mv, ws => (us.drop i).take 1 ++ arr r us mv ws
  | .kw j :: r, us, mv, ws => (ws.drop j).take 1 ++ arr r us mv ws
  | .df k :: r, us, mv, ws => (mv.drop k).take 1 ++ arr r us mv ws
theorem arr_vals : ∀ (a : List ASrc) {vs mz zs : List V} {us mv ws : List Value}, Vals vs us → Vals mz mv → Vals zs ws → Vals (arr a vs mz zs) (arr a us mv ws)
  | [], _, _, _, _, _, _, _, _, _ => .nil
  | .pos i :: r, _, _, _, _, _, _, h1, h2, h3 => ((h1.drop i).take 1).append (arr_vals r h1 h2 h3)
  | .kw j :: r, _, _, _, _, _, _, h1, h2, h3 => ((h3.drop j).take 1).append (arr_vals r h1 h2 h3)
  | .df k :: r, _, _, _, _, _, _, h1, h2, h3 => ((h2.drop k).take 1).append (arr_vals r h1 h2 h3)
theorem arr_rv {K : PySem.W.Frag} {F : Fz} {H : Hp} : ∀ (a : List ASrc) {vs mz zs : List V} {us mv ws : List RV}, RvAll K F H vs us → RvAll K F H mz mv → RvAll K F H zs ws → RvAll K F H (arr a vs mz zs) (arr a us mv ws)
  | [], _, _, _, _, _, _, _, _, _ => .nil
  | .pos i :: r, _, _, _, _, _, _, h1, h2, h3 => ((h1.drop i).take 1).append (arr_rv r h1 h2 h3)
  | .kw j :: r, _, _, _, _, _, _, h1, h2, h3 => ((h3.drop j).take 1).append (arr_rv r h1 h2 h3)
  | .df k :: r, _, _, _, _, _, _, h1, h2, h3 => ((h2.drop k).take 1).append (arr_rv r h1 h2 h3)
def ASrc.ok (n m d : Nat) : ASrc → Bool
  | .pos i => decide (i < n)
  | .kw j => decide (j < m)
  | .df k => decide (k < d)
theorem take1 {α : Type} {l : List α} {i : Nat} (h : i < l.length) : ((l.drop i).take 1).length = 1 := by
  rw [List.length_take, List.length_drop]; omega
theorem arr_len {α : Type} : ∀ (a : List ASrc) {us mv ws : List α}, a.all (ASrc.ok us.length ws.length mv.length) = true → (arr a us mv ws).length = a.length
  | [], _, _, _, _ => rfl
  | .pos i :: r, us, mv, ws, h => by
    have q := Bool.and_eq_true_iff.mp (show ((ASrc.pos i).ok us.length ws.length mv.length && r.all _) = true from h)
    rw [arr, List.length_append, take1 (of_decide_eq_true q.1), arr_len r q.2, List.length_cons]; omega
  | .kw i :: r, us, mv, ws, h => by
    have q := Bool.and_eq_true_iff.mp (show ((ASrc.kw i).ok us.length ws.length mv.length && r.all _) = true from h)
    rw [arr, List.length_append, take1 (of_decide_eq_true q.1), arr_len r q.2, List.length_cons]; omega
  | .df i :: r, us, mv, ws, h => by
    have q := Bool.and_eq_true_iff.mp (show ((ASrc.df i).ok us.length ws.length mv.length && r.all _) = true from h)
    rw [arr, List.length_append, take1 (of_decide_eq_true q.1), arr_len r q.2, List.length_cons]; omega
section
variable {K : PySem.W.Frag} {x qual : Str} {params : Arguments} {body : List Stmt} {scope : Scope} {kws : List (Str × V)} {f : Addr} {fd : FuncData} {ps : List Str}
/-- keywords, all parameters given -/
theorem kb_plain (FD : FunD K x qual params body scope [] kws f fd) (n : Nat) (ks : List Str) (a : List ASrc) (ha : a.all (ASrc.ok n ks.length 0) = true) (hl : a.length = ps.length)
    (h : ∀ (kV doc pm : Value) (an : Option Addr) (cdv ct : Value) (us ws : List Value), us.length = n → ws.length = ks.length → bindArgs (PySem.W.fnOf x qual params body scope .none kV doc pm an cdv ct) ⟨us, ks.zip ws⟩ = pure (ps.zip (arr a us [] ws))) : KB K fd ps n ks (fun rs qs => arr a rs [] qs) := by
  obtain ⟨oc, od, dV, kV, doc, pm, an, cdv, ct, osl, rfl, lk, hcd, hD, hK⟩ := FD.ex
  rcases hD with ⟨_, rfl⟩ | ⟨e, _⟩
  · refine ⟨fun us ws => arr a us [] ws, fun vs zs => arr a vs [] zs, fun s us ws _ l1 l2 => .of_eq (h kV doc pm an cdv ct us ws l1 l2), fun r1 r2 => arr_vals a r1 .nil r2, fun r1 r2 => arr_rv a r1 .nil r2, fun l1 l2 => ?_⟩
    rw [arr_len a (by rw [l1, l2]; exact ha), hl]
  · exact absurd rfl e
/-- keywords, some keyword-only ones lacking (ms), which have defaults -/
theorem kb_kw (FD : FunD K x qual params body scope [] kws f fd) (n : Nat) (ks : List Str) (a : List ASrc) (ms : List (Str × V)) (drs : List RV) (hk : kws ≠ []) (hms : ∀ q ∈ ms, q ∈ kws) (hf : Flat (ms.map (·.2)) drs) (hdl : drs.length = ms.length) (ha : a.all (ASrc.ok n ks.length ms.length) = true) (hl : a.length = ps.length)
    (h : ∀ (D : Addr) (doc pm : Value) (an : Option Addr) (cdv ct : Value) (us mv ws : List Value), us.length = n → mv.length = ms.length → ws.length = ks.length →
      KwChain D ((ms.map (·.1)).zip mv) (bindArgs (PySem.W.fnOf x qual params body scope .none (.ref D) doc pm an cdv ct) ⟨us, ks.zip ws⟩) (ps.zip (arr a us mv ws))) : KB K fd ps n ks (fun rs qs => arr a rs drs qs) := by
  obtain ⟨mv, b⟩ := FD.kbinds0 n ks ms (fun us mv ws => arr a us mv ws) hk hms (fun r1 r2 r3 => arr_vals a r1 r2 r3) h
  refine ⟨fun us ws => arr a us mv ws, fun vs zs => arr a vs (ms.map (·.2)) zs, b.to, b.rel, fun r1 r2 => arr_rv a r1 (hf _ _ _) r2, fun l1 l2 => ?_⟩
  rw [arr_len a (by rw [l1, l2, List.length_map]; exact ha), hl]
end

/-- a def of the top and its promise -/
structure DefOk (P : Program) (w : World) (K : PySem.W.Frag) (mg : Str → Option Value) (base : Heap) (lv : Nat) (x : Str) (st : Stmt) (ps : List Str) (kws : List (Str × V)) (φ : Phi) (fd : FuncData) : Prop where
  F : FunD K x x (defArgs st) (defBody st) (defScope st) [] kws (He.ga K x) fd
  G : FnG P w K mg base lv (He.ga K x) fd ps (spF K φ)
  m : mg x = some (.ref (He.ga K x))
abbrev FnD (K : PySem.W.Frag) (x : Str) (st : Stmt) (kws : List (Str × V)) (fd : FuncData) : Prop := FunD K x x (defArgs st) (defBody st) (defScope st) [] kws (He.ga K x) fd

def gNeg : G1 := fun a => match a with
  | .int i => some (.dat (.int (-i)))
  | _ => none
theorem o_neg {X : Cx} : UnD X (unaryOp .USub) gNeg := UnR.imp un_neg fun x H Q ⟨F, cs, a, r, w, va, e, k⟩ => by
  unfold gNeg at e
  split at e
  · cases e; exact ⟨_, va.int, k.int w⟩
  · cases e
theorem bt_len : bootBuiltins "len" = some (.builtin "len") := by decide +kernel
theorem bt_max : bootBuiltins "max" = some (.builtin "max") := by decide +kernel
theorem bt_min : bootBuiltins "min" = some (.builtin "min") := by decide +kernel
theorem bt_abs : bootBuiltins "abs" = some (.builtin "abs") := by decide +kernel
theorem bt_sum : bootBuiltins "sum" = some (.builtin "sum") := by decide +kernel
theorem bt_repr : bootBuiltins "repr" = some (.builtin "repr") := by decide +kernel
theorem bt_int : bootBuiltins "int" = some (.type "int") := by decide +kernel
theorem bt_bool : bootBuiltins "bool" = some (.type "bool") := by decide +kernel
theorem bt_str : bootBuiltins "str" = some (.type "str") := by decide +kernel
theorem bt_list : bootBuiltins "list" = some (.type "list") := by decide +kernel
theorem bt_tuple : bootBuiltins "tuple" = some (.type "tuple") := by decide +kernel
theorem bt_dict : bootBuiltins "dict" = some (.type "dict") := by decide +kernel
end SL

/-! Sk: a slot's own object becomes a cell; a block behind which its own cells are forgotten; the first statements of a block. -/
namespace SL
open PySem L2
/-- the rest of a block, slot i's own object a cell -/
def dPin (i : Nat) (f : FS) : FS := fun sl cs => match sl[i]? with
  | some (.own c) => f (sl.set i (.dat (.ref cs.length))) (cs ++ [c])
  | _ => .bad
section
variable {K : PySem.W.Frag} {W : WX} {F0 F : Fz} {H0 H : Hp} {sl : List SV} {cs : List CO} {σ : L2.St} {D : Ends}
theorem Rel.pin {i : Nat} {c : CO} (R : Rel K F0 H0 F H sl cs σ) (e : sl[i]? = some (.own c)) : ∃ F', Rel K F0 H0 F' H (sl.set i (.dat (.ref cs.length))) (cs ++ [c]) σ := by
  obtain ⟨p, a, b, l⟩ := R.at_ i _ e
  obtain ⟨w, hp⟩ := R.w.pin l
  have hi : i < sl.length := (List.getElem?_eq_some_iff.mp e).1
  refine ⟨F.pin p, w, ⟨R.fr.ex.trans .pin, fun q hq => ?_, R.fr.gro, R.fr.st⟩, by simp [R.len], fun j s z => ?_, fun j k d d' q z1 z2 z3 z4 => ?_⟩
  · rcases List.mem_append.mp (show q ∈ F.μ ++ [p] from hq) with h | h
    · exact R.fr.new q h
    · rw [List.mem_singleton.mp h]; exact .inr b
  · by_cases hj : i = j
    · subst hj
      rw [List.getElem?_set_self hi] at z; cases z
      exact ⟨_, a, .ref hp⟩
    · rw [List.getElem?_set_ne hj] at z
      have y := R.at_ j s z
      cases s with
      | un => trivial
      | dat d => obtain ⟨v, y1, y2⟩ := y; exact ⟨v, y1, y2.mono .pin⟩
      | own d =>
        obtain ⟨q, y1, y2, y3, y4, u, y5, y6⟩ := y
        have hq : q ≠ p := fun w => by subst w; exact hj (R.ds i j c d q e z a y1)
        exact ⟨q, y1, y2, y3, fun hm => (List.mem_append.mp (show q ∈ F.μ ++ [p] from hm)).elim y4 fun h => hq (List.mem_singleton.mp h), u, y5, y6.mono .pin⟩
      | scr ns => obtain ⟨q, y1, y2⟩ := y; exact ⟨q, y1, sqL_ex .pin y2⟩
  · by_cases hj : i = j
    · subst hj; rw [List.getElem?_set_self hi] at z1; cases z1
    · rw [List.getElem?_set_ne hj] at z1
      by_cases hk : i = k
      · subst hk; rw [List.getElem?_set_self hi] at z2; cases z2
      · rw [List.getElem?_set_ne hk] at z2
        exact R.ds j k _ d' q z1 z2 z3 z4
theorem pin_run {f : FS} (i : Nat) (q : rdS K W (dPin i f) D σ H) : rdS K W f D σ H := by
  obtain ⟨F0, H0, F, sl, cs, R, o⟩ := q
  unfold dPin at o
  split at o
  · rename_i c e
    obtain ⟨F', R'⟩ := R.pin e
    exact ⟨F0, H0, F', _, _, R', o⟩
  · exact o.elim
theorem frz_run {f : FS} (i : Nat) (q : rdS K W (dFz i f) D σ H) : rdS K W f D σ H := by
  obtain ⟨F0, H0, F, sl, cs, R, o⟩ := q
  obtain ⟨F', R'⟩ := R.frz (i := i)
  exact ⟨F0, H0, F', _, cs, R', o⟩
end
theorem dss_pin {X : Cx} {W : WX} {sts : List Stmt} {f : FS} (i : Nat) (h : DSs X W sts f) : DSs X W sts (dPin i f) := PSs.imp h fun _ _ _ q => pin_run i q
/-! ### cells forgotten -/
mutual
/-- names no cell from n on -/
def D.und (n : Nat) : D → Bool
  | .lst xs => undAll n xs
  | .tup xs => undAll n xs
  | .dct xs => undKv n xs
  | .obj _ fs => undFs n fs
  | .ref k => decide (k < n)
  | .non => true
  | .bl _ => true
  | .int _ => true
  | .str _ => true
def undAll (n : Nat) : List D → Bool
  | [] => true
  | d :: ds => D.und n d && undAll n ds
def undKv (n : Nat) : List (Key × D) → Bool
  | [] => true
  | (_, d) :: ds => D.und n d && undKv n ds
def undFs (n : Nat) : List (Str × D) → Bool
  | [] => true
  | (_, d) :: ds => D.und n d && undFs n ds
end
def Fz.cut (F : Fz) (n : Nat) : Fz := ⟨F.at_, F.μ.take n⟩
section
variable {F : Fz} {n : Nat}
mutual
theorem Den.cut : ∀ {d : D} {v : V}, Den F v d → d.und n = true → Den (F.cut n) v d
  | .non, _, .non, _ => .non
  | .bl b, _, .bl _, _ => .bl b
  | .int i, _, .int _, _ => .int i
  | .str x, _, .str _, _ => .str x
  | .lst xs, _, .lst h a, e => .lst h (DenAll.cutN a e)
  | .tup xs, _, .tup h a, e => .tup h (DenAll.cutN a e)
  | .dct xs, _, .dct h a, e => .dct h (DenKv.cut a e)
  | .obj _ fs, _, .obj h a, e => .obj h (DenFs.cut a e)
  | .obj _ fs, _, .dT h a, e => .dT h (DenT.cut a e)
  | .ref k, _, .ref h, e => .ref (by
    have hk : k < n := of_decide_eq_true e
    show (F.μ.take n)[k]? = _
    rw [List.getElem?_take_of_lt hk]; exact h)
theorem DenAll.cutN : ∀ {ds : List D} {vs : List V}, DenAll F vs ds → undAll n ds = true → DenAll (F.cut n) vs ds
  | [], _, .nil, _ => .nil
  | d :: ds, _, .cons h t, e => by
    have q := Bool.and_eq_true_iff.mp (show (D.und n d && undAll n ds) = true from e)
    exact .cons (Den.cut h q.1) (DenAll.cutN t q.2)
theorem DenKv.cut : ∀ {ds : List (Key × D)} {vs : List (Key × V)}, DenKv F vs ds → undKv n ds = true → DenKv (F.cut n) vs ds
  | [], _, .nil, _ => .nil
  | (k, d) :: ds, _, .cons h t, e => by
    have q := Bool.and_eq_true_iff.mp (show (D.und n d && undKv n ds) = true from e)
    exact .cons (Den.cut h q.1) (DenKv.cut t q.2)
theorem DenT.cut : ∀ {ds : List (Str × D)} {vs : List (List Key × V)}, DenT F vs ds → undFs n ds = true → DenT (F.cut n) vs ds
  | [], _, .nil, _ => .nil
  | (_, d) :: ds, _, @DenT.cons _ _ _ _ _ _ _ h t, e => by
    have q := Bool.and_eq_true_iff.mp (show (D.und n d && undFs n ds) = true from e)
    exact .cons (Den.cut h q.1) (DenT.cut t q.2)
theorem DenFs.cut : ∀ {ds : List (Str × D)} {vs : List (Str × V)}, DenFs F vs ds → undFs n ds = true → DenFs (F.cut n) vs ds
  | [], _, .nil, _ => .nil
  | (k, d) :: ds, _, .cons h t, e => by
    have q := Bool.and_eq_true_iff.mp (show (D.und n d && undFs n ds) = true from e)
    exact .cons (Den.cut h q.1) (DenFs.cut t q.2)
end
end
def CO.und (n : Nat) : CO → Bool
  | .lst xs => undAll n xs
  | .dct xs => undKv n xs
  | .obj _ fs => undFs n fs
  | .tab _ _ => true
def SV.cut (n : Nat) : SV → SV
  | .dat d => if d.und n then .dat d else .un
  | .own c => if c.und n then .own c else .un
  | s => s
def cutF (n : Nat) : Flw → Flw
  | .nx sl cs => if (cs.take n).all (CO.und n) then .nx (sl.map (SV.cut n)) (cs.take n) else .bad
  | .ct sl cs => if (cs.take n).all (CO.und n) then .ct (sl.map (SV.cut n)) (cs.take n) else .bad
  | .bk sl cs => if (cs.take n).all (CO.und n) then .bk (sl.map (SV.cut n)) (cs.take n) else .bad
  | r => r
/-- a block; behind it the cells made in it are forgotten -/
def dScope (f : FS) : FS := fun sl cs => cutF cs.length (f sl cs)
section
variable {K : PySem.W.Frag} {W : WX} {F0 F : Fz} {H0 H : Hp} {sl : List SV} {cs : List CO} {σ : L2.St} {D : Ends} {n : Nat}
theorem COk.cut {o : HO} {c : CO} (h : COk F o c) (b : c.und n = true) : COk (F.cut n) o c := by
  cases o <;> cases c <;> first | exact h.elim | skip
  · exact DenAll.cutN h b
  · exact DenKv.cut h b
  · exact ⟨h.1, DenT.cut h.2 b⟩
  · exact ⟨h.1, DenFs.cut h.2 b⟩
theorem Rel.cut (R : Rel K F0 H0 F H sl cs σ) (h0 : F0.μ.length ≤ n) (b : (cs.take n).all (CO.und n) = true) : Rel K F0 H0 (F.cut n) H (sl.map (SV.cut n)) (cs.take n) σ := by
  have b := List.all_eq_true.mp b
  refine ⟨⟨R.w.ex, by show (F.μ.take n).length = (cs.take n).length; rw [List.length_take, List.length_take, R.w.len], fun i j p e1 e2 => ?_, fun i p c e1 e2 => ?_⟩, ⟨⟨R.fr.ex.at_, ?_⟩, fun q hq => ?_, R.fr.gro, R.fr.st⟩, by simp [R.len], fun j s e => ?_, fun i j c d p e1 e2 a1 a2 => ?_⟩
  · have lt : ∀ {i : Nat} {p : Addr}, (F.μ.take n)[i]? = some p → F.μ[i]? = some p := by
      intro i p h
      have : i < n := by
        have := (List.getElem?_eq_some_iff.mp h).1
        rw [List.length_take] at this; omega
      rw [List.getElem?_take_of_lt this] at h; exact h
    exact R.w.nd i j p (lt e1) (lt e2)
  · have e1 : (F.μ.take n)[i]? = some p := e1
    have hi : i < n := by
      have := (List.getElem?_eq_some_iff.mp e1).1
      rw [List.length_take] at this; omega
    rw [List.getElem?_take_of_lt hi] at e1
    have hc := b c (List.mem_of_getElem? e2)
    rw [List.getElem?_take_of_lt hi] at e2
    obtain ⟨a, o, h1, h2⟩ := R.w.at_ i p c e1 e2
    refine ⟨a, o, h1, ?_⟩
    rcases h2 with h2 | h2
    · exact .inl (h2.cut hc)
    · exact .inr h2
  · obtain ⟨ν, e⟩ := R.fr.ex.mu
    refine ⟨ν.take (n - F0.μ.length), ?_⟩
    show F.μ.take n = _
    rw [e, List.take_append, List.take_of_length_le h0]
  · exact R.fr.new q (List.mem_of_mem_take (show q ∈ F.μ.take n from hq))
  · rw [List.getElem?_map] at e
    cases z : sl[j]? with
    | none => rw [z] at e; cases e
    | some s0 =>
      rw [z] at e
      have e := Option.some.inj e
      subst e
      have y := R.at_ j s0 z
      cases s0 with
      | un => trivial
      | scr ns => exact y
      | dat d =>
        show SvOk K H0 (F.cut n) H σ[j]? (if d.und n = true then .dat d else .un)
        split
        · rename_i hb; obtain ⟨x, a, k⟩ := y; exact ⟨x, a, Den.cut k hb⟩
        · trivial
      | own c =>
        show SvOk K H0 (F.cut n) H σ[j]? (if c.und n = true then .own c else .un)
        split
        · rename_i hb
          obtain ⟨p, a, a2, a3, a4, o, a5, a6⟩ := y
          exact ⟨p, a, a2, a3, fun hm => a4 (List.mem_of_mem_take (show p ∈ F.μ.take n from hm)), o, a5, a6.cut hb⟩
        · trivial
  · have own : ∀ {i : Nat} {c : CO}, (sl.map (SV.cut n))[i]? = some (.own c) → sl[i]? = some (.own c) := by
      intro i c e
      rw [List.getElem?_map] at e
      cases z : sl[i]? with
      | none => rw [z] at e; cases e
      | some s0 =>
        rw [z] at e
        have e := Option.some.inj e
        cases s0 with
        | own c0 =>
          have e : (if c0.und n = true then SV.own c0 else .un) = .own c := e
          split at e
          · exact congrArg some e
          · cases e
        | dat d =>
          have e : (if d.und n = true then SV.dat d else .un) = .own c := e
          split at e <;> cases e
        | un => cases e
        | scr _ => cases e
    exact R.ds i j c d p (own e1) (own e2) a1 a2
theorem OutS.cut {x : Flw} (h0 : F0.μ.length ≤ n) (h : OutS K W F0 H0 D (cutF n x)) : OutS K W F0 H0 D x := by
  cases x with
  | nx sl cs =>
    intro σ F H R
    have h : OutS K W F0 H0 D (if (cs.take n).all (CO.und n) = true then .nx (sl.map (SV.cut n)) (cs.take n) else .bad) := h
    split at h
    · rename_i b; exact h σ _ H (R.cut h0 b)
    · exact h.elim
  | bk sl cs =>
    intro σ F H R
    have h : OutS K W F0 H0 D (if (cs.take n).all (CO.und n) = true then .bk (sl.map (SV.cut n)) (cs.take n) else .bad) := h
    split at h
    · rename_i b; exact h σ _ H (R.cut h0 b)
    · exact h.elim
  | ct sl cs =>
    intro σ F H R
    have h : OutS K W F0 H0 D (if (cs.take n).all (CO.und n) = true then .ct (sl.map (SV.cut n)) (cs.take n) else .bad) := h
    split at h
    · rename_i b; exact h σ _ H (R.cut h0 b)
    · exact h.elim
  | rt r cs => exact h
  | exc C fs cs => exact h
  | bad => exact h
theorem scope_run {f : FS} (q : rdS K W (dScope f) D σ H) : rdS K W f D σ H := by
  obtain ⟨F0, H0, F, sl, cs, R, o⟩ := q
  refine ⟨F0, H0, F, sl, cs, R, OutS.cut ?_ o⟩
  obtain ⟨ν, e⟩ := R.fr.ex.mu
  rw [← R.w.len, e, List.length_append]
  omega
end
theorem dss_scope {X : Cx} {W : WX} {sts : List Stmt} {f : FS} (h : DSs X W sts f) : DSs X W sts (dScope f) := PSs.imp h fun _ _ _ q => scope_run q
/-! ### the first statements of a block -/
def DSp (X : Cx) (W : WX) (sts rest : List Stmt) (f : FS) : Prop := ∀ u : TS, PSs X rest u → PSs X sts (tSeq (rdS X.K W f) u)
section
variable {X : Cx} {W : WX} {st : Stmt} {sts rest rest2 : List Stmt} {f g : FS}
theorem dsp_one (h : DS X W st f) : DSp X W (st :: rest) rest f := fun u k => pss_cons h k
theorem seq_run {D : Ends} {σ : L2.St} {H : Hp} {u : TS} (q : rdS X.K W (dSeq f g) { D with nx := u D } σ H) : tSeq (rdS X.K W f) (tSeq (rdS X.K W g) u) D σ H := by
  obtain ⟨F0, H0, F, sl, cs, R, o⟩ := q
  refine ⟨F0, H0, F, sl, cs, R, ?_⟩
  unfold dSeq at o
  cases e : f sl cs with
  | nx sl' cs' => rw [e] at o; exact fun σ' F' H' R' => ⟨F0, H0, F', sl', cs', R', o⟩
  | rt r c => rw [e] at o; exact o
  | bk a b => rw [e] at o; exact o
  | ct a b => rw [e] at o; exact o
  | exc C fs c => rw [e] at o; exact o
  | bad => rw [e] at o; exact o
theorem dsp_cons (h : DS X W st f) (k : DSp X W sts rest g) : DSp X W (st :: sts) rest (dSeq f g) := fun u ku => PSs.imp (pss_cons h (k u ku)) fun D σ H q => seq_run q
theorem dsp_app (h : DSp X W sts rest f) (k : DSp X W rest rest2 g) : DSp X W sts rest2 (dSeq f g) := fun u ku => PSs.imp (h _ (k u ku)) fun D σ H q => seq_run q
theorem dsp_frz (i : Nat) (h : DSp X W sts rest f) : DSp X W sts rest (dFz i f) := fun u ku => PSs.imp (h u ku) fun _ _ _ q => frz_run i q
theorem dsp_pin (i : Nat) (h : DSp X W sts rest f) : DSp X W sts rest (dPin i f) := fun u ku => PSs.imp (h u ku) fun _ _ _ q => pin_run i q
theorem dsp_scope (h : DSp X W sts rest f) : DSp X W sts rest (dScope f) := fun u ku => PSs.imp (h u ku) fun _ _ _ q => scope_run q
theorem dss_pre (h : DSp X W sts rest f) (k : DSs X W rest g) : DSs X W sts (dSeq f g) := PSs.imp (h _ k) fun D σ H q => by
  obtain ⟨F0, H0, F, sl, cs, R, o⟩ := q
  refine ⟨F0, H0, F, sl, cs, R, ?_⟩
  unfold dSeq at o
  cases e : f sl cs with
  | nx sl' cs' => rw [e] at o; exact fun σ' F' H' R' => ⟨F0, H0, F', sl', cs', R', o⟩
  | rt r c => rw [e] at o; exact o
  | bk a b => rw [e] at o; exact o
  | ct a b => rw [e] at o; exact o
  | exc C fs c => rw [e] at o; exact o
  | bad => rw [e] at o; exact o
end
end SL

/-! Sq: the program's exceptions: made and raised. -/
namespace SL
open PySem L2 PySem.W PySem.Calls PyProof.Rows PySem.OEX
/-- what is known of KnitError, whose __init__ is ValueError's -/
structure Kni (K : PySem.W.Frag) (C0 : Addr) : Prop where
  ga : specialIn K (.ref C0) "__getattribute__" = some (some (.builtin "type.__getattribute__"))
  ty : typeIn K (.ref C0) = some (.type "type")
  rd : readsIn K C0 (.type "type") = true
  fc : findCls K (.ref C0) (.type "type") "__init__" = some (.val (.builtin "ValueError.__init__"))
section
variable {X : Cx} {o e : Expr} {es : List Expr} {to te : TE} {ta : TA} {f : Str} {p p' p1 p2 pos : Pos}
/-- KnitError.__init__(self, text) -/
theorem pe_kinit {pl : Sem Bool} {C0 : Addr} (kn : Kni X.K C0) (hg : Gl X "KnitError") (hm : X.mg "KnitError" = some (.ref C0)) (ha : PA X (e :: es) ta)
    (ev : eval (.Call (.Attribute (.Name "KnitError" p1) "__init__" p2) (e :: es) [] pos) X.env = (do
      let c ← eval (.Name "KnitError" p1) X.env
      standAt p2.atName
      let (m, fst) ← holding [c] (getMethod c "__init__" pl)
      callWith pos m fst (backTo pos (starEach (e :: es) X.env)) (backToKw pos (keywordEach [] X.env))) := by rfl)
    (s1 : starEach (e :: es) X.env = (false, eval e X.env) :: starEach es X.env := by rfl) (s2 : (backTo pos (starEach es X.env)).any (·.1) = false := by rfl) :
    PE X (.Call (.Attribute (.Name "KnitError" p1) "__init__" p2) (e :: es) [] pos) (tVeI X.K ta) := by
  constructor
  intro pins s σ H Q I h
  refine methodCall_KW (ld_glob I hg hm ?_ (by decide)) ev
  obtain ⟨m, fr⟩ := I.fr
  refine method_of_cls fr I.ok.mod.kin kn.ga (cls_val fr I.ok.mod.kin kn.ty kn.rd kn.fc (by decide +kernel) ?_)
  show wpAny _ _ (callWith pos (Value.builtin "ValueError.__init__") [] (backTo pos (starEach (e :: es) X.env)) []) _ _ _
  refine callWith_method1 (thn (ha.run pos pins _ σ H _ (I.tok _) h) ?_) s1 s2
  rintro us s' ⟨vs, H1, I1, r1, a, C, ws, rfl, hl, T, ea, q⟩
  cases r1 with
  | @cons _ u0 _ ur ra rw' =>
    obtain rfl : u0 = Value.ref a := ra
    refine oinit_ok T I1 ea (by rw [← Paired.length rw', sizeLine_eq]; omega) ?_
    intro s2 J
    exact ⟨.non, H1, J, rfl, q⟩
end
/-- what an error's __init__ of one field does -/
def spI (K : PySem.W.Frag) (C : Addr) (f : Str) : Sp := fun vs H Q _ => ∃ a v, vs = [.ref a, v] ∧ OexC K C ∧ findIn K (.ref C) f = some none ∧ H a = some (exo a C none) ∧
  ∀ d, H d = none → d ≠ a → Q .non (upd (upd H d (exd d [(f, v)])) a (exo a C (some d)))
section
variable {P : Program} {w : World} {K : PySem.W.Frag} {mg : Str → Option Value} {base : Heap}
theorem init1 {CX : CXT} {qual : Str} {params : Arguments} {scope : Scope} {fI C C0 : Addr} {fd : FuncData} {x f m : Str} {j : Nat} {p1 p2 p3 p4 p5 p6 p7 p8 p9 p10 : Pos}
    (FD : FunD K "__init__" qual params [.Expr (.Call (.Attribute (.Name "KnitError" p1) "__init__" p2) [.Name "self" p3, .Constant (.str m) j p4] [] p5) p6, .Assign [.Attribute (.Name "self" p7) f p8] (.Name x p9) p10] scope [] [] fI fd)
    (S : FnScope ["self", x] ["self", x] scope) (kn : Kni K C0) (hm : mg "KnitError" = some (.ref C0)) (hgl : scope.names.lookup ("KnitError" : Str) = some .globalImplicit) {pl : Env → Sem Bool}
    (ev : ∀ env : Env, eval (.Call (.Attribute (.Name "KnitError" p1) "__init__" p2) [.Name "self" p3, .Constant (.str m) j p4] [] p5) env = (do
      let c ← eval (.Name "KnitError" p1) env
      standAt p2.atName
      let (m1, fst) ← holding [c] (getMethod c "__init__" (pl env))
      callWith p5 m1 fst (backTo p5 (starEach [.Name "self" p3, .Constant (.str m) j p4] env)) (backToKw p5 (keywordEach [] env))))
    (v0 : Vis scope "self") (v1 : Vis scope x) (hx1 : (x == ("__debug__" : Str)) = false := by decide) (hx2 : (x == ("__classdict__" : Str)) = false := by decide) :
    FnOk P w K mg base CX 1 fI fd ["self", x] (spI K C f) := by
  refine FD.ok S (fun vs H Q E h => ?_) ?_
  · obtain ⟨a, v, rfl, _⟩ := h; rfl
  intro cdv A outer s H vs Q E hr h
  obtain ⟨a, v, rfl, T, hno, ha, q⟩ := h
  refine ⟨_, pss_cons (ps_expr (pe_kinit kn hgl hm (pa_cons (pe_var (i := 0) rfl v0) (pa_cons pe_str pa_nil)) (ev _))) (pss_one (ps_ost (pe_var (i := 0) rfl v0) (pe_var (i := 1) rfl v1 hx1 hx2))), ?_⟩
  exact ⟨.ref a, rfl, a, C, [.str m], rfl, Nat.le_of_ble_eq_true rfl, T, ha, v, rfl, .ref a, rfl, a, C, rfl, T, hno, .inl ⟨ha, fun dx n ne => q dx n ne⟩⟩
end
/-- raise C(e): what it tells -/
def dRaise (c : Nat) (f : Str) (fe : FE) : FS := fun sl cs => Res.toF sl (dFrz fe sl cs) fun a => match a.1 with
  | .dat d => .exc c [(f, d)] sl a.2
  | _ => .bad
/-- one of the program's error classes with one field -/
structure Err1 (P : Program) (w : World) (K : PySem.W.Frag) (mg : Str → Option Value) (base : Heap) (c : Nat) (f : Str) : Prop where
  oex : OexC K (He.ga K (clsNm c))
  init : findIn K (.ref (He.ga K (clsNm c))) "__init__" = some (some (.ref (He.ma K (He.ga K (clsNm c)) "__init__")))
  fn : typeIn K (.ref (He.ma K (He.ga K (clsNm c)) "__init__")) = some (.type "function")
  nof : findIn K (.ref (He.ga K (clsNm c))) f = some none
  glob : mg (clsNm c) = some (.ref (He.ga K (clsNm c)))
  ok : ∃ fd ps, FnOk P w K mg base (L2.CX P w) 1 (He.ma K (He.ga K (clsNm c)) "__init__") fd ps (spI K (He.ga K (clsNm c)) f) ∧ Binds K fd ps []
theorem ds_raise {X : Cx} {W : WX} {c : Nat} {f x : Str} {fe : FE} {e : Expr} {p p2 pos : Pos} (hc : X.calm = true) (tk : Takes X W) (E : Err1 X.prog X.w X.K X.mg X.base c f) (hx : clsNm c = x) (hg : Gl X x) (hr : Room 2 X.A)
    (h : DE X W e fe) (hp : Passes (L2.CX X.prog X.w) X (fun _ _ _ => False)) (hdb : (x == ("__debug__" : Str)) = false := by decide) (he : starEach [e] X.env = (false, eval e X.env) :: starEach [] X.env := by rfl) (hpl : (backTo p2 (starEach [] X.env)).any (·.1) = false := by rfl) :
    DS X W (.Raise (some (.Call (.Name x p) [e] [] p2)) none pos) (dRaise c f fe) := by
  subst hx
  obtain ⟨fd, ps, F, B⟩ := E.ok
  refine PS.imp (ps_raise hc tk (pmk_oex E.oex E.init E.fn F hr B .nil hp hg E.glob (pa_cons (de_frz h) pa_nil he) hdb he hpl)) fun D σ H q => ?_
  obtain ⟨F0, H0, F1, sl, cs, R, o⟩ := q
  refine OutS.run_E R o fun r cs' v F' H' e1 n1 w1 k1 _ R1 o1 => ?_
  dsimp only at o1
  split at o1
  · rename_i d
    have rs := RaisedS.at_ o1 R1
    refine ⟨Nat.le_of_ble_eq_true rfl, fun a ha => ⟨a, v, rfl, E.oex, E.nof, upd_same, fun dx hd ne => ⟨rfl, dx, [(f, v)], upd_same, ?_, ?_, ?_⟩⟩⟩
    · rw [upd_ne ne, upd_same]
    · rw [upd_ne ne] at hd; exact hd
    · have hd' : H' dx = none := by rw [upd_ne ne] at hd; exact hd
      have eu : upd (del (upd (upd (upd H' a (exo a (He.ga X.K (clsNm c)) none)) dx (exd dx [(f, v)])) a (exo a (He.ga X.K (clsNm c)) (some dx))) a) dx (.xd [(f, v)]) = upd H' dx (.xd [(f, v)]) := by
        funext b
        by_cases hb : b = dx
        · subst hb; rw [upd_same, upd_same]
        · rw [upd_ne hb, upd_ne hb]
          by_cases hba : b = a
          · subst hba; rw [del_same, ha]
          · rw [del_ne hba, upd_ne hba, upd_ne hb, upd_ne hba]
      rw [eu]
      obtain ⟨w2, n2⟩ := Wok.laid R1.w (p := dx) (o := .xd [(f, v)]) hd'
      exact rs F' _ dx [(f, v)] n2 w2 upd_same (.cons k1 .nil)
  · exact o1.elim
end SL

/-! Sr: a try with several clauses, each with or without a name. -/
namespace SL
open PySem PySem.Spec PyProof.Rows L2
/-- the ends behind a named clause: the name is unbound -/
def goneD (i : Nat) (D : Ends) : Ends where
  nx := fun σ H => D.nx (σ.set i none) H
  rt := D.rt
  bk := fun σ H => D.bk (σ.set i none) H
  ct := fun σ H => D.ct (σ.set i none) H
abbrev Cl : Type := Value × Option Nat × (Addr → Value → Option Addr → TS)
def clD (o : Option Nat) (D : Ends) : Ends := match o with
  | none => D
  | some i => goneD i D
def clS (o : Option Nat) (a : Addr) (σ : L2.St) : L2.St := match o with
  | none => σ
  | some i => σ.set i (some (.ref a))
/-- what the clauses make of an exception -/
def wCl (K : PySem.W.Frag) (Wout : WX) (D : Ends) : List Cl → WX
  | [] => Wout
  | (c, o, ts) :: r => fun cls d σ H => ∃ b, PySem.W.exmOne K cls c = some b ∧
      (b = true → ∀ a, H a = none → ts a cls d (clD o D) (clS o a σ) H) ∧ (b = false → wCl K Wout D r cls d σ H)
inductive ClOk (X : Cx) : List ExceptHandler → List Cl → Prop
  | nil : ClOk X [] []
  | bare {x : Str} {c : Value} {ts : Addr → Value → Option Addr → TS} {b : Stmt} {bs : List Stmt} {p1 p2 : Pos} {hs : List ExceptHandler} {l : List Cl} : Names X x c →
      (∀ (a : Addr) (oe : Obj) (cls : Value) (d : Option Addr) (pn : List (Addr × Obj)), Zc cls d oe → (∃ vs, oe.data = .fields vs) → PSs (X.suite a ((a, oe) :: pn)) (b :: bs) (ts a cls d)) →
      ClOk X hs l → ClOk X (.ExceptHandler (some (.Name x p1)) none (b :: bs) p2 :: hs) ((c, none, ts) :: l)
  | named {x n : Str} {i : Nat} {c : Value} {ts : Addr → Value → Option Addr → TS} {b : Stmt} {bs : List Stmt} {p1 p2 : Pos} {hs : List ExceptHandler} {l : List Cl} : Names X x c → X.N[i]? = some n → X.env.kindOf n = some .local →
      (∀ (a : Addr) (oe : Obj) (cls : Value) (d : Option Addr) (pn : List (Addr × Obj)), Zc cls d oe → (∃ vs, oe.data = .fields vs) → PSs (X.suite a ((a, oe) :: pn)) (b :: bs) (ts a cls d)) →
      ClOk X hs l → ClOk X (.ExceptHandler (some (.Name x p1)) (some n) (b :: bs) p2 :: hs) ((c, some i, ts) :: l)
section
variable {X : Cx} {body : List Stmt} {hd : ExceptHandler} {hds : List ExceptHandler} {l : List Cl} {pos : Pos} {tb : WX → TS} {Wout : WX}
theorem ps_try_cl (hs : X.stack = X.env :: X.outer) (hf : X.env.frame = some X.env.locals) (nd : X.N.Nodup) (tk : Takes X Wout)
    (hb : ∀ (W : WX) (pn : List (Addr × Obj)) (xe : Value → Shared → Prop), Takes (X.tr pn xe) W → PassesOwn (model X.prog X.w) X.A X.env xe → PSs (X.tr pn xe) body (tb W))
    (hc : ClOk X (hd :: hds) l) : PS X (.Try body (hd :: hds) [] [] pos) (fun D σ H => tb (fun cls d σ' H' => σ'.length = X.N.length → wCl X.K Wout D l cls d σ' H') D σ H) := by
  constructor
  intro pins s σ H D I h
  have ok := I.ok
  have frs_eq : X.A.frames = some (X.env :: X.outer) := by rw [ok.frames, hs]
  apply wpAny_Try_except
  refine wpAny_mono ((hb (fun cls d σ' H' => σ'.length = X.N.length → wCl X.K Wout D l cls d σ' H') (X.pn ++ pins)
    (fun e t1 => wpAny (model X.prog X.w) X.A (noteFrame e X.env) (fun _ t2 => wpAny (model X.prog X.w) X.A (setFlight e none)
      (fun _ t3 => wpAny (model X.prog X.w) X.A (handleBy e X.env (hd :: hds)) (SP X pins D) X.xe t3) X.xe t2) X.xe t1) ?_ PassesOwn.looking).run [] s σ H D (I.toTry _) h) ?_ (fun _ _ z => z)
  · rintro u s' ⟨a, B, sI, pins', σ', H', cls, d, rfl, J0, nb, up, sky, na, os, ag, wish⟩
    have J : Inv X pins σ' H' sI := J0.ofTry ok
    have wish' := wish J.len
    clear wish
    show wpAny _ _ (noteFrame (.ref a) X.env) _ _ _
    refine Sky.land Zc.steady frs_eq hf (by rw [← hs]; exact sky) ?_
    intro h3 fl3 up3
    have J3 : Inv X pins σ' H' { s' with heap := h3 } := J.landed nb fl3.1 (up.trans up3) os ag
    obtain ⟨o3, v3, ho3, z3, d3⟩ := fl3.there
    have outside : a ∉ frs (X.env :: X.outer) := by
      intro hm
      obtain ⟨_, o', ho', hnf⟩ := fl3.2.2.1.mem hm
      rw [ho3] at ho'
      cases ho'
      exact hnf _ d3
    have aL : a ≠ X.env.locals := fun z => outside (List.mem_filterMap.mpr ⟨X.env, List.mem_cons_self, by rw [hf, z]⟩)
    have aF : a ∉ X.fs := by
      intro hm
      obtain ⟨en, hen, q⟩ := List.mem_filterMap.mp hm
      exact outside (List.mem_filterMap.mpr ⟨en, List.mem_cons_of_mem _ hen, q⟩)
    have S3 := J3.suite ho3 d3 na aL aF
    have all : ∀ (hs' : List ExceptHandler) (l' : List Cl), ClOk X hs' l' → wCl X.K Wout D l' cls d σ' H' → wpAny (model X.prog X.w) X.A (handleBy (.ref a) X.env hs') (SP X pins D) X.xe { s' with heap := h3 } := by
      intro hs' l' ck
      have look : PySem.W.Looks (model X.prog X.w) h3 (typeOf (.ref a)) cls := by
        intro A Q E s k q
        exact wpAny_typeOf_ref (k _ _ ho3) (by rw [z3.1]; exact q)
      have named_test : ∀ {x : Str} {c : Value} {np : Pos} {Q E : Value → Shared → Prop}, Names X x c → Q c { s' with heap := h3 } → wpAny (model X.prog X.w) (X.A.mark (some (.ref a))) (eval (.Name x np) X.env) Q E { s' with heap := h3 } := by
        intro x c np Q E nc q
        obtain ⟨hg, hdb, hm | ⟨hm, hv, hnn⟩⟩ := nc
        · exact ld_glob (X := X.suite a ((a, o3) :: (X.pn ++ pins))) S3 hg hm q hdb
        · exact ld_blt (X := X.suite a ((a, o3) :: (X.pn ++ pins))) S3 hg hm hv q hnn hdb
      induction ck with
      | nil =>
        intro w
        apply wpAny_handleBy_nil
        obtain ⟨k1, k2, k3, oe, vs, T, oT, ts', he, hz, hd, h1, hr⟩ := id fl3
        unfold PySem.passOn
        refine wpAny_bind (wpAny_field he hd h1 ?_)
        rw [if_neg (by simp : ¬ ((Value.ref T == Value.none) = true))]
        have fin : wpAny (model X.prog X.w) X.A (setFlight (.ref a) X.env.frame) (fun _ t => wpAny (model X.prog X.w) X.A (throw (.ref a) : Sem Flow) (SP X pins D) X.xe t) X.xe { s' with heap := h3 } := by
          rw [hf]
          refine HandSPX.setFlight_upZ fl3 fun h4 sk4 up4 => wpAny_throw (tk _ _ ⟨a, B, sI, pins, σ', H', cls, d, rfl, J, nb, ?_⟩)
          exact ⟨(up.trans up3).trans up4, .inr (.inr (by rw [hs]; exact sk4)), na, os, ag, w⟩
        first
          | exact wpAny_bind (wpAny_pure (wpAny_bind fin))
          | exact wpAny_bind fin
      | @bare x c ts b bs p1 p2 hs2 l2 nc su r ih =>
        rintro ⟨y, hy, yes, no⟩
        refine wpAny_handleBy_cons (codeAny_handlers_test (named_test nc ((PySem.W.exm_one (M := model X.prog X.w) J3.kIn look hy).here ?_))) (fun q => nomatch q)
        cases y with
        | false => exact ih (no rfl)
        | true =>
          apply codeAny_handlers_suite
          refine HandSPX.lands_againZ fl3 ?_
          intro h4 fl4 up4
          have J4 : Inv X pins σ' H' { s' with heap := h4 } := J.landed nb fl4.1 ((up.trans up3).trans up4) os ag
          obtain ⟨o4, v4, ho4, z4, d4⟩ := fl4.there
          refine wpAny_mono ((su a o4 cls d (X.pn ++ pins) z4 ⟨_, d4⟩).run [] _ _ H' _ (J4.suite ho4 d4 na aL aF) (yes rfl a na)) ?_ (fun _ _ z => z.elim)
          intro f t out
          match f, out with
          | .next, ⟨_, _, S, q⟩ => exact ⟨_, _, S.unsuite ok, q⟩
          | .brk, ⟨_, _, S, q⟩ => exact ⟨_, _, S.unsuite ok, q⟩
          | .cont, ⟨_, _, S, q⟩ => exact ⟨_, _, S.unsuite ok, q⟩
          | .ret u, ⟨_, _, _, S, rv, q⟩ => exact ⟨_, _, _, S.unsuite ok, rv, q⟩
      | @named x n i c ts b bs p1 p2 hs2 l2 nc hi hl su r ih =>
        rintro ⟨y, hy, yes, no⟩
        refine wpAny_handleBy_cons (codeAny_handlers_test (named_test nc ((PySem.W.exm_one (M := model X.prog X.w) J3.kIn look hy).here ?_))) (fun q => nomatch q)
        cases y with
        | false => exact ih (no rfl)
        | true =>
          apply codeAny_handlers_suite_as
          refine HandSPX.lands_againZ fl3 ?_
          intro h4 fl4 up4
          have J4 : Inv X pins σ' H' { s' with heap := h4 } := J.landed nb fl4.1 ((up.trans up3).trans up4) os ag
          obtain ⟨o4, v4, ho4, z4, d4⟩ := fl4.there
          refine store_ok (X := X.suite a ((a, o4) :: (X.pn ++ pins))) (v := .ref a) (J4.suite ho4 d4 na aL aF) nd hi (Or.inl hl) rfl ?_ (.inr hl)
          intro s5 S5
          refine wpAny_mono ((su a o4 cls d (X.pn ++ pins) z4 ⟨_, d4⟩).run [] s5 _ H' _ S5 (yes rfl a na)) ?_ (fun _ _ z => z.elim)
          intro f t out
          have off : ∀ {σ6 : L2.St} {H6 : Hp} {Q : Shared → Prop}, Inv (X.suite a ((a, o4) :: (X.pn ++ pins))) [] σ6 H6 t → (∀ s7, Inv X pins (σ6.set i none) H6 s7 → Q s7) →
              wpAny (model X.prog X.w) X.A (do bindName X.env n .none; unbindBehindTheSuite X.env n p2) (fun _ s7 => Q s7) X.xe t := by
            intro σ6 H6 Q S6 hq
            exact gone_ok (S6.unsuite ok) nd hi hl hq
          match f, out with
          | .next, ⟨_, _, S, q⟩ => exact off S fun s7 J7 => ⟨_, _, J7, q⟩
          | .brk, ⟨_, _, S, q⟩ => exact off S fun s7 J7 => ⟨_, _, J7, q⟩
          | .cont, ⟨_, _, S, q⟩ => exact off S fun s7 J7 => ⟨_, _, J7, q⟩
          | .ret u, ⟨_, _, _, S, rv, q⟩ => exact off S fun s7 J7 => ⟨_, _, _, J7, rv, q⟩
    exact all _ _ hc wish'
  · intro f t out
    match f, out with
    | .next, ⟨_, _, J, q⟩ => exact wpAny_execs_nil ⟨_, _, J.ofTry ok, q⟩
    | .brk, ⟨_, _, J, q⟩ => exact ⟨_, _, J.ofTry ok, q⟩
    | .cont, ⟨_, _, J, q⟩ => exact ⟨_, _, J.ofTry ok, q⟩
    | .ret u, ⟨_, _, _, J, rv, q⟩ => exact ⟨_, _, _, J.ofTry ok, rv, q⟩
end
end SL

/-! Ss: a try: its clauses run at the slots as they stood when the exception left. -/
namespace SL
open PySem PySem.Spec PyProof.Rows L2
/-- is an error of class c an error of class k (0: KnitError) -/
def subC (c k : Nat) : Bool := decide (c = k) || decide (k = 0)
/-- a clause: its class, what it does with the error's fields -/
abbrev Cla : Type := Nat × (List (Str × D) → FS)
def noExc : Flw → Flw
  | .exc _ _ _ _ => .bad
  | r => r
def catchF (c : Nat) (fs : List (Str × D)) : List Cla → FS
  | [] => fun sl cs => .exc c fs sl cs
  | (k, h) :: r => fun sl cs => if subC c k then noExc (h fs sl cs) else catchF c fs r sl cs
def dTry (known : List Nat) (hs : List Cla) (body : FS) : FS := fun sl cs => match body sl cs with
  | .exc c fs sl' cs' => if c ∈ known then catchF c fs hs sl' cs' else .bad
  | r => r
/-- a clause without a name -/
def hBare (m : FS) : List (Str × D) → FS := fun _ => m
/-- what a clause with a name writes -/
inductive HI where
  | s (z : Str) | f (z : Str) | i (b : Bool)
def HI.d (fs : List (Str × D)) : HI → Option D
  | .s z => some (.str z)
  | .f z => fs.lookup z
  | .i b => some (.bl b)
def hiAll (fs : List (Str × D)) : List HI → Option (List D)
  | [] => some []
  | h :: r => match h.d fs, hiAll fs r with
    | some d, some ds => some (d :: ds)
    | _, _ => none
/-- x = [items], the clause's name in slot j -/
def hList (i j : Nat) (its : List HI) : List (Str × D) → FS := fun fs sl cs => match hiAll fs its with
  | some ds => if i < sl.length then .nx (((sl.set j .un).set i (.own (.lst ds))).set j .un) cs else .bad
  | none => .bad
/-- x = e.f -/
def hVal (i j : Nat) (f : Str) : List (Str × D) → FS := fun fs sl cs => match fs.lookup f with
  | some d => if i < sl.length then .nx (((sl.set j .un).set i (.dat d)).set j .un) cs else .bad
  | none => .bad
theorem DenFs.lookup {F : Fz} {fv : List (Str × V)} {fs : List (Str × D)} (h : DenFs F fv fs) {f : Str} {d : D} (e : fs.lookup f = some d) : ∃ v, fv.lookup f = some v ∧ Den F v d := by
  induction fv generalizing fs with
  | nil => cases h; cases e
  | cons p fv ih =>
    cases h with
    | @cons k v _ d' ds h t =>
      rw [List.lookup_cons] at e ⊢
      cases q : (f == k) with
      | true => rw [q] at e; cases e; exact ⟨v, rfl, h⟩
      | false => rw [q] at e; exact ih t e
section
variable {K : PySem.W.Frag} {F0 F : Fz} {H0 H : Hp} {sl : List SV} {cs : List CO} {σ : L2.St} {p : Addr}
/-- nothing is known of a slot -/
theorem Rel.unset {j : Nat} {x : Option V} (R : Rel K F0 H0 F H sl cs σ) : Rel K F0 H0 F H (sl.set j .un) cs (σ.set j x) := by
  refine ⟨R.w, R.fr, by simp [R.len], fun q sv e => ?_, fun q r c d p e1 e2 e3 e4 => ?_⟩
  · by_cases hq : j = q
    · subst hq
      by_cases hl : j < sl.length
      · rw [List.getElem?_set_self hl] at e; cases e; trivial
      · rw [List.getElem?_eq_none (by simp; omega)] at e; cases e
    · rw [List.getElem?_set_ne hq] at e
      rw [List.getElem?_set_ne hq]; exact R.at_ q sv e
  · have own : ∀ {q : Nat} {c : CO}, (sl.set j .un)[q]? = some (.own c) → j ≠ q ∧ sl[q]? = some (.own c) := by
      intro q c e
      by_cases hq : j = q
      · subst hq
        by_cases hl : j < sl.length
        · rw [List.getElem?_set_self hl] at e; cases e
        · rw [List.getElem?_eq_none (by simp; omega)] at e; cases e
      · rw [List.getElem?_set_ne hq] at e; exact ⟨hq, e⟩
    obtain ⟨n1, g1⟩ := own e1
    obtain ⟨n2, g2⟩ := own e2
    rw [List.getElem?_set_ne n1] at e3
    rw [List.getElem?_set_ne n2] at e4
    exact R.ds q r c d p g1 g2 e3 e4
/-- a new object laid and stored -/
theorem Rel.newIn {i : Nat} {o : HO} {c : CO} (R : Rel K F0 H0 F H sl cs σ) (hp : H p = none) (k : COk F o c) (hi : i < sl.length) : Rel K F0 H0 F (upd H p o) (sl.set i (.own c)) cs (σ.set i (some (.ref p))) := by
  obtain ⟨w2, n2⟩ := R.w.laid (o := o) hp
  have R2 := R.step n2 w2
  have Fp : F p = none := by
    cases e : F p with
    | none => rfl
    | some u => rw [R.w.ex _ _ e] at hp; cases hp
  have pm : p ∉ F.μ := fun hm => by
    obtain ⟨_, u, e⟩ := R.w.there hm
    rw [e] at hp; cases hp
  refine R2.set hi ⟨p, rfl, R.fr.none R.w hp, Fp, pm, o, upd_same, k⟩ fun c' _ j q d ev e1 e2 => ?_
  cases ev
  obtain ⟨q', a, _, _, _, o', b, _⟩ := R.at_ j _ e1
  rw [e2] at a
  cases a
  rw [hp] at b; cases b
end
section
variable {X : Cx}
/-- [items] -/
inductive HisOk (X : Cx) (C : Addr) (n : Str) (jn : Nat) : List Expr → List HI → Prop
  | nil : HisOk X C n jn [] []
  | s {z : Str} {j : Nat} {p : Pos} {es : List Expr} {its : List HI} : HisOk X C n jn es its → HisOk X C n jn (.Constant (.str z) j p :: es) (.s z :: its)
  | f {f : Str} {p p5 : Pos} {es : List Expr} {its : List HI} : PySem.W.findIn X.K (.ref C) f = some none → (∀ env : Env, attributeBase (.Name n p5) f env (eval (.Name n p5) env) = eval (.Name n p5) env) → HisOk X C n jn es its → HisOk X C n jn (.Attribute (.Name n p5) f p :: es) (.f f :: its)
  | i {b : Bool} {e : Expr} {es : List Expr} {its : List HI} : (∀ (a : Addr) (oe : Obj) (cls : Value) (d : Option Addr) (pn : List (Addr × Obj)), Zc cls d oe → (∃ vs, oe.data = .fields vs) → PE (X.suite a ((a, oe) :: pn)) e (fun σ H Q => σ[jn]? = some (some (.ref a)) ∧ cls = .ref C ∧ (∃ (dd : Addr) (fv : List (Str × V)), d = some dd ∧ H dd = some (.xd fv)) ∧ Q (.bl b) H)) →
      (∀ env : Env, starEach (e :: es) env = (false, eval e env) :: starEach es env) → HisOk X C n jn es its → HisOk X C n jn (e :: es) (.i b :: its)
def hiV (fv : List (Str × V)) : List HI → Option (List V)
  | [] => some []
  | .s z :: r => (hiV fv r).map (.str z :: ·)
  | .i b :: r => (hiV fv r).map (.bl b :: ·)
  | .f z :: r => match fv.lookup z, hiV fv r with
    | some v, some vs => some (v :: vs)
    | _, _ => none
theorem hiV_of {F : Fz} {fv : List (Str × V)} {fs : List (Str × D)} (h : DenFs F fv fs) : ∀ {its : List HI} {ds : List D}, hiAll fs its = some ds → ∃ vs, hiV fv its = some vs ∧ DenAll F vs ds
  | [], ds, e => by cases e; exact ⟨[], rfl, .nil⟩
  | .s z :: r, ds, e => by
    unfold hiAll at e
    cases q : hiAll fs r with
    | none => rw [q] at e; cases e
    | some l =>
      rw [q] at e; cases e
      obtain ⟨vs, e1, e2⟩ := hiV_of h q
      exact ⟨.str z :: vs, by unfold hiV; rw [e1]; rfl, .cons (.str z) e2⟩
  | .i b :: r, ds, e => by
    unfold hiAll at e
    cases q : hiAll fs r with
    | none => rw [q] at e; cases e
    | some l =>
      rw [q] at e; cases e
      obtain ⟨vs, e1, e2⟩ := hiV_of h q
      exact ⟨.bl b :: vs, by unfold hiV; rw [e1]; rfl, .cons (.bl b) e2⟩
  | .f z :: r, ds, e => by
    unfold hiAll at e
    cases q0 : HI.d fs (.f z) with
    | none => rw [q0] at e; cases e
    | some d0 =>
      cases q : hiAll fs r with
      | none => rw [q0, q] at e; cases e
      | some l =>
        rw [q0, q] at e; cases e
        obtain ⟨vs, e1, e2⟩ := hiV_of h q
        obtain ⟨v, f1, f2⟩ := h.lookup (show fs.lookup z = some d0 from q0)
        exact ⟨v :: vs, by unfold hiV; rw [e1, f1], .cons f2 e2⟩
theorem his_pa {a C : Addr} {oe : Obj} {cls : Value} {d : Option Addr} {pn : List (Addr × Obj)} {j : Nat} {n : Str} (T : XfC X.K C) (hz : Zc cls d oe) (hf : ∃ vs, oe.data = .fields vs)
    (hj : X.N[j]? = some n) (hn : Vis X.env.scope n) (g1 : (n == ("__debug__" : Str)) = false) (g2 : (n == ("__classdict__" : Str)) = false) {es : List Expr} {its : List HI} (h : HisOk X C n j es its) :
    PA (X.suite a ((a, oe) :: pn)) es (fun σ H Q => σ[j]? = some (some (.ref a)) ∧ cls = .ref C ∧ ∃ dd fv vs, d = some dd ∧ H dd = some (.xd fv) ∧ hiV fv its = some vs ∧ Q vs H) := by
  induction h with
  | nil =>
    refine PA.imp pa_nil ?_
    rintro σ H Q ⟨_, _, dd, fv, vs, _, _, e, q⟩
    cases e; exact q
  | @s z k p es its _ ih =>
    refine PA.imp (pa_cons pe_str ih) ?_
    rintro σ H Q ⟨h1, h2, dd, fv, vs, h3, h4, e, q⟩
    unfold hiV at e
    cases q2 : hiV fv its with
    | none => rw [q2] at e; cases e
    | some ws =>
      rw [q2] at e; cases e
      exact ⟨h1, h2, dd, fv, ws, h3, h4, q2, q⟩
  | @i b e es its hp hst _ ih =>
    refine PA.imp (pa_cons (hp a oe cls d pn hz hf) ih (hst _)) ?_
    rintro σ H Q ⟨h1, h2, dd, fv, vs, h3, h4, e, q⟩
    unfold hiV at e
    cases q2 : hiV fv its with
    | none => rw [q2] at e; cases e
    | some ws =>
      rw [q2] at e; cases e
      exact ⟨h1, h2, ⟨dd, fv, h3, h4⟩, h1, h2, dd, fv, ws, h3, h4, q2, q⟩
  | @f f p p5 es its hno hb _ ih =>
    refine PA.imp (pa_cons (pe_xf T hno hz hf (pe_var (X := X.suite a ((a, oe) :: pn)) hj hn g1 g2) (hb _)) ih) ?_
    rintro σ H Q ⟨h1, h2, dd, fv, vs, h3, h4, e, q⟩
    unfold hiV at e
    cases q1 : fv.lookup f with
    | none => rw [q1] at e; cases e
    | some v =>
      cases q2 : hiV fv its with
      | none => rw [q1, q2] at e; cases e
      | some ws =>
        rw [q1, q2] at e; cases e
        exact ⟨.ref a, h1, rfl, h2, dd, fv, v, h3, h4, q1, h1, h2, dd, fv, ws, h3, h4, q2, q⟩
/-- the clauses -/
inductive HdOk (X : Cx) : List ExceptHandler → List Cla → Prop
  | nil : HdOk X [] []
  | bare {x : Str} {k : Nat} {m : FS} {b : Stmt} {bs : List Stmt} {p1 p2 : Pos} {hs : List ExceptHandler} {l : List Cla} : clsNm k = x → Names X x (.ref (He.ga X.K x)) →
      (∀ (a : Addr) (oe : Obj) (pn : List (Addr × Obj)), DSs (X.suite a ((a, oe) :: pn)) W0 (b :: bs) m) → HdOk X hs l → HdOk X (.ExceptHandler (some (.Name x p1)) none (b :: bs) p2 :: hs) ((k, hBare m) :: l)
  | list {x y n : Str} {i j k : Nat} {e1 : Expr} {es : List Expr} {its : List HI} {p1 p2 p6 p7 p8 : Pos} {hs : List ExceptHandler} {l : List Cla} : clsNm k = x → k ≠ 0 → Names X x (.ref (He.ga X.K x)) → XfC X.K (He.ga X.K x) → X.N[i]? = some y → X.env.scope.names.lookup y = some .local →
      X.N[j]? = some n → X.env.scope.names.lookup n = some .local → (n == ("__debug__" : Str)) = false → (n == ("__classdict__" : Str)) = false → its.length ≤ 100 → HisOk X (He.ga X.K x) n j (e1 :: es) its →
      HdOk X hs l → HdOk X (.ExceptHandler (some (.Name x p1)) (some n) [.Assign [.Name y p2] (.List (e1 :: es) p6) p7] p8 :: hs) ((k, hList i j its) :: l)
  | val {x y n f : Str} {i j k : Nat} {p1 p2 p5 p6 p7 p8 : Pos} {hs : List ExceptHandler} {l : List Cla} : clsNm k = x → k ≠ 0 → Names X x (.ref (He.ga X.K x)) → XfC X.K (He.ga X.K x) → X.N[i]? = some y → X.env.scope.names.lookup y = some .local →
      X.N[j]? = some n → X.env.scope.names.lookup n = some .local → (n == ("__debug__" : Str)) = false → (n == ("__classdict__" : Str)) = false → PySem.W.findIn X.K (.ref (He.ga X.K x)) f = some none → (∀ env : Env, attributeBase (.Name n p5) f env (eval (.Name n p5) env) = eval (.Name n p5) env) →
      HdOk X hs l → HdOk X (.ExceptHandler (some (.Name x p1)) (some n) [.Assign [.Name y p2] (.Attribute (.Name n p5) f p6) p7] p8 :: hs) ((k, hVal i j f) :: l)
theorem hiV_len {fv : List (Str × V)} : ∀ {its : List HI} {vs : List V}, hiV fv its = some vs → vs.length = its.length
  | [], vs, e => by cases e; rfl
  | .s z :: r, vs, e => by
    unfold hiV at e
    cases q : hiV fv r with
    | none => rw [q] at e; cases e
    | some l => rw [q] at e; cases e; simp [hiV_len q]
  | .i b :: r, vs, e => by
    unfold hiV at e
    cases q : hiV fv r with
    | none => rw [q] at e; cases e
    | some l => rw [q] at e; cases e; simp [hiV_len q]
  | .f z :: r, vs, e => by
    unfold hiV at e
    cases q0 : fv.lookup z with
    | none => rw [q0] at e; cases e
    | some v => cases q : hiV fv r with
      | none => rw [q0, q] at e; cases e
      | some l => rw [q0, q] at e; cases e; simp [hiV_len q]
end
section
variable {X : Cx} {W : WX}
theorem OutS.noExc {K : PySem.W.Frag} {F0 : Fz} {H0 : Hp} {D : Ends} {x : Flw} (h : OutS K W F0 H0 D (noExc x)) : OutS K W0 F0 H0 D x := by
  cases x with
  | exc c fs sl cs => exact h.elim
  | nx sl cs => exact h
  | rt r cs => exact h
  | bk sl cs => exact h
  | ct sl cs => exact h
  | bad => exact h
theorem hd_ok (nd : X.N.Nodup) {hds : List ExceptHandler} {hs : List Cla} (h : HdOk X hds hs) :
    ∃ l, ClOk X hds l ∧ ∀ (c : Nat) (D : Ends) (F0 : Fz) (H0 : Hp) (F : Fz) (H : Hp) (sl : List SV) (cs : List CO) (fs : List (Str × SL.D)) (fv : List (Str × V)) (dx : Addr) (σ : L2.St),
      (∀ p ∈ hs, PySem.W.exmOne X.K (.ref (He.ga X.K (clsNm c))) (.ref (He.ga X.K (clsNm p.1))) = some (subC c p.1)) → Rel X.K F0 H0 F H sl cs σ → H dx = some (.xd fv) → DenFs F fv fs →
      OutS X.K W F0 H0 D (catchF c fs hs sl cs) → σ.length = X.N.length → wCl X.K W D l (.ref (He.ga X.K (clsNm c))) (some dx) σ H := by
  induction h with
  | nil =>
    refine ⟨[], .nil, ?_⟩
    intro c D F0 H0 F H sl cs fs fv dx σ _ R e d o _
    exact o σ F H dx fv R e d
  | @bare x k m b bs p1 p2 hds hs hk nc su _ ih =>
    obtain ⟨l, ck, sem⟩ := ih
    subst hk
    refine ⟨_, .bare (ts := fun _ _ _ => rdS X.K W0 m) nc (fun a oe cls d pn _ _ => su a oe pn) ck, ?_⟩
    intro c D F0 H0 F H sl cs fs fv dx σ ex R e dn o hlen
    refine ⟨_, ex (k, hBare m) List.mem_cons_self, fun hb a ha => ?_, fun hb => ?_⟩
    · simp only [catchF, hb, if_true, hBare] at o
      exact ⟨F0, H0, F, sl, cs, R, OutS.noExc o⟩
    · simp only [catchF, hb, Bool.false_eq_true, if_false] at o
      exact sem c D F0 H0 F H sl cs fs fv dx σ (fun p hp => ex p (List.mem_cons_of_mem _ hp)) R e dn o hlen
  | @list x y n i j k e1 es its p1 p2 p6 p7 p8 hds hs hk k0 nc T hy hl hj hn g1 g2 few hi _ ih =>
    obtain ⟨l, ck, sem⟩ := ih
    subst hk
    refine ⟨_, .named nc hj hn (fun a oe cls d pn hz hf => pss_one (ps_set (X := X.suite a ((a, oe) :: pn)) nd hy (.inl hl) (pe_lst (his_pa T hz hf hj (.inl hn) g1 g2 hi)) rfl (.inr hl))) ck, ?_⟩
    intro c D F0 H0 F H sl cs fs fv dx σ ex R e dn o hlen
    refine ⟨_, ex (k, hList i j its) List.mem_cons_self, fun hb a ha => ?_, fun hb => ?_⟩
    · have ck : c = k := by
        simp only [subC, Bool.or_eq_true, decide_eq_true_eq] at hb
        exact hb.resolve_right k0
      subst ck
      simp only [catchF, hb, if_true, hList] at o
      cases q : hiAll fs its with
      | none => rw [q] at o; exact o.elim
      | some ds =>
        rw [q] at o
        obtain ⟨vs, ev, dv⟩ := hiV_of dn q
        have jl : j < σ.length := by rw [hlen]; exact (List.getElem?_eq_some_iff.mp hj).1
        refine ⟨by simp only [clS]; rw [List.getElem?_set_self jl], rfl, dx, fv, vs, rfl, e, ev, by rw [hiV_len ev, sizeLine_eq]; omega, fun p hp => ?_⟩
        dsimp only at o
        split at o
        · rename_i il
          have R1 := R.unset (j := j) (x := some (.ref a))
          have R2 := R1.newIn (i := i) (c := .lst ds) (o := .lst vs) hp dv (by simpa using il)
          exact o _ F _ (R2.unset (j := j) (x := none))
        · exact o.elim
    · simp only [catchF, hb, Bool.false_eq_true, if_false] at o
      exact sem c D F0 H0 F H sl cs fs fv dx σ (fun p hp => ex p (List.mem_cons_of_mem _ hp)) R e dn o hlen
  | @val x y n f i j k p1 p2 p5 p6 p7 p8 hds hs hk k0 nc T hy hl hj hn g1 g2 hno hb0 _ ih =>
    obtain ⟨l, ck, sem⟩ := ih
    subst hk
    refine ⟨_, .named nc hj hn (fun a oe cls d pn hz hf => pss_one (ps_set (X := X.suite a ((a, oe) :: pn)) nd hy (.inl hl) (pe_xf T hno hz hf (pe_var (X := X.suite a ((a, oe) :: pn)) hj (.inl hn) g1 g2) (hb0 _)) rfl (.inr hl))) ck, ?_⟩
    intro c D F0 H0 F H sl cs fs fv dx σ ex R e dn o hlen
    refine ⟨_, ex (k, hVal i j f) List.mem_cons_self, fun hb a ha => ?_, fun hb => ?_⟩
    · have ck : c = k := by
        simp only [subC, Bool.or_eq_true, decide_eq_true_eq] at hb
        exact hb.resolve_right k0
      subst ck
      simp only [catchF, hb, if_true, hVal] at o
      cases q : fs.lookup f with
      | none => rw [q] at o; exact o.elim
      | some d =>
        rw [q] at o
        obtain ⟨v, ev, dv⟩ := dn.lookup q
        have jl : j < σ.length := by rw [hlen]; exact (List.getElem?_eq_some_iff.mp hj).1
        refine ⟨.ref a, by simp only [clS]; rw [List.getElem?_set_self jl], rfl, rfl, dx, fv, v, rfl, e, ev, ?_⟩
        dsimp only at o
        split at o
        · rename_i il
          have R1 := R.unset (j := j) (x := some (.ref a))
          have R2 := R1.set (i := i) (v := v) (sv := .dat d) (by simpa using il) ⟨v, rfl, dv⟩ (fun c h => by cases h)
          exact o _ F _ (R2.unset (j := j) (x := none))
        · exact o.elim
    · simp only [catchF, hb, Bool.false_eq_true, if_false] at o
      exact sem c D F0 H0 F H sl cs fs fv dx σ (fun p hp => ex p (List.mem_cons_of_mem _ hp)) R e dn o hlen
theorem ds_try {known : List Nat} {body : List Stmt} {hd : ExceptHandler} {hds : List ExceptHandler} {hs : List Cla} {m : FS} {pos : Pos} (hst : X.stack = X.env :: X.outer) (hf : X.env.frame = some X.env.locals) (nd : X.N.Nodup)
    (tk : Takes X W) (ex : ∀ c ∈ known, ∀ p ∈ hs, PySem.W.exmOne X.K (.ref (He.ga X.K (clsNm c))) (.ref (He.ga X.K (clsNm p.1))) = some (subC c p.1))
    (hb : ∀ (W' : WX) (pn : List (Addr × Obj)) (xe : Value → Shared → Prop), Takes (X.tr pn xe) W' → PassesOwn (model X.prog X.w) X.A X.env xe → DSs (X.tr pn xe) W' body m) (h : HdOk X (hd :: hds) hs) :
    DS X W (.Try body (hd :: hds) [] [] pos) (dTry known hs m) := by
  obtain ⟨l, ck, sem⟩ := hd_ok (W := W) nd h
  refine PS.imp (ps_try_cl (tb := fun Wx D σ H => rdS X.K Wx m D σ H) hst hf nd tk (fun Wx pn xe tkx own => hb Wx pn xe tkx own) ck) ?_
  rintro D σ H ⟨F0, H0, F, sl, cs, R, o⟩
  refine ⟨F0, H0, F, sl, cs, R, ?_⟩
  unfold dTry at o
  cases e : m sl cs with
  | exc c fs sl' cs' =>
    rw [e] at o
    dsimp only at o
    split at o
    · rename_i hc
      intro σ' F' H' dx fv R' e2 d hlen
      exact sem c D F0 H0 F' H' sl' cs' fs fv dx σ' (ex c hc) R' e2 d o hlen
    · exact o.elim
  | nx sl' cs' => rw [e] at o; exact o
  | rt r cs' => rw [e] at o; exact o
  | bk sl' cs' => rw [e] at o; exact o
  | ct sl' cs' => rw [e] at o; exact o
  | bad => rw [e] at o; exact o
end
end SL

/-! St: a lambda of one parameter, handed to a def that calls it. -/
namespace SL
open PySem PySem.Spec PyProof.Rows L2 LamX
/-- what making a lambda does to what is known: at P the table, at c' its code -/
structure Made (H H1 : Hp) (P : Addr) (q : Str) (ps : Array Value) (c' : Addr) : Prop where
  tab : ∃ ps' : Array Value, H1 P = some (.tbl ps') ∧ TriplesOk ps'.toList ∧ ∀ (p : Pos) (cv : Value), codeAmong p ps'.toList = some cv → codeAmong p ps.toList = some cv ∨ cv = .ref c'
  oth : ∀ b, b ≠ P → b ≠ c' → H1 b = H b
  at_ : H1 c' = some (CodeO c' q)
  new : H c' = none ∨ ∃ p, codeAmong p ps.toList = some (.ref c')
/-- the scope of such a lambda: y its parameter -/
structure LamY (sc scope : Scope) (y : Str) : Prop where
  kind : scope.kind = .function
  co : scope.isCoroutine = false
  gen : scope.isGenerator = false
  par : scope.names.lookup y = some .local
  loc : ∀ z ∈ scope.names, z.2 = .local → z.1 = y
  cel : ∀ z ∈ scope.names, z.2 ≠ .cell
  free : ∀ z ∈ scope.names, z.2 = .free → sc.names.lookup z.1 = some .cell ∨ sc.names.lookup z.1 = some .free
def lamYB (sc scope : Scope) (y : Str) : Bool := (decide (scope.kind = .function) && (!scope.isCoroutine && !scope.isGenerator)) && (decide (scope.names.lookup y = some .local) &&
  scope.names.all fun z => (!decide (z.2 = .local) || decide (z.1 = y)) && (!decide (z.2 = .cell) && (!decide (z.2 = .free) || (decide (sc.names.lookup z.1 = some .cell) || decide (sc.names.lookup z.1 = some .free)))))
theorem lamY_by {sc scope : Scope} {y : Str} (h : lamYB sc scope y = true) : LamY sc scope y := by
  unfold lamYB at h
  simp only [Bool.and_eq_true, Bool.or_eq_true, Bool.not_eq_true', decide_eq_true_eq, decide_eq_false_iff_not, List.all_eq_true] at h
  obtain ⟨⟨a, b, c⟩, d, e⟩ := h
  exact ⟨a, b, c, d, fun z hz l => (e z hz).1.resolve_left (fun n => n l), fun z hz => (e z hz).2.1, fun z hz f => (e z hz).2.2.resolve_left (fun n => n f)⟩
section
variable {X : Cx} {pins : List (Addr × Obj)} {σ : L2.St} {H HZ : Hp} {s s1 : Shared}
theorem LamY.cells {scope : Scope} {y : Str} (L : LamY X.env.scope scope y) (ok : X.Ok) : ∀ z ∈ scope.names, z.2 = .free → ∃ c, X.env.cells.lookup z.1 = some c := by
  intro z hz e
  exact ok.has _ (L.free z hz e)
/-- the lambda is made -/
theorem lam_made {c P : Addr} {params : Arguments} {body : Expr} {scope : Scope} {pos : Pos} {q : Str} {ps : Array Value} {E Q : Value → Shared → Prop} (I : Inv X pins σ H s) (TB : TabB X.base X.mg c P) (code : X.env.code = .ref c) (eq : q = X.env.qual ++ "<lambda>")
    (hP : H P = some (.tbl ps)) (tr : TriplesOk ps.toList) (known : ∀ (p : Pos) (cv : Value), codeAmong p ps.toList = some cv → ∃ a, cv = .ref a ∧ H a = some (CodeO a q)) (dfl : defaultsOf params X.env = ([], []))
    (fr : ∀ z ∈ scope.names, z.2 = .free → ∃ c, X.env.cells.lookup z.1 = some c)
    (h : ∀ (f c' : Addr) (pm ctv : Value) (H1 : Hp) (s' : Shared), Inv X pins σ H1 s' → Made H H1 P q ps c' →
      s'.heap.get? f = some (PySem.W.kla_obj "<lambda>" q params body scope (cloFrom X.env.cells scope.names []) pm c' ctv) → H1 f = none → f ∉ frs X.stack → Q (.ref f) s') :
    wpAny (model X.prog X.w) X.A (eval (.Lambda params body scope pos) X.env) Q E s := by
  subst eq
  apply PySem.W.kla_eval dfl
  have bm : s.heap.BuiltinsAt X.mg P := TB.bm.keeps I.bk
  have atP : s.heap.get? P = some { cls := .none, data := .fields ps } := I.hok P _ hP
  have young : ∀ f, s.heap.objs.size ≤ f → f ∉ frs X.stack := by
    intro f hf z
    cases List.mem_cons.mp (I.stkSub _ z) with
    | inl e => exact absurd (e ▸ I.lt) (Nat.not_lt.mpr hf)
    | inr e => exact I.nofs hf e
  cases found : codeAmong pos ps.toList with
  | some cv =>
    obtain ⟨c', rfl, hc'⟩ := known pos cv found
    refine PySem.W.kla_makeFunctionHit (mg := X.mg) (c := c) (P := P) (ps := ps) (closure_ok fr) I.ok.glob (I.mod.glob.keeps I.bk) code (TB.code.keeps I.bk) atP tr found bm ?_
    intro ctv h' tk hx hsz
    have J := I.kept (t' := tk) (h' := h'.push (PySem.W.kla_obj "<lambda>" (X.env.qual ++ "<lambda>") params body scope (cloFrom X.env.cells scope.names []) ((X.mg "__name__").getD .none) c' ctv)) fun b o e => Heap.get?_push_of_some _ (hx b o e)
    exact h _ c' _ ctv H _ J ⟨⟨ps, hP, tr, fun _ _ z => .inl z⟩, fun _ _ _ => rfl, hc', .inr ⟨pos, found⟩⟩ (Heap.get?_push_size _ rfl) (I.hok.fresh hsz) (young _ hsz)
  | none =>
    refine PySem.W.kla_makeFunction (mg := X.mg) (c := c) (P := P) (ps := ps) (closure_ok fr) I.ok.glob (I.mod.glob.keeps I.bk) code (TB.code.keeps I.bk) atP tr found TB.gP bm ?_
    intro c' ctv h' tk hx ge lt rec_ tb
    obtain ⟨c2, oc, vs, t, e2, hoc, hd, hv⟩ := rec_
    cases e2
    have sz : s.heap.objs.size ≤ h'.objs.size := Nat.le_trans ge (Nat.le_of_lt lt)
    have free' : H c' = none := I.hok.fresh ge
    have neP : P ≠ c' := fun z => by rw [z, free'] at hP; cases hP
    have J := inv_table (t' := tk) (more := #[rawInt pos.line, rawInt pos.col, .ref c']) (h' := h'.push (PySem.W.kla_obj "<lambda>" (X.env.qual ++ "<lambda>") params body scope (cloFrom X.env.cells scope.names []) ((X.mg "__name__").getD .none) c' ctv)) I hP
      (fun b o hb e => Heap.get?_push_of_some _ (hx b o hb e)) (Heap.get?_push_of_some _ tb) ge ⟨oc, vs, t, Heap.get?_push_of_some _ hoc, hd, hv⟩
    have el : (ps ++ #[rawInt pos.line, rawInt pos.col, .ref c']).toList = ps.toList ++ [rawInt pos.line, rawInt pos.col, .ref c'] := by simp
    refine h h'.objs.size c' _ ctv _ _ J ⟨⟨ps ++ #[rawInt pos.line, rawInt pos.col, .ref c'], by rw [upd_ne neP, upd_same], ?_, ?_⟩, fun b b1 b2 => by rw [upd_ne b2, upd_ne b1], upd_same, .inl free'⟩ (Heap.get?_push_size _ rfl) ?_ (young _ sz)
    · rw [el]; exact PySem.TriplesOk_snoc _ _ _ _ tr
    · intro p cv hcv
      rw [el] at hcv
      have z := among_app _ tr hcv
      exact z
    · rw [upd_ne (Nat.ne_of_gt lt), upd_ne (Nat.ne_of_gt (Nat.lt_of_lt_of_le (Heap.lt_size atP) sz))]
      exact I.hok.fresh sz
/-- its body begins -/
theorem lam_begin {A : Around} {outer : List Env} {E : XK} {scope : Scope} {y : Str} {f c' : Addr} {h₁ : Heap} {tk : Nat} {m : Str → Option Value} (I : Inv X pins σ H s) (L : LamY X.env.scope scope y) (ny : y ∉ X.N) (e0 : Env0 X.prog X.w X.K X.mg X.base A outer s1 HZ) (hd : A.handled = none)
    (un : Un (frs X.stack) [] H HZ s.heap s1.heap) (hns : h₁.Ns s1.heap.objs.size m) (kp : ∀ b o, s1.heap.get? b = some o → h₁.get? b = some o) :
    Inv (lamCx X A outer s1 HZ E scope f c') [] σ HZ { s1 with heap := h₁, toks := tk } := by
  have fr := L.cells I.ok
  have up : ∀ {z c}, (cloFrom X.env.cells scope.names []).lookup z = some c → X.env.cells.lookup z = some c := by
    intro z c e
    cases cloFrom_mem (PySem.mem_of_lookup e) with
    | inl hm => cases hm
    | inr hm =>
      obtain ⟨c1, hc1⟩ := fr _ hm.1 rfl
      have hc2 : X.env.cells.lookup z = some c1 := hc1
      have : c = c1 := by rw [hm.2, hc2]; rfl
      rw [this]; exact hc2
  have down : ∀ {z}, scope.names.lookup z = some .free → ∃ c, (cloFrom X.env.cells scope.names []).lookup z = some c := by
    intro z e
    exact mem_lookup (cloFrom_has (cells := X.env.cells) (acc := []) (PySem.mem_of_lookup e))
  have still : ∀ {c : Addr} {v : Option Value}, H c = none → s.heap.IsCell c v → h₁.IsCell c v := by
    intro c v n ho
    obtain ⟨o, ho, hv⟩ := ho
    obtain ⟨sl, e⟩ := un.any ho n (by simp)
    exact ⟨_, kp _ _ e, hv⟩
  have notCell : ∀ {z}, scope.names.lookup z ≠ some .cell := fun {z} e => L.cel _ (PySem.mem_of_lookup e) rfl
  have okX : (lamCx X A outer s1 HZ E scope f c').Ok := by
    refine ⟨e0.mod, L.kind, rfl, rfl, Nat.le_refl _, fun y z c a b => I.ok.inj y z c (up a) (up b), ?_, fun y c z _ => ?_, fun _ => hd, Around.frames_deeper e0.frames, .inr ⟨rfl, rfl⟩, fun b z => ?_, e0.bs, e0.bsz, fun b _ _ z => ?_, fun b z => ?_, e0.funs, e0.frf⟩
    · intro z hz
      have hz : scope.names.lookup z = some .cell ∨ scope.names.lookup z = some .free := hz
      exact hz.elim (fun k => absurd k notCell) down
    · have z : false = true := z
      cases z
    · have z : b ∈ ([] : List Addr) := z
      cases z
    · have z : b ∈ ([] : List Addr) := z
      cases z
    · have z : b ∈ ([] : List Addr) := z
      cases z
  refine ⟨okX, rfl, e0.bare, Un.kept kp, ⟨_, hns, ?_⟩, ?_, e0.hok.fresh (Nat.le_refl _), ?_, ?_, e0.hok.kept kp, I.len⟩
  · intro i z v e1 e2 e3
    have e3 : scope.names.lookup z = some .local ∨ scope.names.lookup z = some .cell ∨ scope.names.lookup z = some .free := e3
    have hfree : scope.names.lookup z = some .free := by
      rcases e3 with k | k | k
      · have : z = y := L.loc _ (PySem.mem_of_lookup k) rfl
        exact absurd (this ▸ List.mem_of_getElem? (show X.N[i]? = some z from e1)) ny
      · exact absurd k notCell
      · exact k
    obtain ⟨mm, hn, hl⟩ := I.loc
    have up2 := L.free _ (PySem.mem_of_lookup hfree) rfl
    obtain ⟨u, r, lk⟩ := hl i z v e1 e2 (.inr up2)
    obtain ⟨c2, h2⟩ := down hfree
    refine ⟨u, r, .inr ⟨.inr hfree, c2, h2, ?_⟩⟩
    have h3 := up h2
    rcases lk with ⟨k', _⟩ | ⟨_, c3, e', cel⟩
    · have k' : X.env.scope.names.lookup z = some .local := k'
      rcases up2 with k2 | k2 <;> (rw [show X.env.scope.names.lookup z = _ from k2] at k'; cases k')
    · rw [h3] at e'
      cases e'
      exact still (I.freeC z _ h3) cel
  · intro z c e
    obtain ⟨w', k⟩ := I.cell z c (up e)
    exact ⟨w', still (I.freeC z c (up e)) k⟩
  · intro z c e
    obtain ⟨v, o, ho, hv⟩ := I.cell z c (up e)
    exact un.free c o ho (I.freeC z c (up e)) (by simp)
  · intro p hp
    have hp : p ∈ ([] : List (Addr × Obj)) ++ [] := hp
    simp at hp
/-- a(v), in the def that got the lambda -/
theorem pe_callL {CXg : CXT} {Eg : XK} {Ng : List Str} {qg : Str} {sg : Scope} {g f c' : Addr} {cdg pm ctv : Value} {params : Arguments} {body arg : Expr} {scope : Scope} {k i : Nat} {a y : Str} {pn : List (Addr × Obj)} {xe : Value → Shared → Prop} {W : WX} {E : XK} {tb : TE} {p1 p2 : Pos} {va : V}
    (I : Inv X pins σ H s) (L : LamY X.env.scope scope y) (ny : y ∉ X.N) (hf : s.heap.get? f = some (PySem.W.kla_obj "<lambda>" (X.env.qual ++ "<lambda>") params body scope (cloFrom X.env.cells scope.names []) pm c' ctv)) (hfn : H f = none) (hfr : f ∉ frs X.stack)
    (bind : ∀ u, bindArgs (PySem.W.kla_fn "<lambda>" (X.env.qual ++ "<lambda>") params body scope (cloFrom X.env.cells scope.names []) pm (.ref c') ctv) ⟨[u], []⟩ = pure [(y, u)])
    (tk : Takes ((cxOf CXg X.prog X.w X.K X.mg X.base Ng qg sg g cdg X.A X.stack s H Eg).tr pn xe) W) (hW : ∀ cls d σ' H', E cls d H' → W cls d σ' H') (hr : Room (k + 1) (X.A.deeper (envOfC qg sg s.heap.objs.size g cdg)))
    (ha : PE ((cxOf CXg X.prog X.w X.K X.mg X.base Ng qg sg g cdg X.A X.stack s H Eg).tr pn xe) arg (fun _ HZ Q => Q va HZ))
    (hbody : ∀ (A : Around) (outer : List Env) (s : Shared) (H : Hp), A.guards = X.A.guards → Room k (A.deeper (lamEnv X scope s.heap.objs.size f c')) → PE (lamCx X A outer s H E scope f c') body tb)
    (hN : Ng[i]? = some a) (hv : Vis sg a) (hd : (a == ("__debug__" : Str)) = false := by decide) (hcd : (a == ("__classdict__" : Str)) = false := by decide)
    (h1 : starEach [arg] ((cxOf CXg X.prog X.w X.K X.mg X.base Ng qg sg g cdg X.A X.stack s H Eg).tr pn xe).env = (false, eval arg ((cxOf CXg X.prog X.w X.K X.mg X.base Ng qg sg g cdg X.A X.stack s H Eg).tr pn xe).env) :: starEach [] ((cxOf CXg X.prog X.w X.K X.mg X.base Ng qg sg g cdg X.A X.stack s H Eg).tr pn xe).env := by rfl) :
    PE ((cxOf CXg X.prog X.w X.K X.mg X.base Ng qg sg g cdg X.A X.stack s H Eg).tr pn xe) (.Call (.Name a p1) [arg] [] p2)
      (fun σZ HZ Q => σZ[i]? = some (some (.ref f)) ∧ HZ c' = some (CodeO c' (X.env.qual ++ "<lambda>")) ∧ tb σ HZ Q) := by
  constructor
  rintro pinsZ sZ σZ HZ Q IZ ⟨hs, hc, ht⟩
  refine wpAny_Call_Name_kw (thn ((pe_var (pos := p1) (i := i) hN hv hd hcd).run pinsZ sZ σZ HZ (fun v H1 => v = .ref f ∧ H1 = HZ) IZ ⟨.ref f, hs, rfl, rfl⟩) ?_)
  rintro u s1 ⟨v, H1, I1, r1, rfl, rfl⟩
  obtain rfl : u = Value.ref f := r1
  have there : ∀ {t : Shared} {H' : Hp}, Inv ((cxOf CXg X.prog X.w X.K X.mg X.base Ng qg sg g cdg X.A X.stack s H Eg).tr pn xe) pinsZ σZ H' t → t.heap.get? f = some (PySem.W.kla_obj "<lambda>" (X.env.qual ++ "<lambda>") params body scope (cloFrom X.env.cells scope.names []) pm c' ctv) := by
    intro t H' J
    exact J.base.keep f _ hf hfn hfr (fun z => nomatch (show f ∈ ([] : List Addr) from z))
  refine PySem.W.callWith_F ⟨_, _, _, _, there I1⟩ ?_ h1 rfl
  rw [h1]
  refine Calls.spliced_cons (thn (ha.run pinsZ s1 σZ H1 (fun v H2 => v = va ∧ H2 = H1) I1 ⟨rfl, rfl⟩) ?_)
  rintro u s2 ⟨v, H2, I2, _, _, rfl⟩
  refine Calls.spliced_nil ⟨⟨_, _, _, _, there I2⟩, ?_⟩
  have un : Un (frs X.stack) [] H H2 s.heap s2.heap := I2.base
  obtain ⟨⟨oc, vs, t, hoc, hdc, hvc⟩, _, _⟩ := I2.hok c' _ hc
  have run : codeAny (model X.prog X.w) (X.A.deeper (envOfC qg sg s.heap.objs.size g cdg)) (.call (.ref f) ⟨[u], []⟩) (CR (L2.CX X.prog X.w) (envOfC qg sg s.heap.objs.size g cdg :: X.stack) X.prog X.w H2 s2 Q E) s2 := by
    refine PySem.W.kla_callFunE hr.depth (there I2) rfl L.co L.gen rfl ⟨c', oc, vs, t, rfl, hoc, hdc, hvc⟩ ?_
    rw [bind u]
    refine wpAny_pure (wpAny_newFunctionEnv (fun z hz => L.cel z hz) (fun z hz => ?_) (fun h₁ hns hsb => ⟨I2.nolimit.fresh _ hsb, ?_⟩) L.kind)
    · obtain rfl : z = (y, u) := List.mem_singleton.mp hz
      exact L.par
    show codeAny _ _ (.expr body (lamEnv X scope s2.heap.objs.size f c')) _ _
    have kp : ∀ b o, s2.heap.get? b = some o → h₁.get? b = some o := fun b o e => hsb.extBut b o (Nat.ne_of_lt (Heap.lt_size e)) (Heap.get?_push_of_some _ e)
    have J : Inv (lamCx X (X.A.deeper (envOfC qg sg s.heap.objs.size g cdg)) (envOfC qg sg s.heap.objs.size g cdg :: X.stack) s2 H2 E scope f c') [] σ H2 { s2 with heap := h₁, toks := s2.toks + [(y, u)].length } :=
      lam_begin I L ny I2.env0 hr.hd un hns kp
    refine PySem.W.kla_codeExpr (wpAny_mono ((hbody (X.A.deeper (envOfC qg sg s.heap.objs.size g cdg)) _ s2 H2 rfl (hr.deeper _)).run [] _ _ H2 Q J ht) ?_ fun _ _ z => z)
    rintro v s' ⟨w', H', J', rv, q⟩
    exact ⟨w', H', J'.os, J'.bare, J'.base, J'.hok, rv, q⟩
  have out : Passes (L2.CX X.prog X.w) ((cxOf CXg X.prog X.w X.K X.mg X.base Ng qg sg g cdg X.A X.stack s H Eg).tr pn xe) E := passes_call tk hW
  refine wpAny_call (codeAny_mono run ?_)
  intro r s' hq
  match r, hq with
  | .error e, hq => exact out pinsZ σZ H2 s2 e s' I2 hq
  | .ok (.ret u), hq => exact I2.after hq
  | .ok .next, hq => exact hq.elim
  | .ok .brk, hq => exact hq.elim
  | .ok .cont, hq => exact hq.elim
end
end SL

/-! Su: the law's def that calls a lambda and writes what came of it. -/
namespace SL
open PySem PySem.Spec PyProof.Rows L2 LamX
/-- behind the try: slot i is returned -/
def retD (i : Nat) (Q : VK) : Ends := { nx := fun σ H => ∃ v, σ[i]? = some (some v) ∧ Q v H, rt := Q, bk := fun _ _ => False, ct := fun _ _ => False }
structure Poss where
  (p1 p2 p3 p4 p5 p6 p7 p8 p9 q1 q2 q3 q4 q5 q6 q7 q8 : Pos)
/-- found = [other]; try: found = [told, a(0)][:1] / except ..; return found -/
abbrev caughtB (a fnd other told : Str) (P : Poss) (hds : List ExceptHandler) : List Stmt :=
  [.Assign [.Name fnd P.p1] (.List [.Constant (.str other) 0 P.p2] P.p3) P.p4,
   .Try [.Assign [.Name fnd P.p5] (.Subscript (.List [.Constant (.str told) 0 P.p6, .Call (.Name a P.p7) [.Constant (.int 0) 0 P.p8] [] P.p9] P.q1) (.Slice none (some (.Constant (.int 1) 0 P.q2)) none P.q3) P.q4) P.q5] hds [] [] P.q6,
   .Return (some (.Name fnd P.q7)) P.q8]
/-- what the lambda's reading is asked for -/
def TTc (K : PySem.W.Frag) (told other : Str) (l : List Cl) (tl : XK → Hp → VK → Prop) (H : Hp) (Q : VK) : Prop :=
  ∃ Ech : XK, (∀ cls d H', Ech cls d H' → ∀ σ : L2.St, σ.length = 3 → wCl K (fun _ _ _ _ => False) (retD 1 Q) l cls d σ H') ∧
    ∀ p, H p = none → tl Ech (upd H p (.lst [.str other])) fun v H' => ∀ p1, H' p1 = none → ∀ p2, upd H' p1 (.lst [.str told, v]) p2 = none → Q (.ref p2) (upd (upd H' p1 (.lst [.str told, v])) p2 (.lst [.str told]))
section
variable {X : Cx}
theorem caught_gives {a fnd n other told q x : Str} {sg : Scope} {g f c' : Addr} {cdg : Value} {P : Poss} {hd : ExceptHandler} {hds : List ExceptHandler} {l : List Cl} {s : Shared} {H : Hp} {Q : VK} {tl : XK → Hp → VK → Prop}
    (nd : [a, fnd, n].Nodup) (va : Vis sg a) (lf : sg.names.lookup fnd = some .local) (a1 : (a == ("__debug__" : Str)) = false) (a2 : (a == ("__classdict__" : Str)) = false) (f1 : (fnd == ("__debug__" : Str)) = false) (f2 : (fnd == ("__classdict__" : Str)) = false)
    (act : ∀ (W : WX) (pn : List (Addr × Obj)) (xe : Value → Shared → Prop) (E : XK) (p1 p2 p3 : Pos), Takes ((cxOf C8.CX0 X.prog X.w X.K X.mg X.base [a, fnd, n] x sg g cdg X.A X.stack s H C8.E0).tr pn xe) W → (∀ cls d σ' H', E cls d H' → W cls d σ' H') →
      PE ((cxOf C8.CX0 X.prog X.w X.K X.mg X.base [a, fnd, n] x sg g cdg X.A X.stack s H C8.E0).tr pn xe) (.Call (.Name a p1) [.Constant (.int 0) 0 p3] [] p2) (fun σZ HZ Q => σZ[0]? = some (some (.ref f)) ∧ HZ c' = some (CodeO c' q) ∧ tl E HZ Q))
    (ck : ClOk (cxOf C8.CX0 X.prog X.w X.K X.mg X.base [a, fnd, n] x sg g cdg X.A X.stack s H C8.E0).nox (hd :: hds) l)
    (mono : ∀ E H Q Q', (∀ v H', Q v H' → Q' v H') → tl E H Q → tl E H Q') (hc : H c' = some (CodeO c' q)) (h : TTc X.K told other l tl H Q) :
    ∃ t, PSs (cxOf C8.CX0 X.prog X.w X.K X.mg X.base [a, fnd, n] x sg g cdg X.A X.stack s H C8.E0).nox (caughtB a fnd other told P (hd :: hds)) t ∧ t { nx := fun _ H' => Q .non H', rt := Q } (L2.start [a, fnd, n] [.ref f]) H := by
  obtain ⟨Ech, hE, hT⟩ := h
  refine ⟨_, pss_cons (ps_set (i := 1) nd rfl (.inl lf) (pe_lst (pa_cons pe_str pa_nil)) rfl (.inr lf)) (pss_cons (ps_try_cl (X := (cxOf C8.CX0 X.prog X.w X.K X.mg X.base [a, fnd, n] x sg g cdg X.A X.stack s H C8.E0).nox)
    (tb := fun W D σ H => ∃ Ech : XK, (∀ cls d σ' H', Ech cls d H' → W cls d σ' H') ∧ σ[0]? = some (some (.ref f)) ∧ H c' = some (CodeO c' q) ∧ tl Ech H fun v H' => ∀ p1, H' p1 = none → ∀ p2, upd H' p1 (.lst [.str told, v]) p2 = none → D.nx (σ.set 1 (some (.ref p2))) (upd (upd H' p1 (.lst [.str told, v])) p2 (.lst [.str told])))
    rfl rfl nd LamX.takes0 (fun W pn xe tk _ => ?_) ck) (pss_one (ps_ret (pe_var (i := 1) rfl (.inl lf) f1 f2)))), ?_⟩
  · refine ⟨fun pins s' σ H' D I hh => ?_⟩
    obtain ⟨E2, hW, h1, h2, h3⟩ := hh
    have hp := act W pn xe E2 P.p7 P.p9 P.p8 tk hW
    have st := pss_one (ps_set (X := (cxOf C8.CX0 X.prog X.w X.K X.mg X.base [a, fnd, n] x sg g cdg X.A X.stack s H C8.E0).tr pn xe) (pos := P.q5) (pos' := P.p5) (i := 1) (x := fnd) nd rfl (.inl lf)
      (pe_slice (p2 := P.q3) (pos := P.q4) sl_list (pe_lst (pos := P.q1) (pa_cons (pe_str (pos := P.p6) (x := told) (j := 0)) (pa_cons hp pa_nil))) po_none (po_some (pe_int (i := 1) (j := 0) (pos := P.q2)))) rfl (.inr lf))
    refine st.run pins s' σ H' D I ⟨h1, h2, mono _ _ _ _ (fun v H2 k => ?_) h3⟩
    refine ⟨by rw [sizeLine_eq]; exact Nat.le_of_ble_eq_true rfl, fun p1 hp1 => ⟨1, rfl, p1, [.str told, v], rfl, SqL.of upd_same, fun p2 hp2 => ?_⟩⟩
    exact k p1 hp1 p2 hp2
  · refine ⟨by rw [sizeLine_eq]; exact Nat.le_of_ble_eq_true rfl, fun p hp => ⟨Ech, ?_, rfl, ?_, mono _ _ _ _ (fun v H2 k p1 hp1 p2 hp2 => ⟨_, rfl, k p1 hp1 p2 hp2⟩) (hT p hp)⟩⟩
    · intro cls d σ' H' hh hl
      exact hE cls d H' hh σ' hl
    · have ne : c' ≠ p := fun z => by rw [z, hp] at hc; cases hc
      rw [upd_ne ne]; exact hc
end
/-- the list in slot 1, returned -/
def retC : Flw → Res (RV × List CO)
  | .nx s2 c2 => match (s2[1]? : Option SV) with
    | some (.own c0) => .ok (.new c0, c2)
    | _ => .bad
  | _ => .bad
theorem app_ne (a : Str) : a ++ ("<lambda>" : Str) ≠ ("" : Str) := fun h => by
  have z : (a ++ ("<lambda>" : Str)).cps.size = 0 := by rw [h]; rfl
  have y : (a ++ ("<lambda>" : Str)).cps.size = a.cps.size + ("<lambda>" : Str).cps.size := Array.size_append
  have x : ("<lambda>" : Str).cps.size = 8 := by decide +kernel
  omega
/-- a(lambda y: body), a's def as above: t is the table's cell -/
def dCaught (t : Nat) (P : Addr) (q : Str) (known : List Nat) (told : Str) (hs : List Cla) (fE : FE) : FE := fun sl cs => match cs[t]? with
  | some (.tab P' q') => if P' = P ∧ q' = q then match fE sl cs with
      | .ok (_, c1) => .ok (.new (.lst [.str told]), c1)
      | .exc c fs c1 => if c ∈ known then retC (catchF c fs hs [.un, .un, .un] c1) else .bad
      | .bad => .bad
    else .bad
  | _ => .bad
section
variable {K : PySem.W.Frag} {F : Fz} {H H1 : Hp} {cs : List CO}
theorem made_step {t : Nat} {P c' : Addr} {q : Str} {ps : Array Value} (w : Wok F H cs) (ht : F.μ[t]? = some P) (hc : cs[t]? = some (.tab P q)) (md : Made H H1 P q ps c')
    (known : ∀ (p : Pos) (cv : Value), codeAmong p ps.toList = some cv → ∃ a, cv = .ref a ∧ F a = some (CodeO a q)) : ∃ F1, Nx F H F1 H1 ∧ Wok F1 H1 cs := by
  have Pm : P ∈ F.μ := List.mem_of_getElem? ht
  have FP : F P = none := (w.there Pm).1
  have fc : F c' = none ∧ H c' = none ∨ F c' = some (CodeO c' q) := by
    rcases md.new with h | ⟨p, h⟩
    · refine .inl ⟨?_, h⟩
      cases e : F c' with
      | none => rfl
      | some o => rw [w.ex _ _ e] at h; cases h
    · obtain ⟨a, e, k⟩ := known p _ h
      cases e; exact .inr k
  have sub : Ex F (⟨fun b => if b = c' then some (CodeO c' q) else F b, F.μ⟩ : Fz) := ⟨fun b o e => by
    by_cases hb : b = c'
    · subst hb
      rcases fc with ⟨h, _⟩ | h
      · rw [h] at e; cases e
      · rw [h] at e; cases e; exact if_pos rfl
    · exact (if_neg hb).trans e, [], by simp⟩
  refine ⟨⟨fun b => if b = c' then some (CodeO c' q) else F b, F.μ⟩, ⟨sub, fun _ h => .inl h, fun b o e => ?_, fun b o e hb => ?_⟩, ⟨fun b o e => ?_, w.len, w.nd, fun i p c e1 e2 => ?_⟩⟩
  · by_cases hb : b = c'
    · subst hb
      rcases fc with ⟨_, h⟩ | h
      · exact .inr h
      · have e := (if_pos rfl).symm.trans (show (if b = b then some (CodeO b q) else F b) = some o from e); cases e; exact .inl h
    · have e := (if_neg hb).symm.trans (show (if b = c' then some (CodeO c' q) else F b) = some o from e); exact .inl e
  · have b1 : b ≠ P := fun z => hb (z ▸ Pm)
    by_cases b2 : b = c'
    · subst b2
      rcases fc with ⟨_, h⟩ | h
      · rw [h] at e; cases e
      · rw [w.ex _ _ h] at e; cases e; exact md.at_
    · rw [md.oth b b1 b2]; exact e
  · by_cases b2 : b = c'
    · subst b2; have e := (if_pos rfl).symm.trans (show (if b = b then some (CodeO b q) else F b) = some o from e); cases e; exact md.at_
    · have e := (if_neg b2).symm.trans (show (if b = c' then some (CodeO c' q) else F b) = some o from e)
      have b1 : b ≠ P := fun z => by subst z; rw [FP] at e; cases e
      rw [md.oth b b1 b2]; exact w.ex _ _ e
  · obtain ⟨h1, o, h2, h3⟩ := w.at_ i p c e1 e2
    have pc : p ≠ c' := by
      intro z; subst z
      rcases fc with ⟨_, h⟩ | h
      · rw [h] at h2; cases h2
      · rw [h] at h1; cases h1
    refine ⟨(if_neg pc).trans h1, ?_⟩
    by_cases pP : p = P
    · subst pP
      obtain rfl := w.nd i t p e1 ht
      rw [hc] at e2; cases e2
      obtain ⟨ps', a1, a2, a3⟩ := md.tab
      refine ⟨_, a1, .inr ⟨q, ps', rfl, rfl, a2, .inr fun p0 cv z => ?_⟩⟩
      rcases a3 p0 cv z with z | z
      · obtain ⟨a, b1, b2⟩ := known p0 cv z
        exact ⟨a, b1, sub _ _ b2⟩
      · exact ⟨c', z, if_pos rfl⟩
    · exact ⟨o, by rw [md.oth p pP pc]; exact h2, h3.mono sub⟩
end
/-- a wish that does not look at the slots -/
abbrev ofX (E : XK) : WX := fun v d _ H => E v d H
/-- nothing is known of any slot -/
theorem rel_un {K : PySem.W.Frag} {F0 F : Fz} {H0 H : Hp} {cs : List CO} {σ : L2.St} (w : Wok F H cs) (n : Nx F0 H0 F H) (hl : σ.length = 3) : Rel K F0 H0 F H [.un, .un, .un] cs σ := by
  refine ⟨w, n, hl, fun i sv e => ?_, fun i j c d p e => ?_⟩
  · match i, e with
    | 0, e => cases e; trivial
    | 1, e => cases e; trivial
    | 2, e => cases e; trivial
  · match i, e with
    | 0, e => cases e
    | 1, e => cases e
    | 2, e => cases e
section
variable {X : Cx} {W : WX}
theorem de_caught {t k : Nat} {P c g : Addr} {a fnd n other told x y : Str} {sg scope : Scope} {pg params : Arguments} {Po : Poss} {hd : ExceptHandler} {hds : List ExceptHandler} {fd : FuncData} {body : Expr} {known : List Nat} {hs : List Cla} {fE : FE} {p lpos pos : Pos}
    (hg : Gl X x) (hm : X.mg x = some (.ref g)) (FD : FunD X.K x x pg (caughtB a fnd other told Po (hd :: hds)) sg [] [] g fd) (bd : L2.Binds X.K fd [a] []) (S : FnScope [a, fnd, n] [a] sg) (va : Vis sg a) (lf : sg.names.lookup fnd = some .local)
    (a1 : (a == ("__debug__" : Str)) = false) (a2 : (a == ("__classdict__" : Str)) = false) (f1 : (fnd == ("__debug__" : Str)) = false) (f2 : (fnd == ("__classdict__" : Str)) = false)
    (ck : ∀ (cdv : Value) (s : Shared) (H : Hp), HdOk (cxOf C8.CX0 X.prog X.w X.K X.mg X.base [a, fnd, n] x sg g cdv X.A X.stack s H C8.E0).nox (hd :: hds) hs)
    (ex : ∀ c ∈ known, ∀ p ∈ hs, PySem.W.exmOne X.K (.ref (He.ga X.K (clsNm c))) (.ref (He.ga X.K (clsNm p.1))) = some (subC c p.1))
    (TB : TabB X.base X.mg c P) (code : X.env.code = .ref c) (hr : Room (k + 2) X.A) (L : LamY X.env.scope scope y) (ny : y ∉ X.N) (dfl : defaultsOf params X.env = ([], []))
    (bind : ∀ (q : Str) (cl : List (Str × Addr)) (pm cv ctv u : Value), bindArgs (PySem.W.kla_fn "<lambda>" q params body scope cl pm cv ctv) ⟨[u], []⟩ = pure [(y, u)])
    (hbody : ∀ (A : Around) (outer : List Env) (s : Shared) (H : Hp) (E : XK) (f c' : Addr), A.guards = X.A.guards → Room k (A.deeper (lamEnv X scope s.heap.objs.size f c')) → DE (lamCx X A outer s H E scope f c') (ofX E) body fE)
    (hdb : (x == ("__debug__" : Str)) = false := by decide) :
    DE X W (.Call (.Name x p) [.Lambda params body scope lpos] [] pos) (dCaught t P (X.env.qual ++ "<lambda>") known told hs fE) := by
  constructor
  rintro pins s σ H Q I ⟨F0, H0, F, sl, cs, R, o⟩
  unfold dCaught at o
  split at o
  · rename_i P' q' ec
    split at o
    · rename_i hPq
      obtain ⟨rfl, rfl⟩ := hPq
      obtain ⟨ti, tl⟩ : ∃ h : t < F.μ.length, F.μ[t]? = some F.μ[t] := ⟨by rw [R.w.len]; exact (List.getElem?_eq_some_iff.mp ec).1, List.getElem?_eq_getElem _⟩
      generalize F.μ[t] = p0 at tl
      obtain ⟨Fp, ob, hob, ct⟩ := R.w.at_ t p0 _ tl ec
      rcases ct with ct | ⟨q1, ps, e1, e2, tr, kn⟩
      · cases ob <;> exact ct.elim
      cases e1
      subst e2
      have kn := kn.resolve_left (app_ne _)
      refine wpAny_Call_Name_kw (ld_glob I hg hm ?_ hdb)
      refine PySem.W.callWith_K (h₀ := X.base) I.ok.mod.kin FD.kp ?_ (by rfl) (by rfl)
      show wpAny _ _ (spliced ((false, eval (.Lambda params body scope lpos) X.env) :: backTo pos (starEach [] X.env))) _ _ s
      refine Calls.spliced_cons (lam_made I TB code rfl hob tr (fun p cv z => ?_) dfl (L.cells I.ok) fun f c' pm ctv H1 s' I1 md hf hfn hfr => ?_)
      · obtain ⟨a, e1, e2⟩ := kn p cv z
        exact ⟨a, e1, R.w.ex _ _ e2⟩
      refine Calls.spliced_nil ⟨I1.kIn, ?_⟩
      obtain ⟨F1, n1, w1⟩ := made_step R.w tl ec md kn
      have R1 := R.step n1 w1
      obtain ⟨oc, od, dV, kV, doc, pmg, an, cdv, ctg, osl, e0, lk, cdI, _, _⟩ := FD.ex
      subst e0
      have nd3 : [a, fnd, n].Nodup := S.nd
      obtain ⟨l, ckl, sem⟩ := hd_ok (W := W0) (X := (cxOf C8.CX0 X.prog X.w X.K X.mg X.base [a, fnd, n] x sg g cdv X.A X.stack s' H1 C8.E0).nox) nd3 (ck cdv s' H1)
      have rc : codeAny (model X.prog X.w) X.A (.call (.ref g) ⟨[.ref f], []⟩) (CR C8.CX0 X.stack X.prog X.w H1 s' Q C8.E0) s' := by
        refine run_ofS (N := [a, fnd, n]) (ps := [a]) (us := [.ref f]) (vs := [.ref f]) lk cdI S hr I1.env0 (bd s' [.ref f] I1.kIn rfl) (.cons rfl .nil) rfl fun hr' => ?_
        have mn : ∀ (E : XK) (H' : Hp) (Q1 Q2 : VK), (∀ v H2, Q1 v H2 → Q2 v H2) → rdE X.K (ofX E) fE σ H' Q1 → rdE X.K (ofX E) fE σ H' Q2 := by
          intro E H' Q1 Q2 h q
          obtain ⟨F0, H0, F, sl, cs, R, o⟩ := q
          refine ⟨F0, H0, F, sl, cs, R, ?_⟩
          cases e : fE sl cs with
          | ok z => rw [e] at o; exact fun v F' H' n w k fv => h _ _ (o v F' H' n w k fv)
          | exc c fs c1 => rw [e] at o; exact o
          | bad => rw [e] at o; exact o
        have tt : TTc X.K told other l (fun E H' Q' => rdE X.K (ofX E) fE σ H' Q') H1 Q := by
          refine ⟨fun cls d H' => ∀ σ : L2.St, σ.length = 3 → wCl X.K (fun _ _ _ _ => False) (retD 1 Q) l cls d σ H', fun _ _ _ z => z, fun p hp => ?_⟩
          obtain ⟨w2, n2⟩ := Wok.laid R1.w (p := p) (o := .lst [.str other]) hp
          have n12 := n1.trans w1 n2
          refine ⟨F0, H0, F1, sl, cs, R1.step n2 w2, ?_⟩
          cases e : fE sl cs with
          | bad => rw [e] at o; exact o
          | ok z =>
            obtain ⟨r, c1⟩ := z
            rw [e] at o
            intro v F' H' n w k fv p1 hp1 p2 hp2
            obtain ⟨w3, n3⟩ := Wok.laid w (p := p1) (o := .lst [.str told, v]) hp1
            have o1 := OutE.back (OutE.back (OutE.back o n12 w2) n w) n3 w3
            exact Aft.new (cs := c1) (c := .lst [.str told]) o1 w3 hp2 (.cons (.str told) .nil)
          | exc cc fs c1 =>
            rw [e] at o
            dsimp only at o
            split at o
            · rename_i hk
              intro F' H' dx fv n w hdx hfs σ' hl
              refine sem cc (retD 1 Q) F1 (upd H1 p (.lst [.str other])) F' H' [.un, .un, .un] c1 fs fv dx σ' (ex cc hk) (rel_un w n hl) hdx hfs ?_ hl
              show OutS X.K W0 F1 _ (retD 1 Q) (catchF cc fs hs [.un, .un, .un] c1)
              unfold retC at o
              split at o
              · rename_i s2 c2 ecf
                rw [ecf]
                split at o
                · rename_i c0 es
                  intro σ2 F2 H2 R2
                  obtain ⟨p5, hv, h0, lv⟩ := R2.at_ 1 _ es
                  exact ⟨_, hv, (OutE.back o n12 w2) _ F2 H2 R2.fr.nx R2.w ⟨p5, rfl, lv⟩ (fun z e => by cases e; exact h0)⟩
                · exact o.elim
              · exact o.elim
            · exact o.elim
        have cg := caught_gives (P := Po) (other := other) (told := told) (Q := Q) (tl := fun E H' Q' => rdE X.K (ofX E) fE σ H' Q') (l := l) nd3 va lf a1 a2 f1 f2 (fun W pn xe E p1 p2 p3 tk hW => pe_callL (va := .int 0) (i := 0) I1 L ny hf hfn hfr (bind _ _ _ _ _) tk hW hr' pe_int (fun A outer s H gd hr2 => hbody A outer s H E f c' gd hr2) rfl va a1 a2) ckl mn md.at_ tt
        exact cg.elim fun t z => ⟨t, z.1.nox, z.2⟩
      refine wpAny_call (codeAny_mono rc ?_)
      intro r s2 hq
      match r, hq with
      | .error e, hq => exact (show False from hq).elim
      | .ok (.ret u), hq => exact I1.after hq
      | .ok .next, hq => exact hq.elim
      | .ok .brk, hq => exact hq.elim
      | .ok .cont, hq => exact hq.elim
    · exact o.elim
  · exact o.elim
end
end SL

/-! Sy: repr of a dict of flat things. -/
namespace SL
open PySem L2
def keyPy : Key → PyData
  | .inl i => .int i
  | .inr x => .str x
def flatPy : D → Option PyData
  | .non => some .none
  | .bl b => some (.bool b)
  | .int i => some (.int i)
  | .str x => some (.str x)
  | _ => none
def kvPy : List (Key × D) → Option (List (PyData × PyData))
  | [] => some []
  | (k, d) :: r => match flatPy d, kvPy r with
    | some p, some ps => some ((keyPy k, p) :: ps)
    | _, _ => none
theorem flat_reads {F : Fz} {h : Heap} {v : V} {d : D} {u : Value} {p : PyData} (dn : Den F v d) (e : flatPy d = some p) (r : RelV v u) : Reads h u p [] := by
  cases dn with
  | non => cases e; cases r; exact .none
  | bl b => cases e; cases r; exact .bool b
  | int i => cases e; obtain ⟨t, rfl⟩ := r; exact .int i t
  | str x => cases e; obtain ⟨t, rfl⟩ := r; exact .str x t
  | _ => cases e
theorem key_reads {h : Heap} {k : Key} {u : Value} (e : keyIs k u = true) : Reads h u (keyPy k) [] := by
  rcases keyIs_shape e with ⟨i, t, rfl, rfl⟩ | ⟨x, t, rfl, rfl⟩
  · exact .int i t
  · exact .str x t
theorem kv_reads {P : Program} {w : World} {F : Fz} (hh : Heap) : ∀ {ds : List (Key × D)} {kvs : List (Key × V)} {vs : List (Key × Value)} {es : List DictEntry} {ps : List (PyData × PyData)}, DenKv F kvs ds → KV kvs vs → Pairs (mixKind P w) es vs → kvPy ds = some ps →
    ReadsAll hh (es.map (·.key)) (ps.map (·.1)) [] ∧ ReadsAll hh (es.map (·.val)) (ps.map (·.2)) []
  | [], _, _, _, _, dn, kv, pr, e => by
    cases dn; cases kv; cases pr; cases e
    exact ⟨.nil, .nil⟩
  | (k, d) :: ds, _, _, _, _, dn, kv, pr, e => by
    cases dn with
    | cons h t =>
      cases kv with
      | cons r1 r2 =>
        cases pr with
        | cons a b c =>
          obtain ⟨rk, rv⟩ := r1
          unfold kvPy at e
          cases e1 : flatPy d with
          | none => rw [e1] at e; cases e
          | some p =>
            cases e2 : kvPy ds with
            | none => rw [e1, e2] at e; cases e
            | some ps =>
              rw [e1, e2] at e
              cases e
              obtain ⟨x1, x2⟩ := kv_reads hh t r2 c e2
              refine ⟨?_, ?_⟩
              · have y : Reads hh _ (keyPy k) [] := key_reads (by rw [← rk] at a; exact a)
                exact .cons y x1
              · have y := flat_reads (h := hh) h e1 rv
                rw [← b] at y
                exact .cons y x2
def reprDOk (ps : List (PyData × PyData)) : Bool := PyData.showable (.dict ps) && (decide (PyData.depth (.dict ps) ≤ 60) && decide ((PyData.shown (.dict ps)).length ≤ sizeLine))
/-- repr of data, of a flat dict too -/
def gReprD : GN := fun as => match as with
  | [.dct ds] => match kvPy ds with
    | some ps => if reprDOk ps then some (.dat (.str (PyData.shown (.dict ps)))) else none
    | none => none
  | _ => gRepr as
theorem c_reprD {X : Cx} (hu : X.A.units + 64 < cLine) (hg : X.A.guards = some []) : CallD X (.builtin "repr") gReprD := by
  intro pins s σ H vs us Q I rv h
  obtain ⟨F, cs, as, r, w, va, e, k⟩ := h
  unfold gReprD at e
  split at e
  · rename_i ds
    cases ep : kvPy ds with
    | none => rw [ep] at e; cases e
    | some ps =>
      rw [ep] at e
      dsimp only at e
      split at e
      · rename_i ok
        cases e
        obtain ⟨v, rfl, a⟩ := va.one
        obtain ⟨u, rfl, ru⟩ := vals1 rv
        obtain ⟨p, kvs, rfl, hp, dn⟩ := a.dct w.ex
        obtain rfl : u = Value.ref p := ru
        have oo := I.hok p _ hp
        obtain ⟨hl, hsm, vs, kv, o, es, epx, ho, ex, hd, kf, pr, nd⟩ := oo
        obtain ⟨x1, x2⟩ := kv_reads s.heap dn kv pr ep
        have q := Bool.and_eq_true_iff.mp ok
        have q2 := Bool.and_eq_true_iff.mp q.2
        have hsz : (PyData.shown (.dict ps)).length ≤ sizeLine := of_decide_eq_true q2.2
        have hdp : PyData.depth (.dict ps) ≤ 60 := of_decide_eq_true q2.1
        have rd : Reads s.heap (.ref p) (.dict ps) (p :: [] ++ []) := .dict ho ex.1 hd x1 x2
        refine repr_of_reads' rd q.1 (fun _ hm => ?_) hg (by omega) (fun _ _ z => z) (fun h' u tk hk => ⟨.str _, H, I.kept hk, ⟨_, rfl⟩, k.str w⟩) hsz
        simp only [List.append_nil, List.mem_singleton] at hm
        rw [← hm] at hsm
        simp at hsm
      · cases e
  · exact c_repr hu hg pins s σ H vs us Q I rv ⟨F, cs, as, r, w, va, e, k⟩
end SL

/-! Sza: the end of a law whose defs hold tables of code objects. -/
namespace SL
open PySem L2 PySem.Spec PyProof.Rows LamX
/-- a code object, its table, the name that the table's entries bear -/
abbrev Tb : Type := Addr × Addr × Str
def tbCs (T : List Tb) : List CO := T.map fun p => .tab p.2.1 p.2.2
def emptyT : Obj := { cls := .none, data := .fields #[] }
section
variable {P : Program} {w : World} {K : PySem.W.Frag} {mg mb : Str → Option Value} {k : Nat} {fa a : Addr} {fd : FuncData} {x : Str} {φ : Phi} {s1 : Shared} {us : List Value} {ns : List Int} {T : List Tb}
/-- what is laid at the law's entry -/
structure LaidT (K : PySem.W.Frag) (P : Program) (w : World) (T : List Tb) (a : Addr) (ns : List Int) (s1 : Shared) (H : Hp) : Prop where
  tab : ∀ p ∈ T, H p.2.1 = some (.tbl #[])
  scr : SqL K H a (ns.map V.int)
  hok : HOk P w H s1.heap
  only : ∀ b o, H b = some o → (b ∈ T.map (·.2.1) ∧ o = .tbl #[]) ∨ (b = a ∧ K.lookup a = none ∧ ∃ ob xs, o = .frz ob (.lst xs))
theorem laid_T (here : s1.heap.get? a = some { cls := .type "list", data := .seq us.toArray }) (hin : PyProof.Rows.IntsAre us ns) (few : ns.length ≤ sizeLine) (inK : K.In s1.heap)
    (hT : ∀ p ∈ T, s1.heap.get? p.2.1 = some emptyT) : ∃ H, LaidT K P w T a ns s1 H := by
  have rel := vals_ints hin
  have len := hin.length
  have at_ : ∀ b, b ∈ T.map (·.2.1) → s1.heap.get? b = some emptyT := by
    intro b hb
    obtain ⟨p, hp, rfl⟩ := List.mem_map.mp hb
    exact hT p hp
  have aT : a ∉ T.map (·.2.1) := by
    intro z
    have e := at_ a z
    rw [here] at e
    cases e
  cases lk : K.lookup a with
  | some o =>
    have same := inK a o lk
    rw [here] at same
    cases same
    refine ⟨fun b => if b ∈ T.map (·.2.1) then some (.tbl #[]) else none, fun p hp => if_pos (List.mem_map.mpr ⟨p, hp, rfl⟩), Or.inr ⟨_, us.toArray, _, lk, rfl, rfl, rfl, ?_, ?_⟩, ?_, ?_⟩
    · simpa [len] using few
    · simpa using rel
    · intro b o z
      by_cases hb : b ∈ T.map (·.2.1)
      · have z := (if_pos hb).symm.trans z
        cases z
        exact at_ b hb
      · have z := (if_neg hb).symm.trans z
        cases z
    · intro b o z
      by_cases hb : b ∈ T.map (·.2.1)
      · have z := (if_pos hb).symm.trans z
        cases z
        exact .inl ⟨hb, rfl⟩
      · have z := (if_neg hb).symm.trans z
        cases z
  | none =>
    refine ⟨fun b => if b ∈ T.map (·.2.1) then some (.tbl #[]) else if b = a then some (.frz { cls := .type "list", data := .seq us.toArray } (.lst (ns.map V.int))) else none, fun p hp => if_pos (List.mem_map.mpr ⟨p, hp, rfl⟩), Or.inl (Or.inr ⟨_, (if_neg aT).trans (if_pos rfl)⟩), ?_, ?_⟩
    · intro b o z
      by_cases hb : b ∈ T.map (·.2.1)
      · have z := (if_pos hb).symm.trans z
        cases z
        exact at_ b hb
      · have z := (if_neg hb).symm.trans z
        by_cases hc : b = a
        · have z := (if_pos hc).symm.trans z
          cases z; subst hc
          exact ⟨here, by simpa using few, us, _, rel, here⟩
        · have z := (if_neg hc).symm.trans z
          cases z
    · intro b o z
      by_cases hb : b ∈ T.map (·.2.1)
      · have z := (if_pos hb).symm.trans z
        cases z
        exact .inl ⟨hb, rfl⟩
      · have z := (if_neg hb).symm.trans z
        by_cases hc : b = a
        · have z := (if_pos hc).symm.trans z
          cases z
          exact .inr ⟨hc, lk, _, _, rfl⟩
        · have z := (if_neg hc).symm.trans z
          cases z
theorem law_callT
    (inK : K.In s1.heap) (nsG : s1.heap.Ns mainGlobals mg) (nsB : s1.heap.Ns builtinsNs mb) (bb : ∀ y : Str, y ≠ "__name__" → mb y = bootBuiltins y) (nol : s1.heap.NoLimit) (g0 : s1.gens = #[])
    (hT : ∀ p ∈ T, s1.heap.get? p.2.1 = some emptyT) (nT : ∀ p ∈ T, K.lookup p.2.1 = none) (hC : ∀ p ∈ T, PySem.W.CodeHd s1.heap p.1 p.2.1) (nd : (T.map (·.2.1)).Nodup)
    (main : ∃ (bm : Addr) (ob : Obj), mg "__builtins__" = some (.ref bm) ∧ bm ≠ builtinsNs ∧ s1.heap.get? bm = some ob ∧ ob.cls = .type "module" ∧ ob.dict = some builtinsNs ∧ ob.data = .plain)
    (here : s1.heap.get? a = some { cls := .type "list", data := .seq us.toArray }) (hin : PyProof.Rows.IntsAre us ns) (few : ns.length ≤ sizeLine) (room : Room k callerA)
    (FK : ∀ base : Heap, K.In base → base.Ns mainGlobals mg → (∀ p ∈ T, TabB base mg p.1 p.2.1) → FnG P w K mg base k fa fd [x] (spF K φ)) (bind : ∀ (s : Shared) (u : Value), BindsTo s fd ⟨[u], []⟩ [(x, u)])
    (told : ∃ cs, φ [.scr ns] (tbCs T) = .ok (.dat (.bl true), cs)) :
    codeAny (model P w) callerA (.call (.ref fa) ⟨[.ref a], []⟩) (fun r s' => r = .ok (.ret (.bool true)) ∧ OldK s1.heap s'.heap ∧ s'.os = s1.os ∧ PyProof.Rows.AllBare s'.gens) s1 := by
  obtain ⟨cs0, told⟩ := told
  obtain ⟨H, L⟩ := laid_T (P := P) (w := w) (T := T) here hin few inK hT
  have clean : ∀ {c : Addr} {o : Obj}, s1.heap.get? c = some o → (∀ vs n, o.data ≠ .seq vs n) → o.data ≠ .fields #[] → H c = none := by
    intro c o z h1 h2
    cases q : H c with
    | none => rfl
    | some u =>
      rcases L.only c u q with ⟨hc, _⟩ | ⟨rfl, _⟩
      · obtain ⟨p, hp, rfl⟩ := List.mem_map.mp hc
        rw [hT p hp] at z
        cases z
        exact absurd rfl h2
      · rw [here] at z
        cases z
        exact absurd rfl (h1 _ _)
  have lay : ∀ {c : Addr} {o : Obj}, s1.heap.get? c = some o → H c = none → (hidT s1.heap H).get? c = some o := fun z n => hidT_get z n
  have nsH : ∀ {c : Addr} {m : Str → Option Value}, s1.heap.Ns c m → (hidT s1.heap H).Ns c m := by
    rintro c m ⟨o, es, ep, z1, z2, z3⟩
    exact ⟨o, es, ep, lay z1 (clean z1 (fun _ _ z => by rw [z2] at z; cases z) (fun z => by rw [z2] at z; cases z)), z2, z3⟩
  have inB : K.In (hidT s1.heap H) := by
    intro c o z
    apply lay (inK c o z)
    cases q : H c with
    | none => rfl
    | some u =>
      rcases L.only c u q with ⟨hc, _⟩ | ⟨rfl, n, _⟩
      · obtain ⟨p, hp, rfl⟩ := List.mem_map.mp hc
        rw [nT p hp] at z; cases z
      · rw [n] at z; cases z
  have md : Mod K mg (hidT s1.heap H) := by
    obtain ⟨mc, y1, y2⟩ := nol
    exact ⟨inB, nsH nsG, ⟨mb, nsH nsB, bb⟩, mc, nsH y1, y2⟩
  have env : Env0 P w K mg (hidT s1.heap H) callerA [] s1 H :=
    { frames := rfl, mod := md, bs := fun _ _ z => of_hidT z, bsz := Nat.le_of_eq (hidT_size _ _), funs := trivial, frf := (fun b hb => nomatch (show b ∈ ([] : List Addr) from hb)), hok := L.hok, bare := .of_eq g0 }
  have tb : ∀ p ∈ T, TabB (hidT s1.heap H) mg p.1 p.2.1 := by
    intro p hp
    refine ⟨?_, ?_, ?_⟩
    · obtain ⟨o, vs, f1, f2, f3, f4, f5, f6, f7, e1, r1, r2, r3, r4⟩ := hC p hp
      refine ⟨o, vs, f1, f2, f3, f4, f5, f6, f7, lay e1 (clean e1 (fun _ _ z => by rw [r2] at z; cases z) (fun z => ?_)), r1, r2, r3, r4⟩
      rw [r2] at z
      cases z
      simp at r3
    · obtain ⟨bm, ob, b1, b2, b3, b4, b5, b6⟩ := main
      refine ⟨bm, ob, b1, b2, ?_, ?_, lay b3 (clean b3 (fun _ _ z => by rw [b6] at z; cases z) (fun z => by rw [b6] at z; cases z)), b4, b5, b6⟩
      · intro q
        obtain ⟨o, es, ep, e, hd, _⟩ := nsG
        rw [q, e] at b3
        cases b3
        rw [hd] at b6; cases b6
      · intro q
        rw [q, hT p hp] at b3
        cases b3
        cases b6
    · intro z
      obtain ⟨o, es, ep, e, hd, _⟩ := nsG
      rw [z, hT p hp] at e
      cases e
      cases hd
  have prom : spF K φ [.ref a] H (fun v _ => v = .bl true) fun _ _ _ => False := by
    have aT : a ∉ T.map (·.2.1) := by
      intro z
      obtain ⟨p, hp, e⟩ := List.mem_map.mp z
      have y := hT p hp
      rw [e, here] at y
      cases y
    have Fa : ∀ b, b ∉ T.map (·.2.1) → (fun b => if b ∈ T.map (·.2.1) then none else H b) b = H b := fun b hb => if_neg hb
    refine ⟨⟨fun b => if b ∈ T.map (·.2.1) then none else H b, T.map (·.2.1)⟩, tbCs T, [.scr ns], ⟨fun b o e => ?_, by simp [tbCs], fun i j p e1 e2 => ?_, fun i p c e1 e2 => ?_⟩, .cons ⟨a, rfl, ?_⟩ .nil, ?_⟩
    · have e : (if b ∈ T.map (·.2.1) then none else H b) = some o := e
      by_cases hb : b ∈ T.map (·.2.1)
      · rw [if_pos hb] at e; cases e
      · rw [if_neg hb] at e; exact e
    · have e1 : (T.map (·.2.1))[i]? = some p := e1
      have hi := (List.getElem?_eq_some_iff.mp e1).1
      exact (List.getElem?_inj hi nd).mp (e1.trans e2.symm)
    · unfold tbCs at e2
      have e1 : (T.map (·.2.1))[i]? = some p := e1
      rw [List.getElem?_map] at e1 e2
      cases q : T[i]? with
      | none => rw [q] at e1; cases e1
      | some t =>
        rw [q] at e1 e2
        cases e1; cases e2
        have tm := List.mem_of_getElem? q
        refine ⟨if_pos (List.mem_map.mpr ⟨t, tm, rfl⟩), .tbl #[], L.tab t tm, .inr ⟨_, #[], rfl, rfl, trivial, .inr fun pos cv z => ?_⟩⟩
        have z : codeAmong pos [] = some cv := z
        simp [codeAmong] at z
    · rcases L.scr with (z | ⟨o, z⟩) | z
      · exact .inl (.inl ((Fa a aT).trans z))
      · exact .inl (.inr ⟨o, (Fa a aT).trans z⟩)
      · exact .inr z
    · rw [told]
      intro v F' H' _ _ kv _
      have kv' : Den F' v (.bl true) := kv
      cases kv'; rfl
  refine codeAny_mono ((FK _ inB (nsH nsG) tb).go callerA [] s1 H ⟨[.ref a], []⟩ [.ref a] [.ref a] _ _ rfl room rfl env (bind s1 (.ref a)) (.cons rfl .nil) prom) ?_
  intro r s' out
  match r, out with
  | .error e, z => obtain ⟨_, _, _, _, _, _, _, _, _, _, _, _, z⟩ := z; exact z.elim
  | .ok .next, z => exact False.elim z
  | .ok .brk, z => exact False.elim z
  | .ok .cont, z => exact False.elim z
  | .ok (.ret u), ⟨v, H', os, bare, un, ok', rv, q⟩ =>
    have q' : v = .bl true := q
    subst q'
    have eu : u = Value.bool true := rv
    subst eu
    have same : ∀ b o, b ∉ T.map (·.2.1) → s1.heap.get? b = some o → s'.heap.get? b = some o := by
      intro b o nb z
      cases y : H b with
      | none => exact un.keep b o z y (fun h => by cases h) (fun h => by cases h)
      | some t =>
        rcases L.only b t y with ⟨hb, _⟩ | ⟨rfl, _, ob, xs, rfl⟩
        · exact absurd hb nb
        · have z1 := (L.hok b _ y).1
          have z2 := (ok' b _ (un.frzs b ob _ y)).1
          rw [z] at z1; cases z1
          exact z2
    have grown : ∀ p ∈ T, ∃ more : Array Value, s'.heap.get? p.2.1 = some { cls := .none, data := .fields more } := by
      intro p hp
      obtain ⟨more, z⟩ := un.tbls p.2.1 #[] (L.tab p hp)
      exact ⟨_, ok' p.2.1 _ z⟩
    refine ⟨rfl, ⟨fun b o e => ?_, fun b o e => ?_⟩, os, bare⟩
    · by_cases hb : b ∈ T.map (·.2.1)
      · obtain ⟨p, hp, rfl⟩ := List.mem_map.mp hb
        obtain ⟨more, hm⟩ := grown p hp
        rw [hT p hp] at e
        cases e
        exact .inr (.inl ⟨((hC p hp).tab (hT p hp)).isCodeTable, rfl, #[], more, rfl, by rw [Array.empty_append]; exact hm⟩)
      · exact .inl (same b o hb e)
    · by_cases hb : b ∈ T.map (·.2.1)
      · obtain ⟨p, hp, rfl⟩ := List.mem_map.mp hb
        obtain ⟨more, hm⟩ := grown p hp
        exact ⟨_, hm⟩
      · exact ⟨o, same b o hb e⟩
end
theorem walk_T {l : PySem.W.OpenLaw} {n k : Nat} {q : Program} {loose : List Str} {XP : (Str → Option Value) → Heap → Prop} {YP : World → Heap → Prop} {d : DefRec} {x : Str}
    (hn : l.most = some n) (hn2 : n ≤ sizeLine) (hdf : d.params.defaults = []) (room : Room k callerA)
    (FK : ∀ (w : World) (mg : Str → Option Value) (fa : Addr) (h : Heap), YP w h → h.Ns mainGlobals mg → mg d.name = some (.ref fa) →
      ∃ (K : PySem.W.Frag) (fd : FuncData) (φ : Phi) (T : List Tb), K.In h ∧ (∀ p ∈ T, h.get? p.2.1 = some emptyT) ∧ (∀ p ∈ T, K.lookup p.2.1 = none) ∧ (∀ p ∈ T, PySem.W.CodeHd h p.1 p.2.1) ∧ (T.map (·.2.1)).Nodup ∧
        (∀ (s : Shared) (u : Value), BindsTo s fd ⟨[u], []⟩ [(x, u)]) ∧ (∀ ns : List Int, ns.length ≤ n → ∃ cs, φ [.scr ns] (tbCs T) = .ok (.dat (.bl true), cs)) ∧
        ∀ base : Heap, K.In base → base.Ns mainGlobals mg → (∀ p ∈ T, TabB base mg p.1 p.2.1) → FnG l.prog w K mg base k fa fd [x] (spF K φ)) :
    PySem.W.WalkO q loose XP YP l.row.toRowW d [] (fun f vs => PySem.call f vs) := by
  apply Att.attach_call hn hdf
  intro w s0 s1 mg mb fa o pm cd doc a us ns G Y _ _ _ hmg here hin hlen g0
  obtain ⟨K, fd, φ, T, inK, hT, nT, hC, nd, bind, told, FK⟩ := FK w mg fa _ Y G.T.g hmg
  exact law_callT inK G.T.g G.T.b G.T.builtins G.T.nolimit g0 hT nT hC nd G.T.bmain here hin (Nat.le_trans hlen hn2) room FK bind (told ns hlen)
end SL

/-! Szb: what is known of the program's error classes, as a Bool. -/
namespace SL
open PySem L2 PySem.W PySem.OEX
def clsB (K : Frag) (C : Addr) : Bool := match K.lookup C with
  | some ⟨.type t, _, .cls cd, sl⟩ => decide (t = "type") && (match cd.mro, sl.toList with
    | .ref C' :: bm, [_, _, _, _, some (.builtin n), _] => decide (C' = C) && (decide (n = "ValueError.__new__") && (!cd.hasDel && (cd.hasDict && PySem.HandSPX.refsVE bm)))
    | _, _ => false)
  | _ => false
def oexB (K : Frag) (C : Addr) : Bool := clsB K C && (decide (findIn K (.ref C) "__setattr__" = some (some (.builtin "object.__setattr__"))) && (decide (subIn K (.ref C) (.type "BaseException") = some true) && (decide (typeIn K (.ref C) = some (.type "type")) && keepIn K (.ref C))))
theorem oexB_ok {K : Frag} {C : Addr} (h : oexB K C = true) : OexC K C := by
  obtain ⟨h1, h⟩ := Bool.and_eq_true_iff.mp h
  obtain ⟨h2, h⟩ := Bool.and_eq_true_iff.mp h
  obtain ⟨h3, h⟩ := Bool.and_eq_true_iff.mp h
  obtain ⟨h4, h5⟩ := Bool.and_eq_true_iff.mp h
  refine ⟨?_, of_decide_eq_true h2, of_decide_eq_true h3, of_decide_eq_true h4, h5⟩
  unfold clsB at h1
  split at h1
  · rename_i t dd cd sl lk
    obtain ⟨a, b⟩ := Bool.and_eq_true_iff.mp h1
    have ta := of_decide_eq_true a
    subst ta
    split at b
    · rename_i C' bm k0 k1 k2 k3 n k5 hm hs
      obtain ⟨b1, b⟩ := Bool.and_eq_true_iff.mp b
      obtain ⟨b2, b⟩ := Bool.and_eq_true_iff.mp b
      obtain ⟨b3, b⟩ := Bool.and_eq_true_iff.mp b
      obtain ⟨b4, b5⟩ := Bool.and_eq_true_iff.mp b
      have e1 := of_decide_eq_true b1
      have e2 := of_decide_eq_true b2
      subst e1; subst e2
      obtain ⟨nm, bs, mro, ns, qn, hd, sn, sub, ab, col, del⟩ := cd
      dsimp only at hm b3 b4
      subst hm
      have b3 : del = false := by simpa using b3
      subst b3
      subst b4
      obtain ⟨l⟩ := sl
      have hs : l = [k0, k1, k2, k3, some (.builtin "ValueError.__new__"), k5] := hs
      subst hs
      exact ⟨nm, qn, ns, bs, bm, sn, sub, ab, col, dd, k0, k1, k2, k3, k5, lk, b5⟩
    · cases b
  · cases h1
def fcB (K : Frag) (C0 : Addr) : Bool := match findCls K (.ref C0) (.type "type") "__init__" with
  | some (.val (.builtin s)) => decide (s = "ValueError.__init__")
  | _ => false
theorem fcB_ok {K : Frag} {C0 : Addr} (h : fcB K C0 = true) : findCls K (.ref C0) (.type "type") "__init__" = some (.val (.builtin "ValueError.__init__")) := by
  unfold fcB at h
  split at h
  · rename_i s e
    rw [e, of_decide_eq_true h]
  · cases h
def kniB (K : Frag) (C0 : Addr) : Bool := decide (specialIn K (.ref C0) "__getattribute__" = some (some (.builtin "type.__getattribute__"))) && (decide (typeIn K (.ref C0) = some (.type "type")) && (readsIn K C0 (.type "type") && fcB K C0))
theorem kniB_ok {K : Frag} {C0 : Addr} (h : kniB K C0 = true) : Kni K C0 := by
  obtain ⟨h1, h⟩ := Bool.and_eq_true_iff.mp h
  obtain ⟨h2, h⟩ := Bool.and_eq_true_iff.mp h
  obtain ⟨h3, h4⟩ := Bool.and_eq_true_iff.mp h
  exact ⟨of_decide_eq_true h1, of_decide_eq_true h2, h3, fcB_ok h4⟩
/-- an error class c with the one field f -/
def errB (K : Frag) (c : Nat) (f : Str) : Bool := oexB K (He.ga K (clsNm c)) && (decide (findIn K (.ref (He.ga K (clsNm c))) "__init__" = some (some (.ref (He.ma K (He.ga K (clsNm c)) "__init__")))) && (decide (typeIn K (.ref (He.ma K (He.ga K (clsNm c)) "__init__")) = some (.type "function")) && (decide (findIn K (.ref (He.ga K (clsNm c))) f = some none) && xfB K (He.ga K (clsNm c)))))
theorem errB_ok {P : Program} {w : World} {K : Frag} {mg : Str → Option Value} {base : Heap} {c : Nat} {f : Str} (h : errB K c f = true) (gl : mg (clsNm c) = some (.ref (He.ga K (clsNm c))))
    (ok : ∃ fd ps, FnOk P w K mg base (L2.CX P w) 1 (He.ma K (He.ga K (clsNm c)) "__init__") fd ps (spI K (He.ga K (clsNm c)) f) ∧ Binds K fd ps []) : Err1 P w K mg base c f := by
  obtain ⟨h1, h⟩ := Bool.and_eq_true_iff.mp h
  obtain ⟨h2, h⟩ := Bool.and_eq_true_iff.mp h
  obtain ⟨h3, h⟩ := Bool.and_eq_true_iff.mp h
  obtain ⟨h4, h5⟩ := Bool.and_eq_true_iff.mp h
  exact ⟨oexB_ok h1, of_decide_eq_true h2, of_decide_eq_true h3, of_decide_eq_true h4, gl, ok⟩
theorem errB_xf {K : Frag} {c : Nat} {f : Str} (h : errB K c f = true) : XfC K (He.ga K (clsNm c)) := by
  obtain ⟨_, h⟩ := Bool.and_eq_true_iff.mp h
  obtain ⟨_, h⟩ := Bool.and_eq_true_iff.mp h
  obtain ⟨_, h⟩ := Bool.and_eq_true_iff.mp h
  exact xfB_ok (Bool.and_eq_true_iff.mp h).2
/-- which of the errors a clause takes -/
def exmB (K : Frag) (cs ks : List Nat) : Bool := cs.all fun c => ks.all fun k => decide (exmOne K (.ref (He.ga K (clsNm c))) (.ref (He.ga K (clsNm k))) = some (subC c k))
theorem exmB_ok {K : Frag} {cs ks : List Nat} (h : exmB K cs ks = true) {c k : Nat} (hc : c ∈ cs) (hk : k ∈ ks) : exmOne K (.ref (He.ga K (clsNm c))) (.ref (He.ga K (clsNm k))) = some (subC c k) :=
  of_decide_eq_true (List.all_eq_true.mp (List.all_eq_true.mp h c hc) k hk)
end SL

/-! Szc: more built-ins: sum, tuple, dict. -/
namespace SL
open PySem L2
def intsOf : List D → Option (List Int)
  | [] => some []
  | .int i :: r => (intsOf r).map (i :: ·)
  | _ :: _ => none
def gSum : GN := fun as => match as with
  | [.lst ds] => (intsOf ds).map fun ns => .dat (.int ns.sum)
  | _ => none
def gTuple : GN := fun as => match as with
  | [.lst ds] => some (.dat (.tup ds))
  | [.tup ds] => some (.dat (.tup ds))
  | _ => none
theorem DenAll.ints {F : Fz} : ∀ {ds : List D} {vs : List V} {ns : List Int}, DenAll F vs ds → intsOf ds = some ns → vs = ns.map V.int
  | [], _, _, h, e => by cases h; cases e; rfl
  | d :: ds, _, ns, h, e => by
    cases h with
    | cons h t =>
      cases d with
      | int i =>
        unfold intsOf at e
        cases q : intsOf ds with
        | none => rw [q] at e; cases e
        | some l =>
          rw [q] at e; cases e
          cases h
          rw [DenAll.ints t q]; rfl
      | _ => cases e
section
variable {X : Cx}
theorem c_sum (hc : X.calm = true) : CallD X (.builtin "sum") gSum := CallR.imp (cr_sum hc) fun vs H Q ⟨F, cs, as, r, w, va, e, k⟩ => by
  unfold gSum at e
  split at e
  · rename_i ds
    cases q : intsOf ds with
    | none => rw [q] at e; cases e
    | some ns =>
      rw [q] at e; cases e
      obtain ⟨v, rfl, a⟩ := va.one
      obtain ⟨p, xs, rfl, hp, d⟩ := a.lst w.ex
      refine ⟨p, ns, rfl, ?_, k.int w⟩
      rw [← d.ints q]
      exact SqL.of hp
  · cases e
theorem c_tuple : CallD X (.type "tuple") gTuple := CallR.imp call_tuple_of fun vs H Q ⟨F, cs, as, r, w, va, e, k⟩ => by
  unfold gTuple at e
  split at e
  · cases e
    obtain ⟨v, rfl, a⟩ := va.one
    obtain ⟨p, xs, rfl, hp, d⟩ := a.lst w.ex
    refine ⟨p, xs, rfl, .inl ⟨SqL.of hp, fun l hl => ?_⟩⟩
    have nf : F l = none := by
      cases z : F l with
      | none => rfl
      | some u => rw [w.ex _ _ z] at hl; cases hl
    exact k.tup w hl (.tup up_same (d.mono (.up nf)))
  · cases e
    obtain ⟨v, rfl, a⟩ := va.one
    rcases a with a | ⟨q, o, c, rfl, h1, h2, e2⟩
    · cases a with
      | tup h d => exact ⟨_, _, rfl, .inr ⟨SqT.of (w.ex _ _ h), k.dat w (.tup h d)⟩⟩
    · cases c <;> cases e2
  · cases e
end
end SL

/-! Szd: a written dict of the module: text keys, tuples of ints and texts. -/
namespace SL
open PySem L2
abbrev Row : Type := List (Str × List D)
def rowRel : List Value → List D → Bool
  | [], [] => true
  | .int i _ :: us, .int j :: ds => decide (i = j) && rowRel us ds
  | .str x _ :: us, .str y :: ds => decide (x = y) && rowRel us ds
  | _, _ => false
def rowV : List D → List V
  | [] => []
  | .int j :: ds => .int j :: rowV ds
  | .str y :: ds => .str y :: rowV ds
  | _ :: ds => .non :: rowV ds
theorem rowRel_ok : ∀ {us : List Value} {ds : List D}, rowRel us ds = true → Vals (rowV ds) us ∧ ∀ F, DenAll F (rowV ds) ds
  | [], [], _ => ⟨.nil, fun _ => .nil⟩
  | .int i t :: us, .int j :: ds, h => by
    obtain ⟨a, b⟩ := Bool.and_eq_true_iff.mp (show (decide (i = j) && rowRel us ds) = true from h)
    obtain ⟨r1, r2⟩ := rowRel_ok b
    have e := of_decide_eq_true a
    subst e
    exact ⟨.cons ⟨t, rfl⟩ r1, fun F => .cons (.int i) (r2 F)⟩
  | .str x t :: us, .str y :: ds, h => by
    obtain ⟨a, b⟩ := Bool.and_eq_true_iff.mp (show (decide (x = y) && rowRel us ds) = true from h)
    obtain ⟨r1, r2⟩ := rowRel_ok b
    have e := of_decide_eq_true a
    subst e
    exact ⟨.cons ⟨t, rfl⟩ r1, fun F => .cons (.str x) (r2 F)⟩
def tupRow (K : PySem.W.Frag) (p : Addr) (row : List D) : Bool := match K.lookup p with
  | some ⟨.type c, _, .seq its _, _⟩ => decide (c = "tuple") && (decide (its.size ≤ sizeLine) && rowRel its.toList row)
  | _ => false
theorem tupRow_ok {K : PySem.W.Frag} {p : Addr} {row : List D} (h : tupRow K p row = true) : (∀ H, SqT K H p (rowV row)) ∧ ∀ F, DenAll F (rowV row) row := by
  unfold tupRow at h
  split at h
  · rename_i c dd its n sl lk
    obtain ⟨h1, h2⟩ := Bool.and_eq_true_iff.mp h
    obtain ⟨h3, h4⟩ := Bool.and_eq_true_iff.mp h2
    have e := of_decide_eq_true h1
    subst e
    obtain ⟨r1, r2⟩ := rowRel_ok h4
    exact ⟨fun H => .inr ⟨_, its, n, lk, rfl, rfl, of_decide_eq_true h3, r1⟩, r2⟩
  · cases h
def tabB (K : PySem.W.Frag) (a : Addr) (rows : Row) : Bool := rows.all fun r => match PySem.W.nsIn K a r.1 with
  | some (some (.ref p)) => tupRow K p r.2
  | _ => false
theorem tabB_ok {K : PySem.W.Frag} {a : Addr} {rows : Row} (h : tabB K a rows = true) {z : Str} {row : List D} (e : (z, row) ∈ rows) :
    ∃ p, PySem.W.nsIn K a z = some (some (.ref p)) ∧ (∀ H, SqT K H p (rowV row)) ∧ ∀ F, DenAll F (rowV row) row := by
  have hr := List.all_eq_true.mp h _ e
  dsimp only at hr
  split at hr
  · rename_i p hp
    exact ⟨p, hp, tupRow_ok hr⟩
  · cases hr
/-- the keys, and no others -/
theorem keys_ns {K : PySem.W.Frag} {a : Addr} {ks : List Str} {P : Params} (h : He.dicW K a = some (He.keysIn P ks)) (z : Str) : ∃ r, PySem.W.nsIn K a z = some r ∧ (r.isSome = decide (z ∈ ks)) := by
  unfold He.dicW at h
  split at h
  · rename_i c es n sl lk
    split at h
    · have h := Option.some.inj h
      unfold PySem.W.nsIn
      rw [lk]
      dsimp only
      have all : ∀ (l : List DictEntry) (ks : List Str), l.map He.keyOf = He.keysIn P ks → (∀ e ∈ l, e.refKey = false) ∧ ((l.find? (·.key.isStr z)).isSome = decide (z ∈ ks)) := by
        intro l
        induction l with
        | nil =>
          intro ks h
          cases ks with
          | nil => exact ⟨fun e h => (by cases h), (by simp)⟩
          | cons k ks => cases h
        | cons e l ih =>
          intro ks h
          cases ks with
          | nil => cases h
          | cons k ks =>
            have h' : He.keyOf e :: l.map He.keyOf = some (k, PyData.keyHash P k) :: He.keysIn P ks := h
            injection h' with h1 h2
            obtain ⟨a1, a2⟩ := ih ks h2
            have hk : ∃ t, e.key = .str k t := by
              unfold He.keyOf at h1
              split at h1
              · rename_i x t q
                injection h1 with h1
                injection h1 with h1 _
                exact ⟨t, by rw [q, h1]⟩
              · cases h1
            obtain ⟨t, hk⟩ := hk
            refine ⟨?_, ?_⟩
            · intro y hy
              rcases List.mem_cons.mp hy with rfl | hy
              · unfold DictEntry.refKey; rw [hk]
              · exact a1 y hy
            · rw [List.find?_cons, hk]
              show (match (k == z) with | true => some e | false => l.find? (·.key.isStr z)).isSome = _
              by_cases hz : k = z
              · subst hz
                simp
              · have hb : (k == z) = false := beq_eq_false_iff_ne.mpr hz
                rw [hb]
                dsimp only
                rw [a2]
                have hz' : ¬ z = k := fun q => hz q.symm
                simp [hz']
      obtain ⟨a1, a2⟩ := all _ _ h
      cases q : es.toList.find? (·.key.isStr z) with
      | some e => rw [q] at a2; exact ⟨_, rfl, a2⟩
      | none =>
        rw [q] at a2
        have na : es.toList.any (·.refKey) = false := by
          rw [List.any_eq_false]
          intro e he
          rw [a1 e he]
          decide
        rw [na]
        exact ⟨none, rfl, a2⟩
    · cases h
  · cases h
end SL

/-! Sze: a written dict of the module, in expressions. -/
namespace SL
open PySem L2
structure TabF (K : PySem.W.Frag) (w : World) (mg : Str → Option Value) (x : Str) (rows : Row) : Prop where
  at_ : mg x = some (.ref (He.ga K x))
  kd : ∃ es n, KDict K w (He.ga K x) es n
  ns : ∀ z, ∃ r, PySem.W.nsIn K (He.ga K x) z = some r ∧ r.isSome = decide (z ∈ rows.map (·.1))
  row : ∀ z row, (z, row) ∈ rows → ∃ p, PySem.W.nsIn K (He.ga K x) z = some (some (.ref p)) ∧ (∀ H, SqT K H p (rowV row)) ∧ ∀ F, DenAll F (rowV row) row
theorem tabF_of {K : PySem.W.Frag} {w : World} {mg : Str → Option Value} {x : Str} {rows : Row} (h1 : mg x = some (.ref (He.ga K x))) (h2 : ∃ es n, KDict K w (He.ga K x) es n) (h3 : He.dicW K (He.ga K x) = some (He.keysIn w.params (rows.map (·.1)))) (h4 : tabB K (He.ga K x) rows = true) : TabF K w mg x rows :=
  ⟨h1, h2, fun z => keys_ns h3 z, fun z row e => tabB_ok h4 e⟩
/-- the row of a key -/
def rowOf (rows : Row) (z : Str) : Option (List D) := (rows.find? fun r => decide (r.1 = z)).map (·.2)
theorem rowOf_mem {rows : Row} {z : Str} {row : List D} (h : rowOf rows z = some row) : (z, row) ∈ rows := by
  unfold rowOf at h
  cases q : rows.find? fun r => decide (r.1 = z) with
  | none => rw [q] at h; cases h
  | some r =>
    rw [q] at h; cases h
    have e := List.find?_some q
    have e : r.1 = z := of_decide_eq_true e
    rw [← e]
    exact List.mem_of_find?_eq_some q
/-- e in TABLE -/
def inTO (rows : Row) (c : List CO) : Option D → Res (RV × List CO)
  | some (.str z) => .ok (.dat (.bl (decide (z ∈ rows.map (·.1)))), c)
  | _ => .bad
def dInT (rows : Row) (f : FE) : FE := fun sl cs => (f sl cs).then fun a => inTO rows a.2 (a.1.view a.2)
/-- TABLE[e][j] -/
def tabO (rows : Row) (j : Int) (c : List CO) : Option D → Res (RV × List CO)
  | some (.str z) => match rowOf rows z with
    | some row => match atI row j with
      | some d => .ok (.dat d, c)
      | none => .bad
    | none => .bad
  | _ => .bad
def dTabI (rows : Row) (j : Int) (f : FE) : FE := fun sl cs => (f sl cs).then fun a => tabO rows j a.2 (a.1.view a.2)
section
variable {X : Cx} {W : WX} {x : Str} {rows : Row} {e : Expr} {f : FE} {p1 p2 p3 p4 pos : Pos}
theorem de_inT (T : TabF X.K X.w X.mg x rows) (hg : Gl X x) (h : DE X W e f) (hd : (x == ("__debug__" : Str)) = false := by decide) : DE X W (.Compare e [.In] [.Name x p1] pos) (dInT rows f) := by
  obtain ⟨es, n, kd⟩ := T.kd
  refine PE.imp (pe_cmpR (op_in_kd kd) h (pe_glob (v := .ref (He.ga X.K x)) hg T.at_ rfl hd) (by rfl)) fun σ H Q q => ?_
  obtain ⟨F0, H0, F, sl, cs, R, o⟩ := q
  refine OutE.then_run R o fun r c v F1 H1 e1 n1 w1 k1 fv R1 o1 => ?_
  dsimp only at o1
  cases ev : r.view c with
  | none => rw [ev] at o1; exact o1.elim
  | some d =>
    rw [ev] at o1
    cases d with
    | str z =>
      have vw := (k1.vw w1 ev).str
      subst vw
      obtain ⟨rr, a1, a2⟩ := T.ns z
      refine ⟨z, rr, rfl, rfl, a1, ?_⟩
      rw [a2]
      exact o1 _ F1 H1 .refl w1 (.bl _) trivial
    | _ => exact o1.elim
theorem de_tabI {j : Int} {k : Nat} (T : TabF X.K X.w X.mg x rows) (hg : Gl X x) (h : DE X W e f) (hs : PlainIx e) (hd : (x == ("__debug__" : Str)) = false := by decide) (hs2 : PlainIx (.Constant (.int j) k p3) := by exact fun _ _ => rfl) :
    DE X W (.Subscript (.Subscript (.Name x p1) e p2) (.Constant (.int j) k p3) p4) (dTabI rows j f) := by
  obtain ⟨es, n, kd⟩ := T.kd
  refine PE.imp (pe_ix ix_tup (pe_ix ix_kdict (pe_glob (v := .ref (He.ga X.K x)) hg T.at_ rfl hd) h hs) pe_int hs2) fun σ H Q q => ?_
  obtain ⟨F0, H0, F, sl, cs, R, o⟩ := q
  refine OutE.then_run R o fun r c v F1 H1 e1 n1 w1 k1 fv R1 o1 => ?_
  dsimp only at o1
  cases ev : r.view c with
  | none => rw [ev] at o1; exact o1.elim
  | some d =>
    rw [ev] at o1
    cases d with
    | str z =>
      have vw := (k1.vw w1 ev).str
      subst vw
      unfold tabO at o1
      dsimp only at o1
      cases er : rowOf rows z with
      | none => rw [er] at o1; exact o1.elim
      | some row =>
        rw [er] at o1
        dsimp only at o1
        cases ed : atI row j with
        | none => rw [ed] at o1; exact o1.elim
        | some d =>
          rw [ed] at o1
          obtain ⟨p, a1, a2, a3⟩ := T.row z row (rowOf_mem er)
          obtain ⟨u, b1, b2⟩ := (a3 F1).atI ed
          refine ⟨_, z, .ref p, rfl, rfl, ⟨es, n, _, kd.at_, kd.lit, a1, rfl⟩, p, rowV row, j, u, rfl, rfl, a2 _, b1, ?_⟩
          exact o1 u F1 H1 .refl w1 b2 trivial
    | _ => exact o1.elim
end
end SL

/-! Szf: isinstance(e, (A, B)). -/
namespace SL
open PySem L2
def isiO2 (A B : String) (c : List CO) : Option D → Res (RV × List CO)
  | some d => match kindS d with
    | some s => match kitB s A, kitB s B with
      | some a, some b => .ok (.dat (.bl (a || b)), c)
      | _, _ => .bad
    | none => .bad
  | none => .bad
def dIsi2 (A B : String) (f : FE) : FE := fun sl cs => (f sl cs).then fun a => isiO2 A B a.2 (a.1.view a.2)
section
variable {X : Cx} {W : WX} {pos p p1 p2 p3 : Pos} {k : Nat} {e : Expr} {f : FE}
theorem de_isi2 {A B : String} {x y : Str} (h : DE X W e f) (hg : Gl X "isinstance") (hm : X.mg "isinstance" = none) (g1 : Gl X x) (m1 : X.mg x = none) (v1 : bootBuiltins x = some (.type A)) (g2 : Gl X y) (m2 : X.mg y = none) (v2 : bootBuiltins y = some (.type B))
    (n1 : x ≠ "__name__" := by decide) (d1 : (x == ("__debug__" : Str)) = false := by decide) (n2 : y ≠ "__name__" := by decide) (d2 : (y == ("__debug__" : Str)) = false := by decide)
    (he : starEach [e, .Tuple [.Name x p1, .Name y p2] k p3] X.env = (false, eval e X.env) :: starEach [.Tuple [.Name x p1, .Name y p2] k p3] X.env := by rfl) (hpl : (backTo pos (starEach [.Tuple [.Name x p1, .Name y p2] k p3] X.env)).any (·.1) = false := by rfl) :
    DE X W (.Call (.Name "isinstance" p) [e, .Tuple [.Name x p1, .Name y p2] k p3] [] pos) (dIsi2 A B f) :=
  PE.imp (pe_callB call_isiT hg hm (by decide +kernel) (pa_cons h (pa_cons (pe_tup (pa_cons (pe_bltn (v := .ty A) g1 m1 v1 rfl n1 d1) (pa_cons (pe_bltn (v := .ty B) g2 m2 v2 rfl n2 d2) pa_nil))) pa_nil) he) (by decide) (by decide) he hpl) fun σ H Q q => by
    obtain ⟨F0, H0, F, sl, cs, R, o⟩ := q
    refine OutE.then_run R o fun r c v F1 H1 e n w k fv R1 o1 => ?_
    dsimp only at o1
    unfold isiO2 at o1
    split at o1
    · rename_i d ed
      split at o1
      · rename_i s es
        split at o1
        · rename_i a b ea eb
          refine ⟨by rw [sizeLine_eq]; exact Nat.le_of_ble_eq_true rfl, fun t ht => ?_⟩
          obtain ⟨w2, n2⟩ := Wok.laid w (p := t) (o := .tup [.ty A, .ty B]) ht
          have vw := (RvOk.step k n2).vw w2 ed
          refine ⟨v, t, [.ty A, .ty B], .type s, [.type A, .type B], a || b, rfl, upd_same, .cons (.ty A) (.cons (.ty B) .nil), .base (vw.ty w2.ex es), ?_, ?_⟩
          · exact kitAny_cons (kit_ty ea) (fun ha => kitAny_cons (kit_ty eb) (fun hb => by rw [ha, hb]; rfl) (fun hb => by rw [hb, Bool.or_true])) (fun ha => by rw [ha, Bool.true_or])
          · exact (OutE.back o1 n2 w2) _ F1 _ .refl w2 (.bl _) trivial
        · exact o1.elim
      · exact o1.elim
    · exact o1.elim
end
end SL

/-! Szg: dict(pairs), d[k]. -/
namespace SL
open PySem L2
theorem DenKv.length {F : Fz} : ∀ {vs : List (Key × V)} {ds : List (Key × D)}, DenKv F vs ds → vs.length = ds.length
  | _, _, .nil => rfl
  | _, _, .cons _ t => by simp [DenKv.length t]
theorem DenKv.append {F : Fz} : ∀ {vs ws : List (Key × V)} {ds es : List (Key × D)}, DenKv F vs ds → DenKv F ws es → DenKv F (vs ++ ws) (ds ++ es)
  | _, _, _, _, .nil, k => k
  | _, _, _, _, .cons h t, k => .cons h (DenKv.append t k)
def getD (kvs : List (Key × D)) (k : Key) : Option D := (kvs.find? fun q => decide (q.1 = k)).map (·.2)
def putD (kvs : List (Key × D)) (k : Key) (d : D) : List (Key × D) := if (kvs.any fun q => decide (q.1 = k)) = true then kvs.map (fun q => if q.1 = k then (q.1, d) else q) else kvs ++ [(k, d)]
def mergeD (kvs more : List (Key × D)) : List (Key × D) := more.foldl (fun acc q => putD acc q.1 q.2) kvs
def keyD : D → Option Key
  | .int i => some (.inl i)
  | .str x => some (.inr x)
  | _ => none
def pairD : D → Option (Key × D)
  | .tup [k, d] => (keyD k).map fun q => (q, d)
  | _ => none
def pairsD : List D → Option (List (Key × D))
  | [] => some []
  | d :: r => match pairD d, pairsD r with
    | some p, some ps => some (p :: ps)
    | _, _ => none
section
variable {F : Fz}
theorem DenKv.get : ∀ {ds : List (Key × D)} {vs : List (Key × V)} {k : Key} {d : D}, DenKv F vs ds → getD ds k = some d → ∃ v, valV vs k = some v ∧ Den F v d
  | [], _, _, _, h, e => by cases h; cases e
  | (k0, d0) :: ds, _, k, d, h, e => by
    cases h with
    | @cons _ v vs _ _ h t =>
      unfold getD at e
      unfold valV
      rw [List.find?_cons] at e ⊢
      by_cases hk : k0 = k
      · have hb := decide_eq_true hk
        dsimp only at e ⊢
        rw [hb] at e ⊢
        cases e
        exact ⟨v, rfl, h⟩
      · have hb := decide_eq_false hk
        dsimp only at e ⊢
        rw [hb] at e ⊢
        exact DenKv.get t e
theorem DenKv.any {k : Key} : ∀ {ds : List (Key × D)} {vs : List (Key × V)}, DenKv F vs ds → (vs.any fun q => decide (q.1 = k)) = ds.any fun q => decide (q.1 = k)
  | _, _, .nil => rfl
  | _, _, .cons h t => by simp only [List.any_cons, DenKv.any t]
theorem DenKv.mapPut {k : Key} {v : V} {d : D} (hd : Den F v d) : ∀ {ds : List (Key × D)} {vs : List (Key × V)}, DenKv F vs ds → DenKv F (vs.map fun q => if q.1 = k then (q.1, v) else q) (ds.map fun q => if q.1 = k then (q.1, d) else q)
  | _, _, .nil => .nil
  | _, _, @DenKv.cons _ k0 v0 vs d0 ds h t => by
    rw [List.map_cons, List.map_cons]
    by_cases hk : k0 = k
    · dsimp only; rw [if_pos hk, if_pos hk]; exact .cons hd (DenKv.mapPut hd t)
    · dsimp only; rw [if_neg hk, if_neg hk]; exact .cons h (DenKv.mapPut hd t)
theorem DenKv.put {k : Key} {v : V} {d : D} {ds : List (Key × D)} {vs : List (Key × V)} (h : DenKv F vs ds) (hd : Den F v d) : DenKv F (putK vs k v) (putD ds k d) := by
  unfold putK putD
  rw [h.any]
  split
  · exact DenKv.mapPut hd h
  · exact h.append (.cons hd .nil)
theorem DenKv.merge {es : List (Key × D)} {ws : List (Key × V)} (g : DenKv F ws es) {ds : List (Key × D)} {vs : List (Key × V)} (h : DenKv F vs ds) : DenKv F (mergeK vs ws) (mergeD ds es) := by
  induction ws generalizing es ds vs with
  | nil => cases g; exact h
  | cons q ws ih =>
    cases g with
    | cons a t => exact ih t (h.put a)
end
def gDict : GN := fun as => match as with
  | [.lst ds] => (pairsD ds).map fun ps => .new (.dct (mergeD [] ps))
  | _ => none
section
variable {X : Cx}
theorem pairs_ok {F : Fz} {H : Hp} (ex : ExH F H) : ∀ {ds : List D} {vs : List V} {ps : List (Key × D)}, DenAll F vs ds → pairsD ds = some ps →
    ∃ (as : List Addr) (kvs : List (Key × V)), vs = as.map V.ref ∧ Paired (fun p (kv : Key × V) => SqT X.K H p [kV kv.1, kv.2]) as kvs ∧ DenKv F kvs ps
  | [], _, _, h, e => by cases h; cases e; exact ⟨[], [], rfl, .nil, .nil⟩
  | d :: ds, _, ps, h, e => by
    cases h with
    | cons h t =>
      unfold pairsD at e
      cases e1 : pairD d with
      | none => rw [e1] at e; cases e
      | some p =>
        cases e2 : pairsD ds with
        | none => rw [e1, e2] at e; cases e
        | some qs =>
          rw [e1, e2] at e
          cases e
          obtain ⟨as, kvs, rfl, b, c⟩ := pairs_ok ex t e2
          unfold pairD at e1
          split at e1
          · rename_i kd dd
            cases hk : keyD kd with
            | none => rw [hk] at e1; cases e1
            | some key =>
              rw [hk] at e1
              cases e1
              cases h with
              | @tup a us _ ha hu =>
                cases hu with
                | @cons v1 _ _ _ h1 h2 =>
                  cases h2 with
                  | @cons v2 _ _ _ h2 h3 =>
                    cases h3
                    have ek : v1 = kV key := by
                      cases kd with
                      | int i => cases hk; cases h1; rfl
                      | str x => cases hk; cases h1; rfl
                      | _ => cases hk
                    subst ek
                    exact ⟨a :: as, (key, v2) :: kvs, rfl, .cons (SqT.of (ex _ _ ha)) b, .cons h2 c⟩
          · cases e1
theorem c_dict (hc : X.calm = true) : CallD X (.type "dict") gDict := CallR.imp (call_dictP hc) fun vs H Q ⟨F, cs, as, r, w, va, e, k⟩ => by
  unfold gDict at e
  split at e
  · rename_i ds
    cases q : pairsD ds with
    | none => rw [q] at e; cases e
    | some ps =>
      rw [q] at e; cases e
      obtain ⟨v, rfl, a⟩ := va.one
      obtain ⟨p, xs, rfl, hp, d⟩ := a.lst w.ex
      obtain ⟨bs, kvs, rfl, b, c⟩ := pairs_ok (X := X) w.ex d q
      refine ⟨p, bs, kvs, rfl, SqL.of hp, b, fun l hl => ?_⟩
      exact Aft.new (cs := cs) (c := .dct (mergeD [] ps)) k w hl (DenKv.merge c .nil)
  · cases e
end
def dgO (c : List CO) : Option D → Option D → Res (RV × List CO)
  | some (.dct kvs), some x => match keyD x with
    | some k => optE ((getD kvs k).map RV.dat) c
    | none => .bad
  | _, _ => .bad
/-- d[k], d a dict -/
def dDGet (fa fb : FE) : FE := fun sl cs => (fa sl cs).then fun a => (fb sl a.2).then fun b => dgO b.2 (a.1.view b.2) (b.1.view b.2)
section
variable {X : Cx} {W : WX} {a b : Expr} {fa fb : FE} {pos : Pos}
theorem de_dget (hu : X.A.units + 64 < cLine) (ha : DE X W a fa) (hb : DE X W b fb) (hs : NoSl b) : DE X W (.Subscript a b pos) (dDGet fa fb) := PE.imp (pe_dget (Nat.lt_of_le_of_lt (Nat.add_le_add_left (by decide) _) hu) ha hb hs) fun σ H Q q => by
  obtain ⟨F0, H0, F, sl, cs, R, o⟩ := q
  refine OutE.then_run R o fun r c v F1 H1 e n w k fv R1 o1 => ?_
  refine OutE.then_run R1 o1 fun r2 c2 v2 F2 H2 e2 n2 w2 k2 fv2 R2 o2 => ?_
  dsimp only at o2
  have k3 := RvOk.step k n2
  unfold dgO at o2
  split at o2
  · rename_i kvs x ex ey
    cases hk : keyD x with
    | none => rw [hk] at o2; exact o2.elim
    | some key =>
      rw [hk] at o2
      dsimp only at o2
      cases hg : getD kvs key with
      | none => rw [hg] at o2; exact o2.elim
      | some d =>
        rw [hg] at o2
        obtain ⟨p, vs, rfl, hp, dk⟩ := (k3.vw w2 ex).dct w2.ex
        obtain ⟨u, hu, du⟩ := dk.get hg
        have vy := k2.vw w2 ey
        have ek : v2 = kV key := by
          cases x with
          | int i => cases hk; exact vy.int
          | str z => cases hk; exact vy.str
          | _ => cases hk
        subst ek
        exact ⟨p, u, rfl, by rw [← hu]; exact DGet.k hp, o2 u F2 H2 .refl w2 du trivial⟩
  · exact o2.elim
end
end SL

/-! Szh: a def whose code object is told; the promise of `_law_same`. -/
namespace SL
open PySem L2 PySem.Spec PyProof.Rows LamX
section
variable {P : Program} {w : World} {K : PySem.W.Frag} {mg : Str → Option Value} {base : Heap} {k : Nat} {f : Addr} {fd : FuncData} {ps : List Str} {sp : Sp}
theorem FnG.mkC {x qual : Str} {params : Arguments} {body : List Stmt} {scope : Scope} {dvs : List V} {kws : List (Str × V)} {N : List Str} (FD : FunD K x qual params body scope dvs kws f fd) (S : FnScope N ps scope)
    (walk : ∀ (cdv : Value) (A : Around) (outer : List Env) (s : Shared) (H : Hp) (vs : List V) (Q : VK) (E : XK), fd.code = cdv → vs.length = ps.length → A.guards = some [] → Room k (A.deeper (envOfC qual scope s.heap.objs.size f cdv)) → sp vs H Q E →
      ∃ t, PSs (cxOf (L2.CX P w) P w K mg base N qual scope f cdv A outer s H E) body t ∧ t { nx := fun _ H' => Q .non H', rt := Q } (L2.start N vs) H) : FnG P w K mg base (k + 1) f fd ps sp := by
  obtain ⟨oc, od, dV, kV, doc, pm, an, cdv, ct, osl, e0, lk, code, dd, kk⟩ := FD.ex
  have ec : fd.code = cdv := by rw [e0]
  constructor
  intro A outer s H args us vs Q E gd room vl env bind rel prom
  have FD' : FunD K x qual params body scope dvs kws f fd := FD
  subst e0
  have stays : ∀ b o, base.get? b = some o → s.heap.get? b = some o := fun b o z => (env.bs b o z).1
  have inK : K.In s.heap := env.mod.kin.keeps stays
  have kinds : ∀ y ∈ ps.zip us, scope.names.lookup y.1 = some .local ∨ (scope.names.lookup y.1 = some .cell ∧ ((cellsFrom (s.heap.objs.size + 1) scope.names []).lookup y.1).isSome = true) := by
    intro y hy
    obtain ⟨n, v⟩ := y
    cases S.par n (List.of_mem_zip hy).1 with
    | inl z => exact Or.inl z
    | inr z => exact Or.inr ⟨z, PySem.W.cellsFrom_some _ _ _ (Or.inl z)⟩
  apply codeAny_call_function room.depth (inK _ _ lk) rfl S.co S.gen rfl (PySem.W.codeRec_of inK code)
  apply bind
  refine wpAny_newFunctionEnv_cells S.kind kinds ?_
  intro en hen s1 hs1
  subst hen
  refine ⟨(env.mod.nolimit.keeps stays).keeps hs1.toInCall.keep, codeAny_func ?_⟩
  obtain ⟨t, pt, qt⟩ := walk cdv A outer s H vs Q E ec vl gd (room.deeper _) prom
  have inv := inv_start (CX := L2.CX P w) (E := E) (w := w) (cd := cdv) (f := f) S room.hd env vl rel hs1
  refine wpAny_mono (pt.run [] s1 (L2.start N vs) H _ inv qt) ?_ fun _ _ z => z
  intro fl s' out
  match fl, out with
  | .ret u, ⟨v, _, H', J, rv, q⟩ => exact ⟨v, H', J.os, J.bare, J.base, J.hok, rv, q⟩
  | .next, ⟨_, H', J, q⟩ => exact ⟨.non, H', J.os, J.bare, J.base, J.hok, rfl, q⟩
  | .brk, ⟨_, _, _, q⟩ => exact q.elim
  | .cont, ⟨_, _, _, q⟩ => exact q.elim
end
theorem code_of {K : PySem.W.Frag} {x qual : Str} {params : Arguments} {body : List Stmt} {scope : Scope} {dvs : List V} {kws : List (Str × V)} {p : He.Defn} {fd : FuncData} (FD : FunD K x qual params body scope dvs kws (He.fAd K p) fd) : fd.code = .ref (He.cT K p).1 := by
  obtain ⟨oc, od, dV, kV, doc, pm, an, cdv, ct, osl, e0, lk, code, dd, kk⟩ := FD.ex
  obtain ⟨c, rfl⟩ := He.codeIn_ref code
  subst e0
  show Value.ref c = Value.ref (He.codeOf K p)
  unfold He.codeOf
  rw [lk]
end SL

/-! Szj: dict displays: {}, {k: v}. -/
namespace SL
open PySem L2
def dDict0 : FE := fun _ cs => .ok (.new (.dct []), cs)
def dDict1 (k : Key) (d : D) : FE := fun _ cs => .ok (.new (.dct [(k, d)]), cs)
section
variable {X : Cx} {W : WX} {pos : Pos}
theorem de_dict0 : DE X W (.Dict [] [] pos) dDict0 := PE.imp pe_dnewK fun σ H Q q => by
  obtain ⟨F0, H0, F, sl, cs, R, o⟩ := q
  intro p hp
  exact Aft.new (cs := cs) (c := .dct []) o R.w hp .nil
theorem de_dict1 {k : Key} {v : V} {d : D} {ek ev : Expr} (hk : PE X ek (tC (kV k))) (hv : PE X ev (tC v)) (dv : ∀ F, Den F v d) : DE X W (.Dict [some ek] [ev] pos) (dDict1 k d) := PE.imp (pe_disp (pps_cons hk hv pps_nil) rfl rfl (by simp) (Nat.le_of_ble_eq_true rfl)) fun σ H Q q => by
  obtain ⟨F0, H0, F, sl, cs, R, o⟩ := q
  intro p hp
  refine ⟨upd_same, [(k, v)], rfl, Nat.le_of_ble_eq_true rfl, ?_⟩
  have e : upd (upd H p (.dK [])) p (.dK (mergeK [] [(k, v)])) = upd H p (.dK [(k, v)]) := by
    funext b
    by_cases hb : b = p
    · subst hb; rw [upd_same, upd_same]; rfl
    · rw [upd_ne hb, upd_ne hb, upd_ne hb]
  rw [e]
  exact Aft.new (cs := cs) (c := .dct [(k, d)]) o R.w hp (.cons (dv _) .nil)
end
end SL

/-! Szk: a hook that looks at the statics too (a class's attributes are read past them). -/
namespace SL
open PySem PySem.W L2 He
def asY (g : Addr → Option Obj) (n : Nat) : List Addr := cStatics :: asD g n
def obsY (n : Nat) (fa : List Fa) (fn : List DefD) (ts : List Tab) (tf : List Defn) (ex : PySem.W.Frag → Bool) (g : Addr → Option Obj) : AlX := (obsT fa fn ts (frT g (asY g n)), ex (frT g (asY g n)) && tabsB g tf (frT g (asY g n)))
theorem saysY_of {n : Nat} {fa : List Fa} {fn : List DefD} {ts : List Tab} {tf : List Defn} {ex : PySem.W.Frag → Bool} {w : World} {h : Heap} (e : obsY n fa fn ts tf ex h.get? = valX fn ts w) : SaysX fa fn ts tf ex w h (frT h.get? (asY h.get? n)) := by
  have e1 : obsT fa fn ts (frT h.get? (asY h.get? n)) = valT fn ts w := congrArg (fun z : AlX => z.1) e
  have e2 : (ex (frT h.get? (asY h.get? n)) && tabsB h.get? tf (frT h.get? (asY h.get? n))) = true := congrArg (fun z : AlX => z.2) e
  obtain ⟨h1, h2⟩ := Bool.and_eq_true_iff.mp e2
  have key : ∀ p ∈ tf, PySem.W.codeHdIn (frT h.get? (asY h.get? n)) (cT (frT h.get? (asY h.get? n)) p).1 (cT (frT h.get? (asY h.get? n)) p).2 = true ∧ ∃ o, h.get? (cT (frT h.get? (asY h.get? n)) p).2 = some o ∧ emptyTab o = true := fun p hp => by
    obtain ⟨h3, h4⟩ := Bool.and_eq_true_iff.mp (List.all_eq_true.mp h2 p hp)
    refine ⟨h3, ?_⟩
    cases q : h.get? (cT (frT h.get? (asY h.get? n)) p).2 with
    | none =>
      rw [q] at h4
      cases h4
    | some o =>
      rw [q] at h4
      exact ⟨o, rfl, h4⟩
  exact ⟨e1, h1, fun p hp => (key p hp).1, fun p hp => by
    obtain ⟨_, o, q, z⟩ := key p hp
    exact frT_none q z, fun p hp => by
    obtain ⟨_, o, q, z⟩ := key p hp
    rw [q, emptyTab_eq z]⟩
def hookY (n : Nat) (fa : List Fa) (fn : List DefD) (ts : List Tab) (tf : List Defn) (ex : PySem.W.Frag → Bool) : PySem.W.Hook where
  α := AlX
  obs := fun s => obsY n fa fn ts tf ex s.heap.get?
  val := fun w => valX fn ts w
  says := fun w h => ∃ K : PySem.W.Frag, K.In h ∧ SaysX fa fn ts tf ex w h K
  of := fun _ _ e => ⟨_, frT_in, saysY_of e⟩
  keeps := fun _ _ _ ⟨K, hK, c⟩ k => ⟨K, PySem.W.Frag.In.keeps hK k, ⟨c.t, c.more, c.hd, c.out, fun p hp => k _ _ (c.empty p hp)⟩⟩
theorem obsY_eq {n : Nat} {fa : List Fa} {fn : List DefD} {ts : List Tab} {tf : List Defn} {ex : PySem.W.Frag → Bool} {g : Addr → Option Obj} {s : Shared} (h : ∀ a, g a = s.heap.get? a) : obsY n fa fn ts tf ex g = (hookY n fa fn ts tf ex).obs s := by
  have e : g = s.heap.get? := funext h
  rw [e] <;> rfl
end SL

/-! Sm: lemmas for reckoning with mirrors. -/
namespace SL
open PySem L2
theorem mulB_l {i j : Int} (h0 : -18446744073709551616 < i) (h1 : i < 18446744073709551616) : mulB i j = true := by
  unfold mulB; rw [decide_eq_true (show -(2 ^ 64) < i from h0), decide_eq_true (show i < 2 ^ 64 from h1)]; rfl
theorem mulB_r {i j : Int} (h0 : -18446744073709551616 < j) (h1 : j < 18446744073709551616) : mulB i j = true := by
  unfold mulB; rw [decide_eq_true (show -(2 ^ 64) < j from h0), decide_eq_true (show j < 2 ^ 64 from h1)]; simp
theorem atI_nat {α : Type} (xs : List α) (k : Nat) : atI xs (k : Int) = xs[k]? := by
  unfold atI ixN
  rw [if_pos (by omega)]
  by_cases h : k < xs.length
  · rw [if_pos (by omega)]
    show xs[(k : Int).toNat]? = xs[k]?
    simp
  · rw [if_neg (by omega)]
    show none = xs[k]?
    rw [List.getElem?_eq_none (by omega)]
theorem atI0 {α : Type} (xs : List α) : atI xs 0 = xs[0]? := atI_nat xs 0
theorem atI1 {α : Type} (xs : List α) : atI xs 1 = xs[1]? := atI_nat xs 1
theorem atI2 {α : Type} (xs : List α) : atI xs 2 = xs[2]? := atI_nat xs 2
theorem atI3 {α : Type} (xs : List α) : atI xs 3 = xs[3]? := atI_nat xs 3
theorem atI4 {α : Type} (xs : List α) : atI xs 4 = xs[4]? := atI_nat xs 4
theorem atI5 {α : Type} (xs : List α) : atI xs 5 = xs[5]? := atI_nat xs 5
theorem atI_of {α : Type} {xs : List α} {i : Int} {x : α} (h0 : 0 ≤ i) (h : xs[i.toNat]? = some x) : atI xs i = some x := by
  have e : ((i.toNat : Nat) : Int) = i := Int.toNat_of_nonneg h0
  rw [← e, atI_nat]; exact h
/-- a place that lies in the list -/
theorem atI_some {α : Type} {xs : List α} {i : Int} (h0 : 0 ≤ i) (h : i < xs.length) : ∃ x, x ∈ xs ∧ atI xs i = some x := by
  have hl : i.toNat < xs.length := by omega
  exact ⟨xs[i.toNat], List.getElem_mem hl, atI_of h0 (List.getElem?_eq_getElem hl)⟩
theorem ixN0 (n : Nat) (h : 0 < n) : ixN n 0 = some 0 := by
  unfold ixN; rw [if_pos (by omega), if_pos (by omega)]; rfl
theorem ixN_nat (n k : Nat) (h : k < n) : ixN n (k : Int) = some k := by
  unfold ixN; rw [if_pos (by omega), if_pos (by omega)]; simp
theorem ixN3 (n : Nat) (h : 3 < n) : ixN n 3 = some 3 := ixN_nat n 3 h
theorem ixN_4_0 : ixN (0 + 1 + 1 + 1 + 1) 0 = some 0 := rfl
theorem ixN_4_3 : ixN (0 + 1 + 1 + 1 + 1) 3 = some 3 := rfl
/-- the law's box: a cell with four ints -/
structure Bx (cs : List CO) (n : Int) : Prop where
  ex : ∃ x0 x1 x2 t : Int, cs = [.lst [.int x0, .int x1, .int x2, .int t]] ∧ 0 ≤ x0 ∧ 0 ≤ x1 ∧ x1 < 2147483629 ∧ 0 ≤ x2 ∧ x2 < 2147483587 ∧ 0 ≤ t ∧ t ≤ n
theorem Bx.mono {cs : List CO} {n m : Int} (h : Bx cs n) (l : n ≤ m) : Bx cs m := by
  obtain ⟨x0, x1, x2, t, e, a, b, c, d, f, g, i⟩ := h.ex
  exact ⟨x0, x1, x2, t, e, a, b, c, d, f, g, by omega⟩
/-- what the draw's second way needs: its base stays below 2 ^ 64 -/
theorem draw_small {x t c k : Int} (h0 : 0 ≤ x) (h1 : x < 2147483648) (t0 : 0 < t) (t1 : t ≤ 1048576) (c0 : 0 ≤ c) (c1 : c < 8192) (k0 : 0 ≤ k) (k1 : k < 1000) :
    (x * (2 * t + 3) + c * t * t + k).natAbs < 2 ^ 64 ∧ 0 ≤ x * (2 * t + 3) + c * t * t + k := by
  have a1 : 0 ≤ x * (2 * t + 3) := Int.mul_nonneg h0 (by omega)
  have a2 : x * (2 * t + 3) ≤ 2147483648 * (2 * t + 3) := Int.mul_le_mul_of_nonneg_right (by omega) (by omega)
  have b1 : 0 ≤ c * t := Int.mul_nonneg c0 (by omega)
  have b2 : c * t ≤ 8192 * t := Int.mul_le_mul_of_nonneg_right (by omega) (by omega)
  have b3 : 0 ≤ c * t * t := Int.mul_nonneg b1 (by omega)
  have b4 : c * t * t ≤ 8192 * t * t := Int.mul_le_mul_of_nonneg_right b2 (by omega)
  have b5 : 8192 * t * t ≤ 8192 * 1048576 * t := Int.mul_le_mul_of_nonneg_right (by omega) (by omega)
  omega
theorem draw_small2 {y x t k : Int} (y0 : 0 ≤ y) (y1 : y < 2147483648) (h0 : 0 ≤ x) (h1 : x < 2147483648) (t0 : 0 < t) (t1 : t ≤ 1048576) (k0 : 0 ≤ k) (k1 : k < 1000) :
    (y + x * t + k).natAbs < 2 ^ 64 ∧ 0 ≤ y + x * t + k := by
  have a1 : 0 ≤ x * t := Int.mul_nonneg h0 (by omega)
  have a2 : x * t ≤ 2147483648 * t := Int.mul_le_mul_of_nonneg_right (by omega) (by omega)
  omega
end SL

/-! Sn: the steps of a mirror as rewriting rules. -/
namespace SL
open PySem L2
section
variable {α β : Type} {g g' : G2} {gu : G1} {gn : GN} {fa fb fc fe fj f : FE} {ft fu : FT} {ra rb : FA} {fi : FI} {tg : FG} {s t : FS} {sl sl' : List SV} {cs c c' : List CO} {r r' : RV} {rs rs' : List RV} {b : Bool} {i j n m : Nat} {d : D} {ds : List D} {C : Addr} {fs : List (Str × D)}
theorem s_then_ok {a : α} {k : α → Res β} : Res.then (.ok a) k = k a := rfl
theorem s_then_exc {k : α → Res β} : Res.then (.exc C fs c) k = .exc C fs c := rfl
theorem s_then_bad {k : α → Res β} : Res.then .bad k = .bad := rfl
theorem s_toF_ok {a : α} {k : α → Flw} : Res.toF sl (.ok a) k = k a := rfl
theorem s_toF_exc {k : α → Flw} : Res.toF sl (.exc C fs c) k = .exc C fs sl c := rfl
theorem s_toF_bad {k : α → Flw} : Res.toF sl .bad k = .bad := rfl
def varO (cs : List CO) : Option SV → Res (RV × List CO)
  | some (.dat d) => .ok (.dat d, cs)
  | some (.own c) => .ok (.own c, cs)
  | some (.scr ns) => .ok (.scr ns, cs)
  | _ => .bad
theorem s_var : dVar i sl cs = varO cs (sl[i]?) := rfl
theorem s_var_dat {x : D} : varO cs (some (.dat x)) = .ok (.dat x, cs) := rfl
theorem s_var_own {x : CO} : varO cs (some (.own x)) = .ok (.own x, cs) := rfl
theorem s_var_scr {x : List Int} : varO cs (some (.scr x)) = .ok (.scr x, cs) := rfl
theorem s_con : dCon d sl cs = .ok (.dat d, cs) := rfl
theorem s_view_new {x : CO} : RV.view cs (.new x) = some x.D := rfl
theorem s_view_own {x : CO} : RV.view cs (.own x) = some x.D := rfl
theorem s_view_dat {x : D} : RV.view cs (.dat x) = D.vw cs x := rfl
theorem s_vwD_ref : D.vw cs (.ref i) = (cs[i]?).bind CO.vw := rfl
theorem s_vw_lst {xs : List D} : CO.vw (.lst xs) = some (.lst xs) := rfl
theorem s_vw_dct {xs : List (Key × D)} : CO.vw (.dct xs) = some (.dct xs) := rfl
theorem s_nt_lst {xs : List D} : CO.noTab (.lst xs) = some (.lst xs) := rfl
theorem s_nt_dct {xs : List (Key × D)} : CO.noTab (.dct xs) = some (.dct xs) := rfl
theorem s_vwD_non : D.vw cs .non = some .non := rfl
theorem s_vwD_bl {x : Bool} : D.vw cs (.bl x) = some (.bl x) := rfl
theorem s_vwD_int {x : Int} : D.vw cs (.int x) = some (.int x) := rfl
theorem s_vwD_str {x : Str} : D.vw cs (.str x) = some (.str x) := rfl
theorem s_vwD_lst {x : List D} : D.vw cs (.lst x) = some (.lst x) := rfl
theorem s_vwD_tup {x : List D} : D.vw cs (.tup x) = some (.tup x) := rfl
theorem s_vwD_dct {x : List (Key × D)} : D.vw cs (.dct x) = some (.dct x) := rfl
theorem s_vwD_obj {x : List (Str × D)} : D.vw cs (.obj C x) = some (.obj C x) := rfl
theorem s_vw_obj {x : List (Str × D)} : CO.vw (.obj C x) = some (.obj C x) := rfl
theorem s_nt_obj {x : List (Str × D)} : CO.noTab (.obj C x) = some (.obj C x) := rfl
theorem s_D_lst {xs : List D} : CO.D (.lst xs) = .lst xs := rfl
theorem s_D_dct {xs : List (Key × D)} : CO.D (.dct xs) = .dct xs := rfl
theorem s_D_obj {xs : List (Str × D)} : CO.D (.obj C xs) = .obj C xs := rfl
theorem s_optE_some : optE (some r) cs = .ok (r, cs) := rfl
theorem s_optE_none : optE none cs = .bad := rfl
def vw2 (g : G2) (c : List CO) : Option D → Option D → Res (RV × List CO)
  | some x, some y => optE (g x y) c
  | _, _ => .bad
theorem s_vw2 {x y : D} : vw2 g c (some x) (some y) = optE (g x y) c := rfl
def kOp2 (g : G2) (a : RV) : RV × List CO → Res (RV × List CO) := fun b => vw2 g b.2 (a.view b.2) (b.1.view b.2)
def kOp1 (g : G2) (fb : FE) (sl : List SV) : RV × List CO → Res (RV × List CO) := fun a => (fb sl a.2).then (kOp2 g a.1)
theorem s_op : dOp g fa fb sl cs = (fa sl cs).then (kOp1 g fb sl) := rfl
theorem s_op1 : kOp1 g fb sl (r, c) = (fb sl c).then (kOp2 g r) := rfl
theorem s_op2 : kOp2 g r (r', c) = vw2 g c (r.view c) (r'.view c) := rfl
def vw1 (g : G1) (c : List CO) : Option D → Res (RV × List CO)
  | some x => optE (g x) c
  | _ => .bad
theorem s_vw1 {x : D} : vw1 gu c (some x) = optE (gu x) c := rfl
def kUn (g : G1) : RV × List CO → Res (RV × List CO) := fun a => vw1 g a.2 (a.1.view a.2)
theorem s_un : dUn gu fa sl cs = (fa sl cs).then (kUn gu) := rfl
theorem s_un1 : kUn gu (r, c) = vw1 gu c (r.view c) := rfl
def kToT : RV × List CO → Res (Bool × List CO) := fun a => match a.1 with
  | .dat (.bl b) => .ok (b, a.2)
  | _ => .bad
theorem s_toT : toT fa sl cs = (fa sl cs).then kToT := rfl
theorem s_toT1 : kToT (.dat (.bl b), c) = .ok (b, c) := rfl
def trO (c : List CO) : Option Bool → Res (Bool × List CO)
  | some b => .ok (b, c)
  | none => .bad
theorem s_trO : trO c (some b) = .ok (b, c) := rfl
def kTru : RV × List CO → Res (Bool × List CO) := fun a => trO a.2 ((a.1.view a.2).bind truD)
theorem s_toTru : toTru fa sl cs = (fa sl cs).then kTru := by unfold toTru kTru; congr 1; funext a; cases a.1.view a.2 with
  | none => rfl
  | some d => show (match truD d with | some b => Res.ok (b, a.2) | none => Res.bad) = trO a.2 (truD d); cases truD d <;> rfl
theorem s_toTru1 : kTru (r, c) = trO c ((r.view c).bind truD) := rfl
def kAnd (fb : FE) (sl : List SV) : RV × List CO → Res (RV × List CO) := fun a => match a.1 with
  | .dat (.bl true) => fb sl a.2
  | .dat (.bl false) => .ok (.dat (.bl false), a.2)
  | _ => .bad
def kOr (fb : FE) (sl : List SV) : RV × List CO → Res (RV × List CO) := fun a => match a.1 with
  | .dat (.bl true) => .ok (.dat (.bl true), a.2)
  | .dat (.bl false) => fb sl a.2
  | _ => .bad
def kNot : RV × List CO → Res (RV × List CO) := fun a => match a.1 with
  | .dat (.bl b) => .ok (.dat (.bl (!b)), a.2)
  | _ => .bad
theorem s_and : dAnd fa fb sl cs = (fa sl cs).then (kAnd fb sl) := rfl
theorem s_and_t : kAnd fb sl (.dat (.bl true), c) = fb sl c := rfl
theorem s_and_f : kAnd fb sl (.dat (.bl false), c) = .ok (.dat (.bl false), c) := rfl
theorem s_or : dOr fa fb sl cs = (fa sl cs).then (kOr fb sl) := rfl
theorem s_or_t : kOr fb sl (.dat (.bl true), c) = .ok (.dat (.bl true), c) := rfl
theorem s_or_f : kOr fb sl (.dat (.bl false), c) = fb sl c := rfl
theorem s_not : dNot fa sl cs = (fa sl cs).then kNot := rfl
theorem s_not1 : kNot (.dat (.bl b), c) = .ok (.dat (.bl (!b)), c) := rfl
def kTAnd (fb : FT) (sl : List SV) : Bool × List CO → Res (Bool × List CO) := fun a => if a.1 then fb sl a.2 else .ok (false, a.2)
def kTOr (fb : FT) (sl : List SV) : Bool × List CO → Res (Bool × List CO) := fun a => if a.1 then .ok (true, a.2) else fb sl a.2
def kTNot : Bool × List CO → Res (Bool × List CO) := fun a => .ok (!a.1, a.2)
theorem s_tand  : tAnd' ft fu sl cs = (ft sl cs).then (kTAnd fu sl) := rfl
theorem s_tand_t : kTAnd fu sl (true, c) = fu sl c := rfl
theorem s_tand_f : kTAnd fu sl (false, c) = .ok (false, c) := rfl
theorem s_tor  : tOr' ft fu sl cs = (ft sl cs).then (kTOr fu sl) := rfl
theorem s_tor_t : kTOr fu sl (true, c) = .ok (true, c) := rfl
theorem s_tor_f : kTOr fu sl (false, c) = fu sl c := rfl
theorem s_tnot  : tNot' ft sl cs = (ft sl cs).then kTNot := rfl
theorem s_tnot1 : kTNot (b, c) = .ok (!b, c) := rfl
def kIf (fa fb : FE) (sl : List SV) : Bool × List CO → Res (RV × List CO) := fun a => if a.1 then fa sl a.2 else fb sl a.2
theorem s_if : dIf ft fa fb sl cs = (ft sl cs).then (kIf fa fb sl) := rfl
theorem s_if_t : kIf fa fb sl (true, c) = fa sl c := rfl
theorem s_if_f : kIf fa fb sl (false, c) = fb sl c := rfl
def chB (g' : G2) (fc : FE) (sl : List SV) (b : RV) (c : List CO) : Option RV → Res (RV × List CO)
  | some (.dat (.bl true)) => (fc sl c).then fun z => match b.view z.2, z.1.view z.2 with
    | some y, some z1 => optE (g' y z1) z.2
    | _, _ => .bad
  | some (.dat (.bl false)) => .ok (.dat (.bl false), c)
  | _ => .bad
def chA (g g' : G2) (fc : FE) (sl : List SV) (b : RV) (c : List CO) : Option D → Option D → Res (RV × List CO)
  | some x, some y => chB g' fc sl b c (g x y)
  | _, _ => .bad
def kCh2 (g g' : G2) (fc : FE) (sl : List SV) (a : RV) : RV × List CO → Res (RV × List CO) := fun b => chA g g' fc sl b.1 b.2 (a.view b.2) (b.1.view b.2)
def kCh1 (g g' : G2) (fb fc : FE) (sl : List SV) : RV × List CO → Res (RV × List CO) := fun a => (fb sl a.2).then (kCh2 g g' fc sl a.1)
theorem s_ch : dChain g g' fa fb fc sl cs = (fa sl cs).then (kCh1 g g' fb fc sl) := rfl
theorem s_ch1 : kCh1 g g' fb fc sl (r, c) = (fb sl c).then (kCh2 g g' fc sl r) := rfl
theorem s_ch2 : kCh2 g g' fc sl r (r', c) = chA g g' fc sl r' c (r.view c) (r'.view c) := rfl
theorem s_chA {x y : D} : chA g g' fc sl r c (some x) (some y) = chB g' fc sl r c (g x y) := rfl
theorem s_chB_t : chB g' fc sl r c (some (.dat (.bl true))) = (fc sl c).then (kOp2 g' r) := rfl
theorem s_chB_f : chB g' fc sl r c (some (.dat (.bl false))) = .ok (.dat (.bl false), c) := rfl
def kFrz : RV × List CO → Res (RV × List CO) := fun a => match a.1 with
  | .new c => .ok (.dat c.D, a.2)
  | .own _ => .bad
  | r => .ok (r, a.2)
theorem s_frz : dFrz fa sl cs = (fa sl cs).then kFrz := rfl
theorem s_frz_dat : kFrz (.dat d, c) = .ok (.dat d, c) := rfl
def kCell : RV × List CO → Res (RV × List CO) := fun a => match a.1 with
  | .new c => .ok (.dat (.ref a.2.length), a.2 ++ [c])
  | .own _ => .bad
  | r => .ok (r, a.2)
theorem s_cell : dCell fa sl cs = (fa sl cs).then kCell := rfl
theorem s_cell_dat : kCell (.dat d, c) = .ok (.dat d, c) := rfl
theorem s_cell_new {x : CO} : kCell (.new x, c) = .ok (.dat (.ref c.length), c ++ [x]) := rfl
theorem s_frz_scr {z : List Int} : kFrz (.scr z, c) = .ok (.scr z, c) := rfl
theorem s_frz_new {x : CO} : kFrz (.new x, c) = .ok (.dat x.D, c) := rfl
theorem s_nil : dNil sl cs = .ok ([], cs) := rfl
def kC2 (r : RV) : List RV × List CO → Res (List RV × List CO) := fun b => .ok (r :: b.1, b.2)
def kC1 (ra : FA) (sl : List SV) : RV × List CO → Res (List RV × List CO) := fun a => (ra sl a.2).then (kC2 a.1)
theorem s_cons : dCons fa ra sl cs = (dFrz fa sl cs).then (kC1 ra sl) := rfl
theorem s_consV : dConsV fa ra sl cs = (fa sl cs).then (kC1 ra sl) := rfl
theorem s_cons1 : kC1 ra sl (r, c) = (ra sl c).then (kC2 r) := rfl
theorem s_cons2 : kC2 r (rs, c) = .ok (r :: rs, c) := rfl
theorem s_datAll_nil : datAll [] = some [] := rfl
theorem s_datAll_cons : datAll (.dat d :: rs) = (datAll rs).map (d :: ·) := rfl
def tupO (c : List CO) : Option (List D) → Res (RV × List CO)
  | some ds => if ds.length ≤ sizeLine then .ok (.dat (.tup ds), c) else .bad
  | none => .bad
def lstO (c : List CO) : Option (List D) → Res (RV × List CO)
  | some ds => if ds.length ≤ sizeLine then .ok (.new (.lst ds), c) else .bad
  | none => .bad
def kTup : List RV × List CO → Res (RV × List CO) := fun a => tupO a.2 (datAll a.1)
def kLst : List RV × List CO → Res (RV × List CO) := fun a => lstO a.2 (datAll a.1)
theorem s_tup : dTup ra sl cs = (ra sl cs).then kTup := rfl
theorem s_lst : dLst ra sl cs = (ra sl cs).then kLst := rfl
theorem s_tup1 : kTup (rs, c) = tupO c (datAll rs) := rfl
theorem s_lst1 : kLst (rs, c) = lstO c (datAll rs) := rfl
theorem s_tupO (h : ds.length ≤ 16777216) : tupO c (some ds) = .ok (.dat (.tup ds), c) := if_pos h
theorem s_lstO (h : ds.length ≤ 16777216) : lstO c (some ds) = .ok (.new (.lst ds), c) := if_pos h
def cbO (g : GN) (c : List CO) : Option (List D) → Res (RV × List CO)
  | some ds => optE (g ds) c
  | none => .bad
def kCB (g : GN) : List RV × List CO → Res (RV × List CO) := fun a => cbO g a.2 (dCB.viewAll a.2 a.1)
theorem s_cb : dCB gn ra sl cs = (ra sl cs).then (kCB gn) := rfl
theorem s_cb1 : kCB gn (rs, c) = cbO gn c (dCB.viewAll c rs) := rfl
theorem s_cbO : cbO gn c (some ds) = optE (gn ds) c := rfl
theorem s_va_nil : dCB.viewAll c [] = some [] := rfl
def consO : Option D → Option (List D) → Option (List D)
  | some d, some ds => some (d :: ds)
  | _, _ => none
theorem s_va_cons : dCB.viewAll c (r :: rs) = consO (r.view c) (dCB.viewAll c rs) := by
  show (match r.view c, dCB.viewAll c rs with | some d, some ds => some (d :: ds) | _, _ => none) = _
  unfold consO; rfl
theorem s_consO : consO (some d) (some ds) = some (d :: ds) := rfl
def kCall (n : Nat) (φ : Phi) (drs : List RV) : List RV × List CO → Res (RV × List CO) := fun a => if (a.1 ++ drs).length = n then φ (a.1 ++ drs) a.2 else .bad
theorem s_call {φ : Phi} {drs : List RV} : dCall n φ drs ra sl cs = (ra sl cs).then (kCall n φ drs) := rfl
theorem s_call1 {φ : Phi} {drs : List RV} (h : (rs ++ drs).length = n) : kCall n φ drs (rs, c) = φ (rs ++ drs) c := if_pos h
def kCallK2 (n m : Nat) (φ : Phi) (g : List RV → List RV → List RV) (rs : List RV) : List RV × List CO → Res (RV × List CO) := fun b => if rs.length = n ∧ b.1.length = m then φ (g rs b.1) b.2 else .bad
def kCallK1 (n m : Nat) (φ : Phi) (g : List RV → List RV → List RV) (fk : FA) (sl : List SV) : List RV × List CO → Res (RV × List CO) := fun a => (fk sl a.2).then (kCallK2 n m φ g a.1)
theorem s_callK {φ : Phi} {g : List RV → List RV → List RV} : dCallK n m φ g ra rb sl cs = (ra sl cs).then (kCallK1 n m φ g rb sl) := rfl
theorem s_callK1 {φ : Phi} {g : List RV → List RV → List RV} : kCallK1 n m φ g rb sl (rs, c) = (rb sl c).then (kCallK2 n m φ g rs) := rfl
theorem s_callK2 {φ : Phi} {g : List RV → List RV → List RV} (h : rs.length = n) (h' : rs'.length = m) : kCallK2 n m φ g rs (rs', c) = φ (g rs rs') c := if_pos ⟨h, h'⟩
def isiO (T : String) (c : List CO) : Option D → Res (RV × List CO)
  | some d => match kindS d with
    | some s => match kitB s T with
      | some b => .ok (.dat (.bl b), c)
      | none => .bad
    | none => .bad
  | none => .bad
def kIsi (T : String) : RV × List CO → Res (RV × List CO) := fun a => isiO T a.2 (a.1.view a.2)
theorem s_isi {T : String} : dIsi T fa sl cs = (fa sl cs).then (kIsi T) := by unfold dIsi kIsi isiO; rfl
theorem s_isi1 {T : String} : kIsi T (r, c) = isiO T c (r.view c) := rfl
theorem s_isi_int_non  : isiO "int" c (some .non) = .ok (.dat (.bl false), c) := rfl
theorem s_isi_int_bl {b : Bool} : isiO "int" c (some (.bl b)) = .ok (.dat (.bl true), c) := rfl
theorem s_isi_int_int {b : Int} : isiO "int" c (some (.int b)) = .ok (.dat (.bl true), c) := rfl
theorem s_isi_int_str {b : Str} : isiO "int" c (some (.str b)) = .ok (.dat (.bl false), c) := rfl
theorem s_isi_int_lst {b : List D} : isiO "int" c (some (.lst b)) = .ok (.dat (.bl false), c) := rfl
theorem s_isi_int_tup {b : List D} : isiO "int" c (some (.tup b)) = .ok (.dat (.bl false), c) := rfl
theorem s_isi_int_dct {b : List (Key × D)} : isiO "int" c (some (.dct b)) = .ok (.dat (.bl false), c) := rfl
theorem s_isi_bool_non  : isiO "bool" c (some .non) = .ok (.dat (.bl false), c) := rfl
theorem s_isi_bool_bl {b : Bool} : isiO "bool" c (some (.bl b)) = .ok (.dat (.bl true), c) := rfl
theorem s_isi_bool_int {b : Int} : isiO "bool" c (some (.int b)) = .ok (.dat (.bl false), c) := rfl
theorem s_isi_bool_str {b : Str} : isiO "bool" c (some (.str b)) = .ok (.dat (.bl false), c) := rfl
theorem s_isi_bool_lst {b : List D} : isiO "bool" c (some (.lst b)) = .ok (.dat (.bl false), c) := rfl
theorem s_isi_bool_tup {b : List D} : isiO "bool" c (some (.tup b)) = .ok (.dat (.bl false), c) := rfl
theorem s_isi_bool_dct {b : List (Key × D)} : isiO "bool" c (some (.dct b)) = .ok (.dat (.bl false), c) := rfl
theorem s_isi_str_non  : isiO "str" c (some .non) = .ok (.dat (.bl false), c) := rfl
theorem s_isi_str_bl {b : Bool} : isiO "str" c (some (.bl b)) = .ok (.dat (.bl false), c) := rfl
theorem s_isi_str_int {b : Int} : isiO "str" c (some (.int b)) = .ok (.dat (.bl false), c) := rfl
theorem s_isi_str_str {b : Str} : isiO "str" c (some (.str b)) = .ok (.dat (.bl true), c) := rfl
theorem s_isi_str_lst {b : List D} : isiO "str" c (some (.lst b)) = .ok (.dat (.bl false), c) := rfl
theorem s_isi_str_tup {b : List D} : isiO "str" c (some (.tup b)) = .ok (.dat (.bl false), c) := rfl
theorem s_isi_str_dct {b : List (Key × D)} : isiO "str" c (some (.dct b)) = .ok (.dat (.bl false), c) := rfl
theorem s_isi_list_non  : isiO "list" c (some .non) = .ok (.dat (.bl false), c) := rfl
theorem s_isi_list_bl {b : Bool} : isiO "list" c (some (.bl b)) = .ok (.dat (.bl false), c) := rfl
theorem s_isi_list_int {b : Int} : isiO "list" c (some (.int b)) = .ok (.dat (.bl false), c) := rfl
theorem s_isi_list_str {b : Str} : isiO "list" c (some (.str b)) = .ok (.dat (.bl false), c) := rfl
theorem s_isi_list_lst {b : List D} : isiO "list" c (some (.lst b)) = .ok (.dat (.bl true), c) := rfl
theorem s_isi_list_tup {b : List D} : isiO "list" c (some (.tup b)) = .ok (.dat (.bl false), c) := rfl
theorem s_isi_list_dct {b : List (Key × D)} : isiO "list" c (some (.dct b)) = .ok (.dat (.bl false), c) := rfl
theorem s_isi_tuple_non  : isiO "tuple" c (some .non) = .ok (.dat (.bl false), c) := rfl
theorem s_isi_tuple_bl {b : Bool} : isiO "tuple" c (some (.bl b)) = .ok (.dat (.bl false), c) := rfl
theorem s_isi_tuple_int {b : Int} : isiO "tuple" c (some (.int b)) = .ok (.dat (.bl false), c) := rfl
theorem s_isi_tuple_str {b : Str} : isiO "tuple" c (some (.str b)) = .ok (.dat (.bl false), c) := rfl
theorem s_isi_tuple_lst {b : List D} : isiO "tuple" c (some (.lst b)) = .ok (.dat (.bl false), c) := rfl
theorem s_isi_tuple_tup {b : List D} : isiO "tuple" c (some (.tup b)) = .ok (.dat (.bl true), c) := rfl
theorem s_isi_tuple_dct {b : List (Key × D)} : isiO "tuple" c (some (.dct b)) = .ok (.dat (.bl false), c) := rfl
theorem s_isi_dict_non  : isiO "dict" c (some .non) = .ok (.dat (.bl false), c) := rfl
theorem s_isi_dict_bl {b : Bool} : isiO "dict" c (some (.bl b)) = .ok (.dat (.bl false), c) := rfl
theorem s_isi_dict_int {b : Int} : isiO "dict" c (some (.int b)) = .ok (.dat (.bl false), c) := rfl
theorem s_isi_dict_str {b : Str} : isiO "dict" c (some (.str b)) = .ok (.dat (.bl false), c) := rfl
theorem s_isi_dict_lst {b : List D} : isiO "dict" c (some (.lst b)) = .ok (.dat (.bl false), c) := rfl
theorem s_isi_dict_tup {b : List D} : isiO "dict" c (some (.tup b)) = .ok (.dat (.bl false), c) := rfl
theorem s_isi_dict_dct {b : List (Key × D)} : isiO "dict" c (some (.dct b)) = .ok (.dat (.bl true), c) := rfl
def seqK (t : FS) : Flw → Flw
  | .nx sl cs => t sl cs
  | r => r
theorem s_seq : dSeq s t sl cs = seqK t (s sl cs) := by unfold dSeq seqK; rfl
theorem s_seq_bk : seqK t (.bk sl c) = .bk sl c := rfl
theorem s_seq_ct : seqK t (.ct sl c) = .ct sl c := rfl
theorem s_seq_rt : seqK t (.rt r c) = .rt r c := rfl
theorem s_seq_exc : seqK t (.exc C fs sl c) = .exc C fs sl c := rfl
theorem s_seq_bad : seqK t (.bad ) = .bad  := rfl
theorem s_seq_nx : seqK t (.nx sl c) = t sl c := rfl
theorem s_nx : dNx sl cs = .nx sl cs := rfl
theorem s_bk : dBk sl cs = .bk sl cs := rfl
theorem s_ct : dCt sl cs = .ct sl cs := rfl
theorem s_badS : dBad sl cs = .bad := rfl
def kDrop (sl : List SV) : RV × List CO → Flw := fun a => .nx sl a.2
def kRet : RV × List CO → Flw := fun a => .rt a.1 a.2
theorem s_drop : dDrop fa sl cs = Res.toF sl (fa sl cs) (kDrop sl) := rfl
theorem s_drop1 : kDrop sl (r, c) = .nx sl c := rfl
theorem s_ret : dRet fa sl cs = Res.toF sl (fa sl cs) kRet := rfl
theorem s_ret1 : kRet (r, c) = .rt r c := rfl
theorem s_retN : dRetN sl cs = .rt (.dat .non) cs := rfl
def retO (cs : List CO) : Option SV → Flw
  | some (.dat d) => .rt (.dat d) cs
  | some (.own c) => .rt (.new c) cs
  | some (.scr ns) => .rt (.scr ns) cs
  | _ => .bad
theorem s_retV : dRetV i sl cs = retO cs (sl[i]?) := rfl
theorem s_retV_dat {x : D} : retO cs (some (.dat x)) = .rt (.dat x) cs := rfl
theorem s_retV_own {x : CO} : retO cs (some (.own x)) = .rt (.new x) cs := rfl
theorem s_retV_scr {x : List Int} : retO cs (some (.scr x)) = .rt (.scr x) cs := rfl
def kIfS (s t : FS) (sl : List SV) : Bool × List CO → Flw := fun a => if a.1 then s sl a.2 else t sl a.2
theorem s_ifS : dIfS ft s t sl cs = Res.toF sl (ft sl cs) (kIfS s t sl) := rfl
theorem s_ifS_t : kIfS s t sl (true, c) = s sl c := rfl
theorem s_ifS_f : kIfS s t sl (false, c) = t sl c := rfl
theorem s_setS_dat {x : D} (h : i < sl.length) : setS i (.dat x) sl = some (sl.set i (.dat x)) := if_pos h
theorem s_setS_new {x : CO} (h : i < sl.length) : setS i (.new x) sl = some (sl.set i (.own x)) := if_pos h
theorem s_setS_scr {x : List Int} (h : i < sl.length) : setS i (.scr x) sl = some (sl.set i (.scr x)) := if_pos h
theorem s_nxO : nxO (some sl) c = .nx sl c := rfl
def kAsg (i : Nat) (sl : List SV) : RV × List CO → Flw := fun a => nxO (setS i a.1 sl) a.2
theorem s_asg : dAsg i fa sl cs = Res.toF sl (fa sl cs) (kAsg i sl) := rfl
theorem s_asg1 : kAsg i sl (r, c) = nxO (setS i r sl) c := rfl
def parO (j : Nat) (y : D) (c : List CO) : Option (List SV) → Flw
  | some s1 => nxO (setS j (.dat y) s1) c
  | none => .bad
def kPar (i j : Nat) (sl : List SV) : List RV × List CO → Flw := fun a => match a.1 with
  | [.dat x, .dat y] => parO j y a.2 (setS i (.dat x) sl)
  | _ => .bad
theorem s_par : dPar i j ra sl cs = Res.toF sl (ra sl cs) (kPar i j sl) := by
  unfold dPar kPar; congr 1
theorem s_par1 {x y : D} : kPar i j sl ([.dat x, .dat y], c) = parO j y c (setS i (.dat x) sl) := rfl
theorem s_parO {y : D} : parO j y c (some sl) = nxO (setS j (.dat y) sl) c := rfl
theorem s_fz : dFz i s sl cs = s (frzS i sl) cs := rfl
def frzO (i : Nat) (sl : List SV) : Option SV → List SV
  | some (.own c) => sl.set i (.dat c.D)
  | _ => sl
theorem s_frzS : frzS i sl = frzO i sl (sl[i]?) := rfl
theorem s_frzS_own {x : CO} : frzO i sl (some (.own x)) = sl.set i (.dat x.D) := rfl
theorem s_frzS_dat : frzO i sl (some (.dat d)) = sl := rfl
theorem s_frzS_un : frzO i sl (some .un) = sl := rfl
def getP (cs : List CO) : Option SV → Option CO
  | some (.own c) => some c
  | some (.dat (.ref k)) => cs[k]?.bind CO.noTab
  | _ => none
theorem s_getO : getO i sl cs = getP cs (sl[i]?) := rfl
theorem s_getO_own {x : CO} : getP cs (some (.own x)) = some x := rfl
theorem s_getO_cell : getP cs (some (.dat (.ref j))) = cs[j]?.bind CO.noTab := rfl
def putP (i : Nat) (c : CO) (sl : List SV) (cs : List CO) : Option SV → Flw
  | some (.own _) => .nx (sl.set i (.own c)) cs
  | some (.dat (.ref k)) => .nx sl (cs.set k c)
  | _ => .bad
theorem s_putO {x : CO} : putO i x sl cs = putP i x sl cs (sl[i]?) := rfl
theorem s_putO_own {x x' : CO} : putP i x sl cs (some (.own x')) = .nx (sl.set i (.own x)) cs := rfl
theorem s_putO_cell {x : CO} : putP i x sl cs (some (.dat (.ref j))) = .nx sl (cs.set j x) := rfl
def appO (i : Nat) (sl : List SV) (c : List CO) (d : D) : Option CO → Flw
  | some (.lst xs) => if xs.length < sizeLine then putO i (.lst (xs ++ [d])) sl c else .bad
  | _ => .bad
def kApp (i : Nat) (sl : List SV) : List RV × List CO → Flw := fun a => match a.1 with
  | [.dat d] => appO i sl a.2 d (getO i sl a.2)
  | _ => .bad
def appS (ra : FA) (i : Nat) (sl : List SV) (cs : List CO) : Option CO → Flw
  | some (.lst _) => Res.toF sl (ra sl cs) (kApp i sl)
  | _ => .bad
theorem s_app : dApp i ra sl cs = appS ra i sl cs (getO i sl cs) := by
  unfold dApp appS
  cases getO i sl cs with
  | none => rfl
  | some x => cases x with
    | lst xs =>
      show Res.toF _ _ _ = Res.toF _ _ _
      congr 1; funext a
      obtain ⟨rs, c⟩ := a
      match rs with
      | [] => rfl
      | [.dat d] =>
        unfold kApp appO
        dsimp only
        cases getO i sl c with
        | none => rfl
        | some y => cases y <;> rfl
      | [.new _] => rfl
      | [.own _] => rfl
      | [.scr _] => rfl
      | (.dat _) :: _ :: _ => rfl
      | (.new _) :: _ :: _ => rfl
      | (.own _) :: _ :: _ => rfl
      | (.scr _) :: _ :: _ => rfl
    | dct _ => rfl
    | obj _ _ => rfl
    | tab _ _ => rfl
theorem s_appS {xs : List D} : appS ra i sl cs (some (.lst xs)) = Res.toF sl (ra sl cs) (kApp i sl) := rfl
theorem s_app1 : kApp i sl ([.dat d], c) = appO i sl c d (getO i sl c) := rfl
theorem s_appO {xs : List D} (h : xs.length < 16777216) : appO i sl c d (some (.lst xs)) = putO i (.lst (xs ++ [d])) sl c := if_pos h
def sxP (i : Nat) (sl : List SV) (c : List CO) (d : D) (xs : List D) : Option Nat → Flw
  | some n => putO i (.lst (xs.set n d)) sl c
  | none => .bad
def sxO (i : Nat) (sl : List SV) (c : List CO) (d : D) (r : RV) : Option CO → Flw := fun o => match r, o with
  | .dat (.int j), some (.lst xs) => sxP i sl c d xs (ixN xs.length j)
  | _, _ => .bad
def kSx2 (i : Nat) (sl : List SV) (d : D) : RV × List CO → Flw := fun b => sxO i sl b.2 d b.1 (getO i sl b.2)
def sxG (i : Nat) (fj : FE) (sl : List SV) (c : List CO) (d : D) : Option CO → Flw
  | some _ => Res.toF sl (fj sl c) (kSx2 i sl d)
  | none => .bad
def kSx1 (i : Nat) (fj : FE) (sl : List SV) : RV × List CO → Flw := fun a => match a.1 with
  | .dat d => sxG i fj sl a.2 d (getO i sl a.2)
  | _ => .bad
theorem s_sx : dSetIx i fe fj sl cs = Res.toF sl (dFrz fe sl cs) (kSx1 i fj sl) := rfl
theorem s_sx1 : kSx1 i fj sl (.dat d, c) = sxG i fj sl c d (getO i sl c) := rfl
theorem s_sxG {x : CO} : sxG i fj sl c d (some x) = Res.toF sl (fj sl c) (kSx2 i sl d) := rfl
theorem s_sx2 : kSx2 i sl d (r, c) = sxO i sl c d r (getO i sl c) := rfl
theorem s_sxO {k : Int} {xs : List D} : sxO i sl c d (.dat (.int k)) (some (.lst xs)) = sxP i sl c d xs (ixN xs.length k) := rfl
theorem s_sxP {xs : List D} : sxP i sl c d xs (some n) = putO i (.lst (xs.set n d)) sl c := rfl
def kFor (t : FG) (body : FS) (sl : List SV) : Src × List CO → Flw := fun a => loopX t body a.1 sl a.2
theorem s_for : dFor fi tg s sl cs = Res.toF sl (fi sl cs) (kFor tg s sl) := rfl
theorem s_for1 : kFor tg s sl (.lit ds, c) = loopF tg s ds sl c := rfl
theorem s_for2 {k : Nat} : kFor tg s sl (.cel k, c) = loopS tg s (.cel k) 100000 0 sl c := rfl
theorem s_tgN : tgN i d sl = setS i (.dat d) sl := rfl
theorem s_tgT {is : List Nat} : tgT is (.tup ds) sl = tgAll is ds sl := rfl
theorem s_tgAll_nil : tgAll [] [] sl = some sl := rfl
def tgA1 (is : List Nat) (ds : List D) : Option (List SV) → Option (List SV)
  | some s1 => tgAll is ds s1
  | none => none
theorem s_tgAll_cons {is : List Nat} : tgAll (i :: is) (d :: ds) sl = tgA1 is ds (setS i (.dat d) sl) := rfl
theorem s_tgA1 {is : List Nat} : tgA1 is ds (some sl) = tgAll is ds sl := rfl
def kUnp (t : FG) (sl : List SV) : RV × List CO → Flw := fun a => match a.1 with
  | .dat d => nxO (t d sl) a.2
  | _ => .bad
theorem s_unp : dUnp tg fa sl cs = Res.toF sl (dFrz fa sl cs) (kUnp tg sl) := rfl
theorem s_unp1 : kUnp tg sl (.dat d, c) = nxO (tg d sl) c := rfl
theorem s_while : dWhile n ft s sl cs = whileF ft s n sl cs := rfl
def kItems : RV × List CO → Res (Src × List CO) := fun a => match a.1 with
  | .dat (.lst ds) => .ok (.lit ds, a.2)
  | .dat (.tup ds) => .ok (.lit ds, a.2)
  | .dat (.str z) => .ok (.lit (z.cps.toList.map one), a.2)
  | .dat (.ref k) => if (lstOf (a.2[k]?)).isSome then .ok (.cel k, a.2) else .bad
  | _ => .bad
theorem s_items : itemsOf fa sl cs = (dFrz fa sl cs).then kItems := rfl
theorem s_items_l : kItems (.dat (.lst ds), c) = .ok (.lit ds, c) := rfl
theorem s_items_t : kItems (.dat (.tup ds), c) = .ok (.lit ds, c) := rfl
theorem s_items_s {z : Str} : kItems (.dat (.str z), c) = .ok (.lit (z.cps.toList.map one), c) := rfl
theorem s_items_r {k : Nat} (h : lstOf (c[k]?) = some ds) : kItems (.dat (.ref k), c) = .ok (.cel k, c) := if_pos (by rw [h]; rfl)
def kR1 : List RV × List CO → Res (Src × List CO) := fun a => match a.1 with
  | [.dat (.int j)] => if -(2 ^ 62) ≤ j ∧ j < 2 ^ 62 then .ok (.lit (rngL 0 j.toNat), a.2) else .bad
  | _ => .bad
theorem s_r1 : rng1 ra sl cs = (ra sl cs).then kR1 := rfl
theorem s_r11 {k : Int} (h0 : -4611686018427387904 ≤ k) (h1 : k < 4611686018427387904) : kR1 ([.dat (.int k)], c) = .ok (.lit (rngL 0 k.toNat), c) := if_pos ⟨h0, h1⟩
def kR2 : List RV × List CO → Res (Src × List CO) := fun a => match a.1 with
  | [.dat (.int i), .dat (.int j)] => if -(2 ^ 62) ≤ i ∧ i < 2 ^ 62 ∧ -(2 ^ 62) ≤ j ∧ j < 2 ^ 62 then .ok (.lit (rngL i (j - i).toNat), a.2) else .bad
  | _ => .bad
theorem s_r2 : rng2 ra sl cs = (ra sl cs).then kR2 := rfl
theorem s_r21 {k l : Int} (h0 : -4611686018427387904 ≤ k) (h1 : k < 4611686018427387904) (h2 : -4611686018427387904 ≤ l) (h3 : l < 4611686018427387904) : kR2 ([.dat (.int k), .dat (.int l)], c) = .ok (.lit (rngL k (l - k).toNat), c) := if_pos ⟨h0, h1, h2, h3⟩
def kR3 : List RV × List CO → Res (Src × List CO) := fun a => match a.1 with
  | [.dat (.int i), .dat (.int j), .dat (.int c)] => if c ≠ 0 ∧ c.natAbs < 1073741824 ∧ Builtin.Range.small i j c = true ∧ 0 ≤ Builtin.Range.rangeSize i j c then .ok (.lit (rngC i c (Builtin.Range.rangeSize i j c).toNat), a.2) else .bad
  | _ => .bad
theorem s_r3 : rng3 ra sl cs = (ra sl cs).then kR3 := rfl
/-- range of three: what it needs -/
def r3ok (i j c : Int) : Bool := decide (c ≠ 0 ∧ c.natAbs < 1073741824 ∧ Builtin.Range.small i j c = true ∧ 0 ≤ Builtin.Range.rangeSize i j c)
theorem s_r31 {k l q : Int} (h : r3ok k l q = true) : kR3 ([.dat (.int k), .dat (.int l), .dat (.int q)], c) = .ok (.lit (rngC k q (Builtin.Range.rangeSize k l q).toNat), c) := if_pos (of_decide_eq_true h)
def kEn : List RV × List CO → Res (Src × List CO) := fun a => match a.1 with
  | [.dat (.lst ds)] => .ok (.lit (enumL 0 ds), a.2)
  | _ => .bad
theorem s_en : enumF ra sl cs = (ra sl cs).then kEn := rfl
theorem s_en1 : kEn ([.dat (.lst ds)], c) = .ok (.lit (enumL 0 ds), c) := rfl
def kZip : List RV × List CO → Res (Src × List CO) := fun a => match a.1 with
  | [.dat (.lst ds), .dat (.lst es)] => .ok (.lit (zipL ds es), a.2)
  | _ => .bad
theorem s_zip : zipF ra sl cs = (ra sl cs).then kZip := rfl
theorem s_zip1 {es : List D} : kZip ([.dat (.lst ds), .dat (.lst es)], c) = .ok (.lit (zipL ds es), c) := rfl
def kLc2 : List D × List CO → Res (RV × List CO) := fun b => .ok (.new (.lst b.1), b.2)
def kLc (t : FG) (ft : FT) (fe : FE) (vs : List Nat) (sl : List SV) : Src × List CO → Res (RV × List CO) := fun a => (lcX t ft fe (wipeL vs sl) a.1 a.2).then kLc2
theorem s_lc {vs : List Nat} : dLc fi tg ft fe vs sl cs = (fi sl cs).then (kLc tg ft fe vs sl) := rfl
theorem s_lc1 {vs : List Nat} : kLc tg ft fe vs sl (.lit ds, c) = (lcF tg ft fe (wipeL vs sl) ds [] c).then kLc2 := rfl
theorem s_lc2 : kLc2 (ds, c) = .ok (.new (.lst ds), c) := rfl
theorem s_yes : tYesD sl cs = .ok (true, cs) := rfl
def lenO (cs : List CO) : Option SV → Res (RV × List CO)
  | some (.scr ns) => .ok (.dat (.int ns.length), cs)
  | _ => .bad
theorem s_lenS : dLenS i sl cs = lenO cs (sl[i]?) := rfl
theorem s_lenO {z : List Int} : lenO cs (some (.scr z)) = .ok (.dat (.int z.length), cs) := rfl
def ixSO (c : List CO) : Option Int → Res (RV × List CO)
  | some n => .ok (.dat (.int n), c)
  | none => .bad
def kIxS (z : List Int) : RV × List CO → Res (RV × List CO) := fun b => match b.1 with
  | .dat (.int j) => ixSO b.2 (atI z j)
  | _ => .bad
def ixSP (fa : FE) (sl : List SV) (cs : List CO) : Option SV → Res (RV × List CO)
  | some (.scr z) => (fa sl cs).then (kIxS z)
  | _ => .bad
theorem s_ixS : dIxS i fa sl cs = ixSP fa sl cs (sl[i]?) := rfl
theorem s_ixSP {z : List Int} : ixSP fa sl cs (some (.scr z)) = (fa sl cs).then (kIxS z) := rfl
theorem s_ixS1 {z : List Int} {k : Int} : kIxS z (.dat (.int k), c) = ixSO c (atI z k) := rfl
theorem s_ixSO {k : Int} : ixSO c (some k) = .ok (.dat (.int k), c) := rfl
def pinO (i : Nat) (s : FS) (sl : List SV) (cs : List CO) : Option SV → Flw
  | some (.own c) => s (sl.set i (.dat (.ref cs.length))) (cs ++ [c])
  | _ => .bad
theorem s_pin : dPin i s sl cs = pinO i s sl cs (sl[i]?) := rfl
theorem s_pinO {x : CO} : pinO i s sl cs (some (.own x)) = s (sl.set i (.dat (.ref cs.length))) (cs ++ [x]) := rfl
def cutK (n : Nat) (sl : List SV) (cs : List CO) : Bool → Flw
  | true => .nx (sl.map (SV.cut n)) (cs.take n)
  | false => .bad
theorem s_scope : dScope s sl cs = cutF cs.length (s sl cs) := rfl
theorem s_cut_nx : cutF n (.nx sl cs) = cutK n sl cs ((cs.take n).all (CO.und n)) := by
  show (if (cs.take n).all (CO.und n) = true then Flw.nx (sl.map (SV.cut n)) (cs.take n) else Flw.bad) = cutK n sl cs ((cs.take n).all (CO.und n))
  cases (cs.take n).all (CO.und n) <;> rfl
theorem s_cut_rt : cutF n (.rt r cs) = .rt r cs := rfl
theorem s_cutK : cutK n sl cs true = .nx (sl.map (SV.cut n)) (cs.take n) := rfl
theorem s_und_tab {P : Addr} {q : Str} : CO.und n (.tab P q) = true := rfl
def runK : Flw → Res (RV × List CO)
  | .nx _ c => .ok (.dat .non, c)
  | .rt (.own _) _ => .bad
  | .rt r c => .ok (r, c)
  | .exc C fs _ c => .exc C fs c
  | _ => .bad
def runO (n : Nat) (f : FS) (cs : List CO) : Option (List SV) → Res (RV × List CO)
  | some sl => runK (f (sl ++ List.replicate n .un) cs)
  | none => .bad
theorem s_runB : runB n s rs cs = runO n s cs (svAll rs) := rfl
theorem s_runO : runO n s cs (some sl) = runK (s (sl ++ List.replicate n .un) cs) := rfl
theorem s_run_nx : runK (.nx sl c) = .ok (.dat .non, c) := rfl
theorem s_run_dat : runK (.rt (.dat d) c) = .ok (.dat d, c) := rfl
theorem s_run_new {x : CO} : runK (.rt (.new x) c) = .ok (.new x, c) := rfl
theorem s_run_scr {z : List Int} : runK (.rt (.scr z) c) = .ok (.scr z, c) := rfl
theorem s_run_exc : runK (.exc C fs sl c) = .exc C fs c := rfl
theorem s_sv_nil : svAll [] = some [] := rfl
def svC : Option SV → Option (List SV) → Option (List SV)
  | some s, some l => some (s :: l)
  | _, _ => none
theorem s_sv_cons : svAll (r :: rs) = svC (svOf r) (svAll rs) := by
  show (match svOf r, svAll rs with | some s, some l => some (s :: l) | _, _ => none) = _
  unfold svC; rfl
theorem s_svC {x : SV} : svC (some x) (some sl) = some (x :: sl) := rfl
theorem s_svO_dat : svOf (.dat d) = some (.dat d) := rfl
theorem s_svO_scr {z : List Int} : svOf (.scr z) = some (.scr z) := rfl
theorem s_gSub {x y : Int} : gSub (.int x) (.int y) = some (.dat (.int (x - y))) := rfl
theorem s_gLt {x y : Int} : gLt (.int x) (.int y) = some (.dat (.bl (decide (x < y)))) := rfl
theorem s_gLe {x y : Int} : gLe (.int x) (.int y) = some (.dat (.bl (decide (x ≤ y)))) := rfl
theorem s_gGt {x y : Int} : gGt (.int x) (.int y) = some (.dat (.bl (decide (y < x)))) := rfl
theorem s_gGe {x y : Int} : gGe (.int x) (.int y) = some (.dat (.bl (decide (y ≤ x)))) := rfl
theorem s_gAdd {x y : Int} : gAdd (.int x) (.int y) = some (.dat (.int (x + y))) := rfl
theorem s_gMul {x y : Int} (h : mulB x y = true) : gMul (.int x) (.int y) = some (.dat (.int (x * y))) := if_pos h
theorem s_gFdiv {x y : Int} (h0 : 0 < y) (h1 : y < 1073741824) : gFdiv (.int x) (.int y) = some (.dat (.int (x / y))) := by show (if (decide (0 < y) && decide (y < 1073741824)) = true then _ else _) = _; rw [decide_eq_true h0, decide_eq_true h1]; rfl
theorem s_gMod {x y : Int} (h0 : 0 < y) : gMod (.int x) (.int y) = some (.dat (.int (x % y))) := by show (if (decide (0 < y)) = true then _ else _) = _; rw [decide_eq_true h0]; rfl
theorem s_gPow {x y : Int} (h0 : 0 ≤ y) (h1 : y ≤ 1000000) (h2 : x.natAbs < 18446744073709551616) : gPow (.int x) (.int y) = some (.dat (.int (x ^ y.toNat))) := by show (if (decide (0 ≤ y) && (decide (y ≤ 1000000) && decide (x.natAbs < 2 ^ 64))) = true then _ else _) = _; rw [decide_eq_true h0, decide_eq_true h1, decide_eq_true (show x.natAbs < 2 ^ 64 from h2)]; rfl
theorem s_gNeg {x : Int} : gNeg (.int x) = some (.dat (.int (-x))) := rfl
theorem s_gAddL {xs ys : List D} (h : xs.length + ys.length ≤ 16777216) : gAdd (.lst xs) (.lst ys) = some (.new (.lst (xs ++ ys))) := if_pos h
theorem s_gAddS {x y : Str} (h : x.length + y.length ≤ 16777216) : gAdd (.str x) (.str y) = some (.dat (.str (x ++ y))) := if_pos h
theorem s_gEq {d' : D} : gEq d d' = (eqB d d').map fun k => .dat (.bl k) := by unfold gEq; cases eqB d d' <;> rfl
theorem s_gNe {d' : D} : gNe d d' = (eqB d d').map fun k => .dat (.bl (!k)) := by unfold gNe; cases eqB d d' <;> rfl
theorem s_eq_int {x y : Int} : eqB (.int x) (.int y) = some (decide (x = y)) := rfl
theorem s_eq_bl {x y : Bool} : eqB (.bl x) (.bl y) = some (decide (x = y)) := rfl
theorem s_eq_str {x y : Str} : eqB (.str x) (.str y) = some (decide (x = y)) := rfl
theorem s_eq_nn : eqB .non .non = some true := rfl
theorem s_eq_ni {x : Int} : eqB .non (.int x) = some false := rfl
theorem s_eq_in {x : Int} : eqB (.int x) .non = some false := rfl
theorem s_eq_ns {x : Str} : eqB .non (.str x) = some false := rfl
theorem s_eq_sn {x : Str} : eqB (.str x) .non = some false := rfl
theorem s_eq_si {x : Str} {y : Int} : eqB (.str x) (.int y) = some false := rfl
theorem s_eq_is {x : Str} {y : Int} : eqB (.int y) (.str x) = some false := rfl
theorem s_gIsN_non : gIsN .non .non = some (.dat (.bl true)) := rfl
theorem s_gIsN_int {x : Int} : gIsN (.int x) .non = some (.dat (.bl false)) := rfl
theorem s_gIsN_bl {x : Bool} : gIsN (.bl x) .non = some (.dat (.bl false)) := rfl
theorem s_gIsN_str {x : Str} : gIsN (.str x) .non = some (.dat (.bl false)) := rfl
theorem s_gIsN_lst {x : List D} : gIsN (.lst x) .non = some (.dat (.bl false)) := rfl
theorem s_gIsN_tup {x : List D} : gIsN (.tup x) .non = some (.dat (.bl false)) := rfl
theorem s_gIsN_dct {x : List (Key × D)} : gIsN (.dct x) .non = some (.dat (.bl false)) := rfl
theorem s_gNotN_non : gNotN .non .non = some (.dat (.bl false)) := rfl
theorem s_gNotN_int {x : Int} : gNotN (.int x) .non = some (.dat (.bl true)) := rfl
theorem s_gNotN_bl {x : Bool} : gNotN (.bl x) .non = some (.dat (.bl true)) := rfl
theorem s_gNotN_str {x : Str} : gNotN (.str x) .non = some (.dat (.bl true)) := rfl
theorem s_gNotN_lst {x : List D} : gNotN (.lst x) .non = some (.dat (.bl true)) := rfl
theorem s_gNotN_tup {x : List D} : gNotN (.tup x) .non = some (.dat (.bl true)) := rfl
theorem s_gNotN_dct {x : List (Key × D)} : gNotN (.dct x) .non = some (.dat (.bl true)) := rfl
theorem s_gIx_l {k : Int} : gIx (.lst ds) (.int k) = (atI ds k).map RV.dat := rfl
theorem s_gIx_t {k : Int} : gIx (.tup ds) (.int k) = (atI ds k).map RV.dat := rfl
theorem s_gIx_s {z : Str} {k : Int} (h : z.length ≤ 16777216) : gIx (.str z) (.int k) = (atI z.cps.toList k).map fun c => .dat (.str ⟨#[c]⟩) := if_pos h
theorem s_gLen_l : gLen [.lst ds] = some (.dat (.int ds.length)) := rfl
theorem s_gLen_t : gLen [.tup ds] = some (.dat (.int ds.length)) := rfl
theorem s_gLen_s {z : Str} (h : z.length ≤ 16777216) : gLen [.str z] = some (.dat (.int z.length)) := if_pos h
theorem s_gMax {x y : Int} : gMax [.int x, .int y] = some (.dat (.int (if y > x then y else x))) := rfl
theorem s_gMin {x y : Int} : gMin [.int x, .int y] = some (.dat (.int (if y < x then y else x))) := rfl
theorem s_gAbs {x : Int} : gAbs [.int x] = some (.dat (.int (if x < 0 then -x else x))) := rfl
theorem s_gInt {x : Int} : gInt [.int x] = some (.dat (.int x)) := rfl
theorem s_gIntB {x : Bool} : gInt [.bl x] = some (.dat (.int (if x then 1 else 0))) := rfl
theorem s_gList_l : gList [.lst ds] = some (.new (.lst ds)) := rfl
theorem s_gList_t : gList [.tup ds] = some (.new (.lst ds)) := rfl
theorem s_gRepr (h : reprOk d = true) : gRepr [d] = some (.dat (.str (PyData.shown d.py))) := if_pos h
theorem s_tr_non : truD .non = some false := rfl
theorem s_tr_bl : truD (.bl b) = some b := rfl
theorem s_tr_int {x : Int} : truD (.int x) = some (x != 0) := rfl
theorem s_tr_lst : truD (.lst ds) = some (!ds.isEmpty) := rfl
theorem s_tr_tup : truD (.tup ds) = some (!ds.isEmpty) := rfl
theorem s_tr_str {z : Str} (h : z.length ≤ 16777216) : truD (.str z) = some ((z.length : Int) != 0) := if_pos h
end
end SL

local macro_rules | `(tactic| walk_at "dl") => `(tactic| simp only [
  SL.s_then_ok, SL.s_then_exc, SL.s_then_bad, SL.s_toF_ok, SL.s_toF_exc, SL.s_toF_bad, SL.s_var, SL.s_var_dat, SL.s_var_own, SL.s_var_scr, SL.s_con, SL.s_view_new, SL.s_view_own,
  SL.s_view_dat, SL.s_vwD_ref, SL.s_vw_lst, SL.s_vw_dct, SL.s_nt_lst, SL.s_nt_dct, SL.s_vwD_non, SL.s_vwD_bl, SL.s_vwD_int, SL.s_vwD_str, SL.s_vwD_lst, SL.s_vwD_tup, SL.s_vwD_dct,
  SL.s_vwD_obj, SL.s_vw_obj, SL.s_nt_obj, SL.s_D_lst, SL.s_D_dct, SL.s_D_obj, SL.s_optE_some, SL.s_optE_none, SL.s_vw2, SL.s_op, SL.s_op1, SL.s_op2, SL.s_vw1, SL.s_un, SL.s_un1,
  SL.s_toT, SL.s_toT1, SL.s_trO, SL.s_toTru, SL.s_toTru1, SL.s_and, SL.s_and_t, SL.s_and_f, SL.s_or, SL.s_or_t, SL.s_or_f, SL.s_not, SL.s_not1, SL.s_tand, SL.s_tand_t, SL.s_tand_f,
  SL.s_tor, SL.s_tor_t, SL.s_tor_f, SL.s_tnot, SL.s_tnot1, SL.s_if, SL.s_if_t, SL.s_if_f, SL.s_ch, SL.s_ch1, SL.s_ch2, SL.s_chA, SL.s_chB_t, SL.s_chB_f, SL.s_frz, SL.s_frz_dat,
  SL.s_cell, SL.s_cell_dat, SL.s_cell_new, SL.s_frz_scr, SL.s_frz_new, SL.s_nil, SL.s_cons, SL.s_consV, SL.s_cons1, SL.s_cons2, SL.s_datAll_nil, SL.s_datAll_cons, SL.s_tup, SL.s_lst,
  SL.s_tup1, SL.s_lst1, SL.s_tupO, SL.s_lstO, SL.s_cb, SL.s_cb1, SL.s_cbO, SL.s_va_nil, SL.s_va_cons, SL.s_consO, SL.s_call, SL.s_call1, SL.s_callK, SL.s_callK1, SL.s_callK2,
  SL.s_isi, SL.s_isi1, SL.s_isi_int_non, SL.s_isi_int_bl, SL.s_isi_int_int, SL.s_isi_int_str, SL.s_isi_int_lst, SL.s_isi_int_tup, SL.s_isi_int_dct, SL.s_isi_bool_non,
  SL.s_isi_bool_bl, SL.s_isi_bool_int, SL.s_isi_bool_str, SL.s_isi_bool_lst, SL.s_isi_bool_tup, SL.s_isi_bool_dct, SL.s_isi_str_non, SL.s_isi_str_bl, SL.s_isi_str_int,
  SL.s_isi_str_str, SL.s_isi_str_lst, SL.s_isi_str_tup, SL.s_isi_str_dct, SL.s_isi_list_non, SL.s_isi_list_bl, SL.s_isi_list_int, SL.s_isi_list_str, SL.s_isi_list_lst,
  SL.s_isi_list_tup, SL.s_isi_list_dct, SL.s_isi_tuple_non, SL.s_isi_tuple_bl, SL.s_isi_tuple_int, SL.s_isi_tuple_str, SL.s_isi_tuple_lst, SL.s_isi_tuple_tup, SL.s_isi_tuple_dct,
  SL.s_isi_dict_non, SL.s_isi_dict_bl, SL.s_isi_dict_int, SL.s_isi_dict_str, SL.s_isi_dict_lst, SL.s_isi_dict_tup, SL.s_isi_dict_dct, SL.s_seq, SL.s_seq_bk, SL.s_seq_ct, SL.s_seq_rt,
  SL.s_seq_exc, SL.s_seq_bad, SL.s_seq_nx, SL.s_nx, SL.s_bk, SL.s_ct, SL.s_badS, SL.s_drop, SL.s_drop1, SL.s_ret, SL.s_ret1, SL.s_retN, SL.s_retV, SL.s_retV_dat, SL.s_retV_own,
  SL.s_retV_scr, SL.s_ifS, SL.s_ifS_t, SL.s_ifS_f, SL.s_setS_dat, SL.s_setS_new, SL.s_setS_scr, SL.s_nxO, SL.s_asg, SL.s_asg1, SL.s_par, SL.s_par1, SL.s_parO, SL.s_fz, SL.s_frzS,
  SL.s_frzS_own, SL.s_frzS_dat, SL.s_frzS_un, SL.s_getO, SL.s_getO_own, SL.s_getO_cell, SL.s_putO, SL.s_putO_own, SL.s_putO_cell, SL.s_app, SL.s_appS, SL.s_app1, SL.s_appO, SL.s_sx,
  SL.s_sx1, SL.s_sxG, SL.s_sx2, SL.s_sxO, SL.s_sxP, SL.s_for, SL.s_for1, SL.s_for2, SL.s_tgN, SL.s_tgT, SL.s_tgAll_nil, SL.s_tgAll_cons, SL.s_tgA1, SL.s_unp, SL.s_unp1, SL.s_while,
  SL.s_items, SL.s_items_l, SL.s_items_t, SL.s_items_s, SL.s_items_r, SL.s_r1, SL.s_r11, SL.s_r2, SL.s_r21, SL.s_r3, SL.s_r31, SL.s_en, SL.s_en1, SL.s_zip, SL.s_zip1, SL.s_lc,
  SL.s_lc1, SL.s_lc2, SL.s_yes, SL.s_lenS, SL.s_lenO, SL.s_ixS, SL.s_ixSP, SL.s_ixS1, SL.s_ixSO, SL.s_pin, SL.s_pinO, SL.s_scope, SL.s_cut_nx, SL.s_cut_rt, SL.s_cutK, SL.s_und_tab,
  SL.s_runB, SL.s_runO, SL.s_run_nx, SL.s_run_dat, SL.s_run_new, SL.s_run_scr, SL.s_run_exc, SL.s_sv_nil, SL.s_sv_cons, SL.s_svC, SL.s_svO_dat, SL.s_svO_scr, SL.s_gSub, SL.s_gLt,
  SL.s_gLe, SL.s_gGt, SL.s_gGe, SL.s_gAdd, SL.s_gMul, SL.s_gFdiv, SL.s_gMod, SL.s_gPow, SL.s_gNeg, SL.s_gAddL, SL.s_gAddS, SL.s_gEq, SL.s_gNe, SL.s_eq_int, SL.s_eq_bl, SL.s_eq_str,
  SL.s_eq_nn, SL.s_eq_ni, SL.s_eq_in, SL.s_eq_ns, SL.s_eq_sn, SL.s_eq_si, SL.s_eq_is, SL.s_gIsN_non, SL.s_gIsN_int, SL.s_gIsN_bl, SL.s_gIsN_str, SL.s_gIsN_lst, SL.s_gIsN_tup,
  SL.s_gIsN_dct, SL.s_gNotN_non, SL.s_gNotN_int, SL.s_gNotN_bl, SL.s_gNotN_str, SL.s_gNotN_lst, SL.s_gNotN_tup, SL.s_gNotN_dct, SL.s_gIx_l, SL.s_gIx_t, SL.s_gIx_s, SL.s_gLen_l,
  SL.s_gLen_t, SL.s_gLen_s, SL.s_gMax, SL.s_gMin, SL.s_gAbs, SL.s_gInt, SL.s_gIntB, SL.s_gList_l, SL.s_gList_t, SL.s_gRepr, SL.s_tr_non, SL.s_tr_bl, SL.s_tr_int, SL.s_tr_lst,
  SL.s_tr_tup, SL.s_tr_str, SL.arr, SL.atI0, SL.atI1, SL.atI2, SL.atI3, SL.atI4, SL.atI5, SL.ixN_4_0, SL.ixN_4_3, SL.mulB_l, SL.mulB_r, List.getElem?_cons_zero,
  List.getElem?_cons_succ, List.set_cons_zero, List.set_cons_succ, List.length_cons, List.length_nil, List.cons_append, List.nil_append, List.append_nil, List.replicate_succ,
  List.replicate_zero, List.length_set, Option.map_some, Option.map_none, Option.bind_some, List.map_cons, List.map_nil, List.isEmpty_cons, List.isEmpty_nil, List.take_succ_cons,
  List.take_zero, List.drop_succ_cons, List.drop_zero, List.drop_nil, List.take_nil, ite_true, ite_false, Bool.true_and, Bool.and_true, Bool.true_or, Bool.or_true, Bool.false_or,
  Bool.or_false, Bool.false_and, Bool.and_false, Bool.not_true, Bool.not_false, Bool.false_eq_true, eq_self, decide_true, decide_false, Nat.lt_add_one, Nat.zero_lt_succ,
  Nat.reduceAdd, Nat.reduceLT, Nat.reduceLeDiff, Int.reduceLT, Int.reduceLE, Int.reducePow, Int.reduceToNat, Int.reduceNeg, Int.reduceAbs, Int.reduceMul, Int.reduceAdd,
  Int.reduceSub, Int.reduceGT, Int.reduceEq, Int.cast_ofNat_Int, and_self, true_and, and_true, *])
/-! So: the laws' own helpers. -/
namespace SL
open PySem L2
/-! the law's own helpers, with their numbers left open -/
def mTake (k1 k2 k3 : Int) : FS :=
  dSeq (dIfS (toT (dOp gGt (dOp gIx (dVar 0) (dCon (.int 0))) (dCon (.int 0))))
    (dSeq (dAsg 4 (dOp gMod (dOp gIx (dVar 0) (dCon (.int 0))) (dVar 1)))
    (dSeq (dSetIx 0 (dOp gFdiv (dOp gIx (dVar 0) (dCon (.int 0))) (dVar 1)) (dCon (.int 0)))
    (dRetV 4)))
    dNx)
    (dSeq (dSetIx 0 (dOp gAdd (dOp gIx (dVar 0) (dCon (.int 3))) (dCon (.int 1))) (dCon (.int 3)))
    (dSeq (dAsg 2 (dOp gIx (dVar 0) (dCon (.int 3))))
    (dSeq (dAsg 3 (dOp gMod (dOp gPow (dOp gAdd (dOp gAdd (dOp gMul (dOp gIx (dVar 0) (dCon (.int 1))) (dOp gAdd (dOp gMul (dCon (.int 2)) (dVar 2)) (dCon (.int 3)))) (dOp gMul (dOp gMul (dCon (.int k1)) (dVar 2)) (dVar 2))) (dCon (.int k2))) (dCon (.int 5))) (dCon (.int 2147483647))))
    (dRet (dOp gMod (dOp gFdiv (dOp gMod (dOp gPow (dOp gAdd (dOp gAdd (dVar 3) (dOp gMul (dOp gIx (dVar 0) (dCon (.int 2))) (dVar 2))) (dCon (.int k3))) (dCon (.int 3))) (dCon (.int 2147483579))) (dCon (.int 16))) (dVar 1))))))
def pTake (k1 k2 k3 : Int) : Phi := runB 3 (mTake k1 k2 k3)
theorem take_ok {k1 k2 k3 : Int} (hk : 0 ≤ k1 ∧ k1 < 8192 ∧ 0 ≤ k2 ∧ k2 < 1000 ∧ 0 ≤ k3 ∧ k3 < 1000) {cs : List CO} {n m : Int} (h : Bx cs n) (hn : n < 1048576) (hm0 : 0 < m) (hm1 : m < 1073741824) :
    ∃ d cs', pTake k1 k2 k3 [.dat (.ref 0), .dat (.int m)] cs = .ok (.dat (.int d), cs') ∧ 0 ≤ d ∧ d < m ∧ Bx cs' (n + 1) := by
  obtain ⟨x0, x1, x2, t, rfl, p0, p1, p2, p3, p4, p5, p6⟩ := h.ex
  obtain ⟨k1a, k1b, k2a, k2b, k3a, k3b⟩ := hk
  by_cases hx : 0 < x0
  · refine ⟨x0 % m, [.lst [.int (x0 / m), .int x1, .int x2, .int t]], ?_, Int.emod_nonneg _ (by omega), Int.emod_lt_of_pos _ hm0, ⟨_, _, _, _, rfl, Int.ediv_nonneg p0 (by omega), p1, p2, p3, p4, p5, by omega⟩⟩
    unfold pTake mTake
    walk_at "dl"
  · have e1 := draw_small (x := x1) (t := t + 1) (c := k1) (k := k2) p1 (by omega) (by omega) (by omega) k1a k1b k2a k2b
    have q1 := Int.emod_nonneg ((x1 * (2 * (t + 1) + 3) + k1 * (t + 1) * (t + 1) + k2) ^ 5) (show (2147483647 : Int) ≠ 0 by decide)
    have q2 := Int.emod_lt_of_pos ((x1 * (2 * (t + 1) + 3) + k1 * (t + 1) * (t + 1) + k2) ^ 5) (show (0 : Int) < 2147483647 by decide)
    have e2 := draw_small2 (y := (x1 * (2 * (t + 1) + 3) + k1 * (t + 1) * (t + 1) + k2) ^ 5 % 2147483647) (x := x2) (t := t + 1) (k := k3) q1 (by omega) p3 (by omega) (by omega) (by omega) k3a k3b
    have z1 : mulB x1 (2 * (t + 1) + 3) = true := mulB_l (by omega) (by omega)
    have z2 : mulB k1 (t + 1) = true := mulB_l (by omega) (by omega)
    have z3 : mulB (k1 * (t + 1)) (t + 1) = true := mulB_r (by omega) (by omega)
    have z4 : mulB x2 (t + 1) = true := mulB_l (by omega) (by omega)
    have z5 : mulB 2 (t + 1) = true := mulB_l (by omega) (by omega)
    obtain ⟨e1, -⟩ := e1
    obtain ⟨e2, -⟩ := e2
    refine ⟨((x1 * (2 * (t + 1) + 3) + k1 * (t + 1) * (t + 1) + k2) ^ 5 % 2147483647 + x2 * (t + 1) + k3) ^ 3 % 2147483579 / 16 % m, [.lst [.int x0, .int x1, .int x2, .int (t + 1)]], ?_, Int.emod_nonneg _ (by omega), Int.emod_lt_of_pos _ hm0, ⟨_, _, _, _, rfl, p0, p1, p2, p3, p4, by omega, by omega⟩⟩
    clear q1 q2 p1 p2 p3 p4 p5 p6 k1a k1b k2a k2b k3a k3b
    unfold pTake mTake
    walk_at "dl"
def mCell (k1 k2 : Int) : FS :=
    (dSeq (dIfS (toT (dOp gLt (dVar 1) (dLenS 0)))
    (dRet (dIxS 0 (dVar 1)))
    dNx)
    (dRet (dOp gAdd (dOp gMul (dCon (.int k1)) (dVar 1)) (dCon (.int k2)))))
def pCell (k1 k2 : Int) : Phi := runB 0 (mCell k1 k2)
theorem cell_ok {k1 k2 : Int} (hk : 0 ≤ k1 ∧ k1 < 1099511627776) {ns : List Int} {i : Nat} {cs : List CO} : ∃ c, pCell k1 k2 [.scr ns, .dat (.int i)] cs = .ok (.dat (.int c), cs) := by
  by_cases h : (i : Int) < ns.length
  · obtain ⟨x, -, e⟩ := atI_some (xs := ns) (i := (i : Int)) (by omega) h
    refine ⟨x, ?_⟩
    unfold pCell mCell
    walk_at "dl"
  · have z := mulB_l (i := k1) (j := i) (by omega) (by omega)
    refine ⟨k1 * i + k2, ?_⟩
    unfold pCell mCell
    walk_at "dl"
def mBox : FS :=
    (dRet (dLst (dCons (dCB gMax (dConsV (dCon (.int 0)) (dConsV (dOp gSub (dVar 0) (dOp gPow (dCon (.int 10)) (dCon (.int 18)))) dNil))) (dCons (dOp gMod (dVar 0) (dCon (.int 2147483629))) (dCons (dOp gMod (dVar 0) (dCon (.int 2147483587))) (dCons (dCon (.int 0)) dNil))))))
def pBox : Phi := runB 0 mBox
theorem box_ok (c : Int) (cs : List CO) : ∃ b, pBox [.dat (.int c)] cs = .ok (.new b, cs) ∧ Bx [b] 0 := by
  have hb : Bx [CO.lst [.int (if c - 1000000000000000000 > 0 then c - 1000000000000000000 else 0), .int (c % 2147483629), .int (c % 2147483587), .int 0]] 0 := by
    refine ⟨if c - 1000000000000000000 > 0 then c - 1000000000000000000 else 0, c % 2147483629, c % 2147483587, 0, rfl, ?_, Int.emod_nonneg _ (by decide), Int.emod_lt_of_pos _ (by decide), Int.emod_nonneg _ (by decide), Int.emod_lt_of_pos _ (by decide), by decide, by decide⟩
    split <;> omega
  refine ⟨_, ?_, hb⟩
  · have e : decide ((10 : Int).natAbs < 2 ^ 64) = true := by decide
    unfold pBox mBox
    walk_at "dl"
end SL

/-! Sp: small data: equal to itself, shown. -/
namespace SL
open PySem L2
mutual
/-- ints below 10 ^ 12, texts of letters, lists and tuples of such -/
def D.sm : D → Bool
  | .non => true
  | .bl _ => true
  | .int i => decide (i.natAbs < 1000000000000)
  | .str x => x.cps.all (· < 0x110000)
  | .lst xs => smAll xs
  | .tup xs => smAll xs
  | .dct _ => false
  | .obj _ _ => false
  | .ref _ => false
def smAll : List D → Bool
  | [] => true
  | x :: xs => D.sm x && smAll xs
end
mutual
def D.wt : D → Nat
  | .int _ => 40
  | .str x => x.cps.size
  | .lst xs => wtAll xs
  | .tup xs => wtAll xs
  | _ => 0
def wtAll : List D → Nat
  | [] => 0
  | x :: xs => D.wt x + 1 + wtAll xs
end
mutual
def D.dep : D → Nat
  | .lst xs => depAll xs + 1
  | .tup xs => depAll xs + 1
  | _ => 0
def depAll : List D → Nat
  | [] => 0
  | x :: xs => max (D.dep x) (depAll xs)
end
theorem log2_small {n : Nat} (h : n < 1000000000000) : n.log2 < 40 := by
  by_cases h0 : n = 0
  · subst h0; decide
  · exact (Nat.log2_lt h0).mpr (by omega)
structure SmF (d : D) : Prop where
  plain : d.plain = true
  lay : d.py.canLay0 = true
  show_ : PyData.showable d.py = true
  short : PyData.leavesShort 13 d.py = true
  wt : PyData.weight d.py ≤ d.wt
  dep : PyData.depth d.py = d.dep
structure SmFs (d : List D) : Prop where
  plain : plainAll d = true
  lay : PyData.canLayAll0 (pyAll d) = true
  show_ : PyData.showableAll (pyAll d) = true
  short : PyData.leavesShortAll 13 (pyAll d) = true
  wt : PyData.weightAll (pyAll d) ≤ wtAll d
  dep : PyData.depthAll (pyAll d) = depAll d
mutual
theorem D.smF : ∀ d : D, d.sm = true → SmF d
  | .non, _ => ⟨rfl, rfl, rfl, rfl, Nat.le_refl _, rfl⟩
  | .bl b, _ => ⟨rfl, rfl, rfl, rfl, Nat.le_refl _, rfl⟩
  | .int i, h => by
    have h1 : i.natAbs < 1000000000000 := of_decide_eq_true h
    refine ⟨rfl, rfl, ?_, ?_, ?_, rfl⟩
    · exact decide_eq_true (Nat.lt_of_lt_of_le (log2_small h1) (by decide))
    · exact decide_eq_true (PyData.shown_int_le h1)
    · show (if i == 0 then 0 else i.natAbs.log2 + 1) ≤ 40
      have := log2_small h1
      split <;> omega
  | .str x, h => by
    have h1 : x.cps.all (· < 0x110000) = true := h
    refine ⟨rfl, h1, rfl, ?_, Nat.le_refl _, rfl⟩
    show (x.cps.toList.all fun c => decide (c < 16 ^ 8)) = true
    simp only [List.all_eq_true, decide_eq_true_eq]
    intro c hc
    have h2 := (Array.all_eq_true_iff_forall_mem.mp h1) c (Array.mem_toList_iff.mp hc)
    have h3 : c < 0x110000 := by simpa using h2
    have e : (16 : Nat) ^ 8 = 4294967296 := by decide
    omega
  | .lst xs, h => by
    obtain ⟨a, b, c, d, e, f⟩ := smFs xs h
    exact ⟨a, b, c, d, e, congrArg (· + 1) f⟩
  | .tup xs, h => by
    obtain ⟨a, b, c, d, e, f⟩ := smFs xs h
    exact ⟨a, b, c, d, e, congrArg (· + 1) f⟩
  | .dct _, h => nomatch h
  | .obj _ _, h => nomatch h
  | .ref _, h => nomatch h
theorem smFs : ∀ ds : List D, smAll ds = true → SmFs ds
  | [], _ => ⟨rfl, rfl, rfl, rfl, Nat.le_refl _, rfl⟩
  | d :: ds, h => by
    have q := Bool.and_eq_true_iff.mp (show (D.sm d && smAll ds) = true from h)
    obtain ⟨a, b, c, k, e, f⟩ := D.smF d q.1
    obtain ⟨a', b', c', k', e', f'⟩ := smFs ds q.2
    refine ⟨?_, ?_, ?_, ?_, ?_, ?_⟩
    · show (D.plain d && plainAll ds) = true; rw [a, a']; rfl
    · show (PyData.canLay0 d.py && PyData.canLayAll0 (pyAll ds)) = true; rw [b, b']; rfl
    · show (PyData.showable d.py && PyData.showableAll (pyAll ds)) = true; rw [c, c']; rfl
    · show (PyData.leavesShort 13 d.py && PyData.leavesShortAll 13 (pyAll ds)) = true; rw [k, k']; rfl
    · show PyData.weight d.py + 1 + PyData.weightAll (pyAll ds) ≤ D.wt d + 1 + wtAll ds; omega
    · show max (PyData.depth d.py) (PyData.depthAll (pyAll ds)) = max (D.dep d) (depAll ds); rw [f, f']
end
/-- small data of little depth can be shown -/
theorem reprOk_of {d : D} (h : d.sm = true) (hd : d.dep ≤ 60) (hw : d.wt ≤ 1048576) : reprOk d = true := by
  obtain ⟨a, b, c, k, e, f⟩ := D.smF d h
  have h1 := PyData.shown_fits (B := 13) (by decide) (by decide) k (by omega)
  unfold reprOk
  rw [a, c, decide_eq_true (show PyData.depth d.py ≤ 60 by omega), decide_eq_true h1]
  rfl
theorem shaped_of {d : D} (h : d.sm = true) (hd : d.dep ≤ 60) : SeqAt.shaped d.py = true := by
  obtain ⟨a, b, c, k, e, f⟩ := D.smF d h
  show (d.py.canLay0 && decide (d.py.depth ≤ 64)) = true
  rw [b, decide_eq_true (show PyData.depth d.py ≤ 64 by omega)]
  rfl
theorem scalD_refl (d : D) (k : Bool) (h : scalD d d = some k) : k = true := by
  cases d <;> simp [scalD] at h <;> simp [← h]
theorem eqB_refl {d : D} (h : d.sm = true) (hd : d.dep ≤ 60) : eqB d d = some true := by
  have s := shaped_of h hd
  obtain ⟨a, b, c, k, e, f⟩ := D.smF d h
  unfold eqB
  cases q : scalD d d with
  | some k => exact congrArg some (scalD_refl d k q)
  | none =>
    show (if eqOk d d = true then some (eqD d d) else none) = some true
    unfold eqOk eqD
    rw [a, s]
    exact (if_pos rfl).trans (congrArg some (SeqAt.eqv_refl d.py b))
/-- the items of a list one by one: those of which P holds -/
theorem atI_all {α : Type} {P : α → Prop} {xs : List α} {i : Int} (h : ∀ x ∈ xs, P x) (h0 : 0 ≤ i) (h1 : i < xs.length) : ∃ x, atI xs i = some x ∧ P x := by
  obtain ⟨x, a, b⟩ := atI_some h0 h1
  exact ⟨x, b, h x a⟩
/-- a loop with what holds before each turn -/
theorem loop_inv {t : FG} {body : FS} (Inv : Nat → List SV → List CO → Prop) : ∀ (ds : List D) (k : Nat) (sl : List SV) (cs : List CO),
    (∀ i d sl cs, k ≤ i → ds[i - k]? = some d → Inv i sl cs → ∃ s1, t d sl = some s1 ∧ ∃ s2 c2, (body s1 cs = .nx s2 c2 ∨ body s1 cs = .ct s2 c2) ∧ Inv (i + 1) s2 c2) →
    Inv k sl cs → ∃ s2 c2, loopF t body ds sl cs = .nx s2 c2 ∧ Inv (k + ds.length) s2 c2
  | [], k, sl, cs, _, h => ⟨sl, cs, rfl, h⟩
  | d :: ds, k, sl, cs, step, h => by
    obtain ⟨s1, e1, s2, c2, e2, h2⟩ := step k d sl cs (Nat.le_refl _) (by simp) h
    obtain ⟨s3, c3, e3, h3⟩ := loop_inv Inv ds (k + 1) s2 c2 (fun i d sl cs hi e hh => step i d sl cs (by omega) (by rw [show i - k = (i - (k + 1)) + 1 by omega]; exact e) hh) h2
    refine ⟨s3, c3, ?_, by rw [List.length_cons, show k + (ds.length + 1) = k + 1 + ds.length by omega]; exact h3⟩
    rcases e2 with e2 | e2 <;> (unfold loopF; rw [e1]; dsimp only; rw [e2]; exact e3)
theorem loopF_nil {t : FG} {body : FS} {sl : List SV} {cs : List CO} : loopF t body [] sl cs = .nx sl cs := rfl
theorem loopF_nx {t : FG} {body : FS} {d : D} {ds : List D} {sl s1 s2 : List SV} {cs c2 : List CO} (e1 : t d sl = some s1) (e2 : body s1 cs = .nx s2 c2) : loopF t body (d :: ds) sl cs = loopF t body ds s2 c2 := by
  rw [loopF, e1]; dsimp only; rw [e2]
theorem whileF_go {t : FT} {body : FS} {n : Nat} {sl s2 : List SV} {cs c1 c2 : List CO} (e1 : t sl cs = .ok (true, c1)) (e2 : body sl c1 = .nx s2 c2) : whileF t body (n + 1) sl cs = whileF t body n s2 c2 := by
  simp only [whileF, e1, Res.toF, if_true, e2]
theorem whileF_end {t : FT} {body : FS} {n : Nat} {sl : List SV} {cs c1 : List CO} (e1 : t sl cs = .ok (false, c1)) : whileF t body (n + 1) sl cs = .nx sl c1 := by
  simp only [whileF, e1, Res.toF, Bool.false_eq_true, if_false]
theorem rngL_get {lo : Int} {n i : Nat} {d : D} (h : (rngL lo n)[i]? = some d) : i < n ∧ d = .int (lo + i) := by
  unfold rngL at h
  rw [List.getElem?_map] at h
  by_cases hi : i < n
  · rw [List.getElem?_range hi] at h; cases h; exact ⟨hi, rfl⟩
  · rw [List.getElem?_eq_none (by simp; omega)] at h; cases h
theorem rngL_length (lo : Int) (n : Nat) : (rngL lo n).length = n := by unfold rngL; simp
end SL

/-! Sv: looking through references: == and repr; changing what an expression names. -/
namespace SL
open PySem L2
def optAll : List (Option D) → Option (List D)
  | [] => some []
  | some d :: r => (optAll r).map (d :: ·)
  | none :: _ => none
/-- a datum with its references looked through -/
def resN (cs : List CO) : Nat → D → Option D
  | 0, _ => none
  | n + 1, .ref k => (cs[k]?.bind CO.vw).bind (resN cs n)
  | n + 1, .lst xs => (optAll (xs.map (resN cs n))).map .lst
  | n + 1, .tup xs => (optAll (xs.map (resN cs n))).map .tup
  | _ + 1, d => some d
abbrev deep (cs : List CO) (d : D) : Option D := resN cs 8 d
def Fz.ofH (H : Hp) : Fz := ⟨H, []⟩
/-! no reference in it -/
mutual
def D.pure : D → Bool
  | .ref _ => false
  | .lst xs => pureAll xs
  | .tup xs => pureAll xs
  | .dct xs => pureKv xs
  | .obj _ fs => pureFs fs
  | .non => true
  | .bl _ => true
  | .int _ => true
  | .str _ => true
def pureAll : List D → Bool
  | [] => true
  | d :: ds => D.pure d && pureAll ds
def pureKv : List (Key × D) → Bool
  | [] => true
  | (_, d) :: ds => D.pure d && pureKv ds
def pureFs : List (Str × D) → Bool
  | [] => true
  | (_, d) :: ds => D.pure d && pureFs ds
end
section
variable {F : Fz} {H : Hp} {cs : List CO}
mutual
theorem Den.toH (x : ExH F H) : ∀ {d : D} {v : V}, Den F v d → d.pure = true → Den (Fz.ofH H) v d
  | .non, _, .non, _ => .non
  | .bl b, _, .bl _, _ => .bl b
  | .int i, _, .int _, _ => .int i
  | .str z, _, .str _, _ => .str z
  | .lst xs, _, .lst h a, e => .lst (x _ _ h) (DenAll.toH x a e)
  | .tup xs, _, .tup h a, e => .tup (x _ _ h) (DenAll.toH x a e)
  | .dct xs, _, .dct h a, e => .dct (x _ _ h) (DenKv.toH x a e)
  | .obj _ fs, _, .obj h a, e => .obj (x _ _ h) (DenFs.toH x a e)
  | .obj _ fs, _, .dT h a, e => .dT (x _ _ h) (DenT.toH x a e)
  | .ref _, _, _, e => nomatch e
theorem DenAll.toH (x : ExH F H) : ∀ {ds : List D} {vs : List V}, DenAll F vs ds → pureAll ds = true → DenAll (Fz.ofH H) vs ds
  | [], _, .nil, _ => .nil
  | d :: ds, _, .cons h t, e => by
    have q := Bool.and_eq_true_iff.mp (show (D.pure d && pureAll ds) = true from e)
    exact .cons (Den.toH x h q.1) (DenAll.toH x t q.2)
theorem DenKv.toH (x : ExH F H) : ∀ {ds : List (Key × D)} {vs : List (Key × V)}, DenKv F vs ds → pureKv ds = true → DenKv (Fz.ofH H) vs ds
  | [], _, .nil, _ => .nil
  | (k, d) :: ds, _, .cons h t, e => by
    have q := Bool.and_eq_true_iff.mp (show (D.pure d && pureKv ds) = true from e)
    exact .cons (Den.toH x h q.1) (DenKv.toH x t q.2)
theorem DenT.toH (x : ExH F H) : ∀ {ds : List (Str × D)} {vs : List (List Key × V)}, DenT F vs ds → pureFs ds = true → DenT (Fz.ofH H) vs ds
  | [], _, .nil, _ => .nil
  | (_, d) :: ds, _, @DenT.cons _ _ _ _ _ _ _ h t, e => by
    have q := Bool.and_eq_true_iff.mp (show (D.pure d && pureFs ds) = true from e)
    exact .cons (Den.toH x h q.1) (DenT.toH x t q.2)
theorem DenFs.toH (x : ExH F H) : ∀ {ds : List (Str × D)} {vs : List (Str × V)}, DenFs F vs ds → pureFs ds = true → DenFs (Fz.ofH H) vs ds
  | [], _, .nil, _ => .nil
  | (k, d) :: ds, _, .cons h t, e => by
    have q := Bool.and_eq_true_iff.mp (show (D.pure d && pureFs ds) = true from e)
    exact .cons (Den.toH x h q.1) (DenFs.toH x t q.2)
end
end
/-- at a leaf: a dict, an instance must hold no reference -/
def leafOk : D → Bool
  | .dct xs => pureKv xs
  | .obj _ fs => pureFs fs
  | _ => true
/-- the same, a dict or an instance without references alone -/
def resD (cs : List CO) : Nat → D → Option D
  | 0, _ => none
  | n + 1, .ref k => (cs[k]?.bind CO.vw).bind (resD cs n)
  | n + 1, .lst xs => (optAll (xs.map (resD cs n))).map .lst
  | n + 1, .tup xs => (optAll (xs.map (resD cs n))).map .tup
  | _ + 1, d => if leafOk d then some d else none
section
variable {F : Fz} {H : Hp} {cs : List CO}
theorem optAll_den {P : V → D → Prop} : ∀ {vs : List V} {ds : List D} {es : List D} (f : D → Option D), DenAll F vs ds → (∀ v d e, d ∈ ds → Den F v d → f d = some e → Den (Fz.ofH H) v e) → optAll (ds.map f) = some es → DenAll (Fz.ofH H) vs es
  | _, _, es, f, .nil, _, e => by cases e; exact .nil
  | _, _, es, f, @DenAll.cons _ v vs d ds h t, k, e => by
    rw [List.map_cons] at e
    cases q : f d with
    | none => rw [q] at e; cases e
    | some x =>
      rw [q] at e
      unfold optAll at e
      cases q2 : optAll (ds.map f) with
      | none => rw [q2] at e; cases e
      | some xs =>
        rw [q2] at e; cases e
        exact .cons (k v d x List.mem_cons_self h q) (optAll_den (P := P) f t (fun v d e hd => k v d e (List.mem_cons_of_mem _ hd)) q2)
theorem resD_den (w : Wok F H cs) : ∀ (n : Nat) {d e : D} {v : V}, Den F v d → resD cs n d = some e → Den (Fz.ofH H) v e
  | 0, d, e, v, _, h => by cases h
  | n + 1, .ref k, e, v, dn, h => by
    cases dn with
    | @ref p _ hp =>
      have h : (cs[k]?.bind CO.vw).bind (resD cs n) = some e := h
      cases q : cs[k]? with
      | none => rw [q] at h; cases h
      | some c =>
        rw [q] at h
        have h : (CO.vw c).bind (resD cs n) = some e := h
        cases q2 : c.vw with
        | none => rw [q2] at h; cases h
        | some x =>
          rw [q2] at h
          have h : resD cs n x = some e := h
          obtain ⟨ed, nt⟩ := CO.vw_eq q2
          obtain ⟨_, o, h1, hk0⟩ := w.at_ k p c hp q
          have hk := hk0.ok nt
          clear hk0
          subst ed
          cases n with
          | zero => cases h
          | succ n =>
          cases c with
          | lst xs =>
            cases o <;> first | exact hk.elim | skip
            have h : (optAll (xs.map (resD cs n))).map D.lst = some e := h
            cases q3 : optAll (xs.map (resD cs n)) with
            | none => rw [q3] at h; cases h
            | some es =>
              rw [q3] at h; cases h
              exact .lst h1 (optAll_den (P := fun _ _ => True) _ hk (fun v d e _ dd r => resD_den w n dd r) q3)
          | dct xs =>
            cases o <;> first | exact hk.elim | skip
            have h : (if pureKv xs = true then some (D.dct xs) else none) = some e := h
            split at h
            · rename_i pk; cases h; exact .dct h1 (DenKv.toH w.ex hk pk)
            · cases h
          | obj C xs =>
            have h : (if pureFs xs = true then some (D.obj C xs) else none) = some e := h
            cases o <;> first | exact hk.elim | skip
            · split at h
              · rename_i pk; cases h; obtain ⟨rfl, hk⟩ := hk; exact .dT h1 (DenT.toH w.ex hk pk)
              · cases h
            · split at h
              · rename_i pk; cases h; obtain ⟨rfl, hk⟩ := hk; exact .obj h1 (DenFs.toH w.ex hk pk)
              · cases h
          | tab P q => exact absurd rfl (nt _ _)
  | n + 1, .lst xs, e, v, dn, h => by
    cases dn with
    | lst h1 h2 =>
      have h : (optAll (xs.map (resD cs n))).map D.lst = some e := h
      cases q3 : optAll (xs.map (resD cs n)) with
      | none => rw [q3] at h; cases h
      | some es =>
        rw [q3] at h; cases h
        exact .lst (w.ex _ _ h1) (optAll_den (P := fun _ _ => True) _ h2 (fun v d e _ dd r => resD_den w n dd r) q3)
  | n + 1, .tup xs, e, v, dn, h => by
    cases dn with
    | tup h1 h2 =>
      have h : (optAll (xs.map (resD cs n))).map D.tup = some e := h
      cases q3 : optAll (xs.map (resD cs n)) with
      | none => rw [q3] at h; cases h
      | some es =>
        rw [q3] at h; cases h
        exact .tup (w.ex _ _ h1) (optAll_den (P := fun _ _ => True) _ h2 (fun v d e _ dd r => resD_den w n dd r) q3)
  | n + 1, .non, e, v, dn, h => by cases h; cases dn; exact .non
  | n + 1, .bl b, e, v, dn, h => by cases h; cases dn; exact .bl b
  | n + 1, .int b, e, v, dn, h => by cases h; cases dn; exact .int b
  | n + 1, .str b, e, v, dn, h => by cases h; cases dn; exact .str b
  | n + 1, .dct xs, e, v, dn, h => by
    have h : (if pureKv xs = true then some (D.dct xs) else none) = some e := h
    split at h
    · rename_i pk; cases h; exact Den.toH w.ex dn pk
    · cases h
  | n + 1, .obj C xs, e, v, dn, h => by
    have h : (if pureFs xs = true then some (D.obj C xs) else none) = some e := h
    split at h
    · rename_i pk; cases h; exact Den.toH w.ex dn pk
    · cases h
/-- an outcome looked through -/
def RV.deep (cs : List CO) : RV → Option D
  | .dat d => resD cs 8 d
  | .new c => match c with
    | .lst xs => resD cs 8 (.lst xs)
    | .dct xs => resD cs 8 (.dct xs)
    | _ => none
  | .own c => match c with
    | .lst xs => resD cs 8 (.lst xs)
    | .dct xs => resD cs 8 (.dct xs)
    | _ => none
  | .scr _ => none
theorem live_deep (w : Wok F H cs) {p : Addr} {c : CO} {e : D} (l : Live F H p c) (h : RV.deep cs (.new c) = some e) : Den (Fz.ofH H) (.ref p) e := by
  obtain ⟨_, _, o, h1, h2⟩ := l
  cases c with
  | lst xs =>
    cases o <;> first | exact h2.elim | skip
    have h : (optAll (xs.map (resD cs 7))).map D.lst = some e := h
    cases q3 : optAll (xs.map (resD cs 7)) with
    | none => rw [q3] at h; cases h
    | some es =>
      rw [q3] at h; cases h
      exact .lst h1 (optAll_den (P := fun _ _ => True) _ h2 (fun v d e _ dd r => resD_den w 7 dd r) q3)
  | dct xs =>
    cases o <;> first | exact h2.elim | skip
    have h : (if pureKv xs = true then some (D.dct xs) else none) = some e := h
    split at h
    · rename_i pk; cases h; exact .dct h1 (DenKv.toH w.ex h2 pk)
    · cases h
  | obj _ _ => cases h
  | tab _ _ => cases h
theorem RvOk.deep {K : PySem.W.Frag} {v : V} {r : RV} {e : D} (h : RvOk K F H v r) (w : Wok F H cs) (d : r.deep cs = some e) : Den (Fz.ofH H) v e := by
  cases r with
  | dat x => exact resD_den w 8 h d
  | new c => obtain ⟨p, rfl, l⟩ := h; exact live_deep w l d
  | own c => obtain ⟨p, rfl, l⟩ := h; exact live_deep w l d
  | scr _ => cases d
/-- flat things -/
def flat : RV → Bool
  | .dat .non => true
  | .dat (.bl _) => true
  | .dat (.int _) => true
  | .dat (.str _) => true
  | _ => false
theorem wokH (H : Hp) : Wok (Fz.ofH H) H [] := ⟨fun _ _ h => h, rfl, fun i j p h => by simp [Fz.ofH] at h, fun i p c h => by simp [Fz.ofH] at h⟩
theorem aftH {K : PySem.W.Frag} {Q : VK} {r : RV} (w : Wok F H cs) (hf : flat r = true) (a : Aft K F H cs Q r) : Aft K (Fz.ofH H) H [] Q r := by
  intro v F' H' n w' k fv
  have keep : ∀ b o, H b = some o → H' b = some o := fun b o h => n.st b o h (by simp [Fz.ofH])
  have n2 : Nx F H F H' := ⟨.refl _, fun _ h => .inl h, fun _ _ h => .inl h, fun b o h _ => keep b o h⟩
  have w2 : Wok F H' cs := ⟨fun b o h => keep _ _ (w.ex _ _ h), w.len, w.nd, fun i p c h1 h2 => by
    obtain ⟨a, o, b, d⟩ := w.at_ i p c h1 h2
    exact ⟨a, o, keep _ _ b, d⟩⟩
  refine a v F H' n2 w2 ?_ ?_
  · cases r with
    | dat d =>
      cases d with
      | non => cases (show Den F' v .non from k); exact Den.non
      | bl b => cases (show Den F' v (.bl b) from k); exact Den.bl b
      | int b => cases (show Den F' v (.int b) from k); exact Den.int b
      | str b => cases (show Den F' v (.str b) from k); exact Den.str b
      | _ => cases hf
    | _ => cases hf
  · cases r with
    | dat d => trivial
    | _ => cases hf
end
def optF (o : Option RV) (cs : List CO) : Res (RV × List CO) := match o with
  | some r => if flat r then .ok (r, cs) else .bad
  | none => .bad
/-- an operator over what is looked through -/
def dOpX (g : G2) (fa fb : FE) : FE := fun sl cs => (fa sl cs).then fun a => (fb sl a.2).then fun b => match a.1.deep b.2, b.1.deep b.2 with
  | some x, some y => optF (g x y) b.2
  | _, _ => .bad
def deepAll (cs : List CO) : List RV → Option (List D)
  | [] => some []
  | r :: rs => match r.deep cs, deepAll cs rs with
    | some d, some ds => some (d :: ds)
    | _, _ => none
/-- a built-in over what is looked through -/
def dCBX (g : GN) (fa : FA) : FE := fun sl cs => (fa sl cs).then fun a => match deepAll a.2 a.1 with
  | some ds => optF (g ds) a.2
  | none => .bad
section
variable {K : PySem.W.Frag} {W : WX} {σ : L2.St} {H : Hp} {fa fb : FE} {ra : FA}
theorem OutE.aftF {F : Fz} {cs : List CO} {Q : VK} {o : Option RV} {E : XK} (h : OutE K E F H Q (optF o cs)) : ∃ r, o = some r ∧ flat r = true ∧ Aft K F H cs Q r := by
  unfold optF at h
  cases o with
  | none => exact h.elim
  | some r =>
    dsimp only at h
    split at h
    · rename_i hf; exact ⟨r, rfl, hf, h⟩
    · exact h.elim
theorem dOpX_run {g : G2} {Q : VK} (q : rdE K W (dOpX g fa fb) σ H Q) : rdE K W fa σ H fun x H1 => rdE K W fb σ H1 fun y H2 => rd2 K g x y H2 Q := by
  obtain ⟨F0, H0, F, sl, cs, R, o⟩ := q
  refine OutE.then_run R o fun r c v F1 H1 e n w k fv R1 o1 => ?_
  refine OutE.then_run R1 o1 fun r2 c2 v2 F2 H2 e2 n2 w2 k2 fv2 R2 o2 => ?_
  dsimp only at o2
  split at o2
  · rename_i x y ex ey
    obtain ⟨z, ez, hf, az⟩ := OutE.aftF o2
    exact ⟨Fz.ofH H2, [], x, y, z, wokH H2, .inl ((k.step n2).deep w2 ex), .inl (k2.deep w2 ey), ez, aftH w2 hf az⟩
  · exact o2.elim
theorem deepAll_ok {F : Fz} {cs : List CO} (w : Wok F H cs) {vs : List V} {rs : List RV} (h : RvAll K F H vs rs) : ∀ {ds : List D}, deepAll cs rs = some ds → VwAll (Fz.ofH H) H vs ds := by
  induction h with
  | nil => intro ds e; cases e; exact .nil
  | @cons v vs r rs h t ih =>
    intro ds e
    unfold deepAll at e
    split at e
    · rename_i d l e1 e2
      cases e
      exact .cons (.inl (h.deep w e1)) (ih e2)
    · cases e
theorem dCBX_run {g : GN} {Q : VK} (q : rdE K W (dCBX g ra) σ H Q) : tCB (rdN K g) (rdA K W ra) σ H Q := by
  obtain ⟨F0, H0, F, sl, cs, R, o⟩ := q
  refine OutA.run_E R o fun rs c vs F1 H1 e1 n w k R1 o1 => ?_
  dsimp only at o1
  split at o1
  · rename_i ds ed
    obtain ⟨r, er, hf, ar⟩ := OutE.aftF o1
    exact ⟨Fz.ofH H1, [], ds, r, wokH H1, deepAll_ok w k ed, er, aftH w hf ar⟩
  · exact o1.elim
end
section
variable {X : Cx} {W : WX} {pos : Pos} {a b e : Expr} {es : List Expr} {fa fb : FE} {ra : FA} {g : G2}
theorem de_cmpX {op : CmpOp} (ho : OpD X (compareOp op) g) (ha : DE X W a fa) (hb : DE X W b fb) (hm : behindInMarks op b = false) : DE X W (.Compare a [op] [b] pos) (dOpX g fa fb) :=
  PE.imp (pe_cmpR ho ha hb hm) fun _ _ _ q => dOpX_run q
theorem dt_cmpX {op : CmpOp} (ho : OpD X (compareOp op) g) (ha : DE X W a fa) (hb : DE X W b fb) (hm : behindInMarks op b = false) : DT X W (.Compare a [op] [b] pos) (toT (dOpX g fa fb)) :=
  PT.imp (pt_cmpR ho ha hb hm) fun _ _ _ q => dOpX_run (toT_run q)
theorem de_callBX {id : String} {x : Str} {g : GN} {p : Pos} (hc : CallD X (.builtin id) g) (hg : Gl X x) (hm : X.mg x = none) (hv : bootBuiltins x = some (.builtin id)) (ha : DA X W (e :: es) ra) (hn : x ≠ "__name__" := by decide) (hdb : (x == ("__debug__" : Str)) = false := by decide)
    (he : starEach (e :: es) X.env = (false, eval e X.env) :: starEach es X.env := by rfl) (hpl : (backTo pos (starEach es X.env)).any (·.1) = false := by rfl) : DE X W (.Call (.Name x p) (e :: es) [] pos) (dCBX g ra) :=
  PE.imp (pe_callB hc hg hm hv ha hn hdb he hpl) fun _ _ _ q => dCBX_run q
end
/-! ### changing what an expression names -/
/-- e.append(x), e a cell's list -/
def dAppE (fe : FE) (fa : FA) : FS := fun sl cs => Res.toF sl (fe sl cs) fun a => match a.1 with
  | .dat (.ref k) => match lstOf (a.2[k]?) with
    | some _ => Res.toF sl (fa sl a.2) fun b => match b.1, lstOf (b.2[k]?) with
      | [.dat d], some xs => if xs.length < sizeLine then .nx sl (b.2.set k (.lst (xs ++ [d]))) else .bad
      | _, _ => .bad
    | none => .bad
  | _ => .bad
/-- e.pop() -/
def dPopE (fe : FE) : FS := fun sl cs => Res.toF sl (fe sl cs) fun a => match a.1 with
  | .dat (.ref k) => match lstOf (a.2[k]?) with
    | some xs => if xs.isEmpty then .bad else .nx sl (a.2.set k (.lst xs.dropLast))
    | none => .bad
  | _ => .bad
section
variable {K : PySem.W.Frag} {F0 F : Fz} {H0 H : Hp} {sl : List SV} {cs : List CO} {σ : L2.St}
theorem cell_lst (w : Wok F H cs) {k : Nat} {v : V} {xs : List D} (h : Den F v (.ref k)) (e : lstOf (cs[k]?) = some xs) : ∃ p vs, v = .ref p ∧ F.μ[k]? = some p ∧ H p = some (.lst vs) ∧ DenAll F vs xs := by
  cases h with
  | @ref p _ hp =>
    cases q : cs[k]? with
    | none => rw [q] at e; cases e
    | some c =>
      rw [q] at e
      cases c with
      | lst ys =>
        cases e
        obtain ⟨_, o, h1, h2⟩ := w.at_ k p _ hp q
        have h2 := h2.ok (fun P q z => by cases z)
        cases o <;> first | exact h2.elim | skip
        exact ⟨p, _, rfl, hp, h1, h2⟩
      | _ => cases e
end
section
variable {X : Cx} {W : WX} {st : Stmt} {fe : FE} {fa : FA}
theorem ds_appE (h : PS X st (tDrop (tBM X.K "list" rAppend (rdE X.K W fe) (rdA X.K W fa)))) : DS X W st (dAppE fe fa) := PS.imp h fun D σ H q => by
  obtain ⟨F0, H0, F, sl, cs, R, o⟩ := q
  refine OutS.run_E R o fun r c v F1 H1 e n w k fv R1 o1 => ?_
  dsimp only at o1
  split at o1
  · rename_i j
    split at o1
    · rename_i xs0 e0
      obtain ⟨p, vs, rfl, hp, hH, _⟩ := cell_lst w k e0
      refine ⟨.inl ⟨rfl, _, SqL.of hH⟩, ?_⟩
      refine OutS.run_A R1 o1 fun rs c2 us F2 H2 e2 n2 w2 k2 R2 o2 => ?_
      dsimp only at o2
      split at o2
      · rename_i d xs e3
        split at o2
        · rename_i hl
          cases k2 with
          | cons kd kn =>
            cases kn
            obtain ⟨p2, ws, ep, hp2, hH2, dn⟩ := cell_lst w2 (RvOk.step (r := .dat (.ref j)) k n2) e3
            cases ep
            exact ⟨p, ws, _, rfl, rfl, hH2, by rw [dn.length]; exact hl, o2 σ F2 _ (R2.mutCell hp2 (.inl (dn.append (.cons kd .nil))))⟩
        · exact o2.elim
      · exact o2.elim
    · exact o1.elim
  · exact o1.elim
theorem ds_popE (h : PS X st (tDrop (tBM0 X.K "list" rPop (rdE X.K W fe)))) : DS X W st (dPopE fe) := PS.imp h fun D σ H q => by
  obtain ⟨F0, H0, F, sl, cs, R, o⟩ := q
  refine OutS.run_E R o fun r c v F1 H1 e n w k fv R1 o1 => ?_
  dsimp only at o1
  split at o1
  · rename_i j
    split at o1
    · rename_i xs e0
      obtain ⟨p, ys, rfl, hp, hH, dn⟩ := cell_lst w k e0
      split at o1
      · exact o1.elim
      · rename_i ne
        have hy : ys.length - 1 < ys.length := by
          have : xs ≠ [] := fun z => ne (by rw [z]; rfl)
          have h2 := List.length_pos_iff.mpr this
          rw [dn.length]; omega
        exact ⟨.inl ⟨rfl, _, SqL.of hH⟩, p, ys, ys[ys.length - 1], rfl, rfl, hH, List.getElem?_eq_getElem hy, o1 σ F1 _ (R1.mutCell hp (.inl dn.dropLast))⟩
    · exact o1.elim
  · exact o1.elim
end
end SL

/-! Sw: dicts that are changed. -/
namespace SL
open PySem L2
def dctOf : Option CO → Option (List (Key × D))
  | some (.dct ds) => some ds
  | _ => none
def dropD (kvs : List (Key × D)) (k : Key) : List (Key × D) := kvs.filter fun q => decide (q.1 ≠ k)
theorem DenKv.drop {F : Fz} {k : Key} : ∀ {ds : List (Key × D)} {vs : List (Key × V)}, DenKv F vs ds → DenKv F (dropK vs k) (dropD ds k)
  | _, _, .nil => .nil
  | _, _, @DenKv.cons _ k0 v vs d ds h t => by
    unfold dropK dropD
    by_cases hk : k0 = k
    · rw [List.filter_cons_of_neg (by simp [hk]), List.filter_cons_of_neg (by simp [hk])]
      exact DenKv.drop t
    · rw [List.filter_cons_of_pos (by simp [hk]), List.filter_cons_of_pos (by simp [hk])]
      exact .cons h (DenKv.drop t)
/-- what e[key] = v does to a cell -/
def putKO (sl : List SV) (c : List CO) (k : Nat) (d : D) : Option Key → Option (List (Key × D)) → Flw
  | some q, some kvs => if kvs.length < sizeLine then .nx sl (c.set k (.dct (putD kvs q d))) else .bad
  | _, _ => .bad
/-- e[key] = v, e a cell's dict -/
def dSetKE (fv fe fk : FE) : FS := fun sl cs => Res.toF sl (dFrz fv sl cs) fun a => match a.1 with
  | .dat d => Res.toF sl (fe sl a.2) fun b => match b.1 with
    | .dat (.ref k) => Res.toF sl (fk sl b.2) fun c => match c.1 with
      | .dat x => putKO sl c.2 k d (keyD x) (dctOf (c.2[k]?))
      | _ => .bad
    | _ => .bad
  | _ => .bad
def popKO (sl : List SV) (c : List CO) (k : Nat) : Option Key → Option (List (Key × D)) → Flw
  | some q, some kvs => if (getD kvs q).isSome then .nx sl (c.set k (.dct (dropD kvs q))) else .bad
  | _, _ => .bad
/-- e.pop(key), e a cell's dict -/
def dPopKE (fe fk : FE) : FS := fun sl cs => Res.toF sl (fe sl cs) fun b => match b.1 with
  | .dat (.ref k) => match dctOf (b.2[k]?) with
    | some _ => Res.toF sl (fk sl b.2) fun c => match c.1 with
      | .dat x => popKO sl c.2 k (keyD x) (dctOf (c.2[k]?))
      | _ => .bad
    | none => .bad
  | _ => .bad
/-- x[key] = v, x a name -/
def putKS (i : Nat) (sl : List SV) (c : List CO) (d : D) : Option Key → Option (List (Key × D)) → Flw
  | some q, some kvs => if kvs.length < sizeLine then putO i (.dct (putD kvs q d)) sl c else .bad
  | _, _ => .bad
def dSetKI (i : Nat) (fv fk : FE) : FS := fun sl cs => Res.toF sl (dFrz fv sl cs) fun a => match a.1 with
  | .dat d => match getO i sl a.2 with
    | some _ => Res.toF sl (fk sl a.2) fun c => match c.1 with
      | .dat x => putKS i sl c.2 d (keyD x) (dctOf (getO i sl c.2))
      | _ => .bad
    | none => .bad
  | _ => .bad
section
variable {F : Fz} {H : Hp} {cs : List CO}
theorem cell_dct (w : Wok F H cs) {k : Nat} {v : V} {xs : List (Key × D)} (h : Den F v (.ref k)) (e : dctOf (cs[k]?) = some xs) : ∃ p vs, v = .ref p ∧ F.μ[k]? = some p ∧ H p = some (.dK vs) ∧ DenKv F vs xs := by
  cases h with
  | @ref p _ hp =>
    cases q : cs[k]? with
    | none => rw [q] at e; cases e
    | some c =>
      rw [q] at e
      cases c with
      | dct ys =>
        cases e
        obtain ⟨_, o, h1, h2⟩ := w.at_ k p _ hp q
        have h2 := h2.ok (fun P q z => by cases z)
        cases o <;> first | exact h2.elim | skip
        exact ⟨p, _, rfl, hp, h1, h2⟩
      | _ => cases e
theorem key_val {x : D} {v : V} {k : Key} (h : Den F v x) (e : keyD x = some k) : v = kV k := by
  cases x with
  | int i => cases e; cases h; rfl
  | str z => cases e; cases h; rfl
  | _ => cases e
end
section
variable {X : Cx} {W : WX} {st : Stmt} {fe fk fv : FE} {i : Nat}
theorem ds_setKE (h : PS X st (tAsg (rdE X.K W (dFrz fv)) (L2.gSub (rdE X.K W fe) (rdE X.K W fk) rSetD))) : DS X W st (dSetKE fv fe fk) := PS.imp h fun D σ H q => by
  obtain ⟨F0, H0, F, sl, cs, R, o⟩ := q
  refine OutS.run_E R o fun r c v F1 H1 e n w k fv R1 o1 => ?_
  dsimp only at o1
  split at o1
  · rename_i d
    refine OutS.run_E R1 o1 fun r2 c2 v2 F2 H2 e2 n2 w2 k2 fv2 R2 o2 => ?_
    dsimp only at o2
    split at o2
    · rename_i j
      refine OutS.run_E R2 o2 fun r3 c3 v3 F3 H3 e3 n3 w3 k3 fv3 R3 o3 => ?_
      dsimp only at o3
      split at o3
      · rename_i x
        unfold putKO at o3
        split at o3
        · rename_i q kvs eq ek
          split at o3
          · rename_i hl
            obtain ⟨p, vs, ep, hp, hH, dn⟩ := cell_dct w3 (RvOk.step (r := .dat (.ref j)) k2 n3) ek
            subst ep
            have k4 : Den F3 v d := (show Den F1 v d from k).mono (n2.ex.trans n3.ex)
            have ev := key_val (show Den F3 v3 x from k3) eq
            subst ev
            exact ⟨p, _, rfl, .inl ⟨vs, q, hH, rfl, by rw [dn.length]; exact hl, rfl⟩, o3 σ F3 _ (R3.mutCell hp (.inl (DenKv.put dn k4)))⟩
          · exact o3.elim
        · exact o3.elim
      · exact o3.elim
    · exact o2.elim
  · exact o1.elim
theorem ds_popKE (h : PS X st (tDrop (tDPop1 (rdE X.K W fe) (rdE X.K W fk)))) : DS X W st (dPopKE fe fk) := PS.imp h fun D σ H q => by
  obtain ⟨F0, H0, F, sl, cs, R, o⟩ := q
  refine OutS.run_E R o fun r2 c2 v2 F2 H2 e2 n2 w2 k2 fv2 R2 o2 => ?_
  dsimp only at o2
  split at o2
  · rename_i j
    split at o2
    · rename_i kvs0 e0
      obtain ⟨p0, vs0, ep0, hp0, hH0, _⟩ := cell_dct w2 k2 e0
      subst ep0
      refine ⟨p0, rfl, .inl ⟨_, .inl hH0⟩, ?_⟩
      refine OutS.run_E R2 o2 fun r3 c3 v3 F3 H3 e3 n3 w3 k3 fv3 R3 o3 => ?_
      dsimp only at o3
      split at o3
      · rename_i x
        unfold popKO at o3
        split at o3
        · rename_i q kvs eq ek
          split at o3
          · rename_i hl
            obtain ⟨d, hd⟩ := Option.isSome_iff_exists.mp hl
            obtain ⟨p, vs, ep, hp, hH, dn⟩ := cell_dct w3 (RvOk.step (r := .dat (.ref j)) k2 n3) ek
            cases ep
            have ev := key_val (show Den F3 v3 x from k3) eq
            subst ev
            obtain ⟨u, hu, _⟩ := dn.get hd
            exact ⟨vs, q, u, hH, rfl, hu, o3 σ F3 _ (R3.mutCell hp (.inl dn.drop))⟩
          · exact o3.elim
        · exact o3.elim
      · exact o3.elim
    · exact o2.elim
  · exact o2.elim
theorem ds_setKI (h : PS X st (tAsg (rdE X.K W (dFrz fv)) (L2.gSub (tVar i) (rdE X.K W fk) rSetD))) : DS X W st (dSetKI i fv fk) := PS.imp h fun D σ H q => by
  obtain ⟨F0, H0, F, sl, cs, R, o⟩ := q
  refine OutS.run_E R o fun r c v F1 H1 e n w k fv R1 o1 => ?_
  dsimp only at o1
  split at o1
  · rename_i d
    split at o1
    · rename_i co e0
      obtain ⟨p, ho, ev, hp, k0⟩ := R1.getO e0
      refine ⟨_, ev, ?_⟩
      refine OutS.run_E R1 o1 fun r3 c3 v3 F3 H3 e3 n3 w3 k3 fv3 R3 o3 => ?_
      dsimp only at o3
      split at o3
      · rename_i x
        unfold putKS at o3
        split at o3
        · rename_i q kvs eq ek
          split at o3
          · rename_i hl
            cases eg : getO i sl c3 with
            | none => rw [eg] at ek; cases ek
            | some c4 =>
              rw [eg] at ek
              cases c4 with
              | dct ys =>
                cases ek
                obtain ⟨p3, ho3, ev3, hp3, k5⟩ := R3.getO eg
                rw [ev] at ev3; cases ev3
                cases ho3 <;> first | exact k5.elim | skip
                rename_i vs
                have dn : DenKv F3 vs kvs := k5
                have k4 : Den F3 v d := (show Den F1 v d from k).mono n3.ex
                have evk := key_val (show Den F3 v3 x from k3) eq
                subst evk
                exact ⟨p, _, rfl, .inl ⟨vs, q, hp3, rfl, by rw [dn.length]; exact hl, rfl⟩, R3.putO (c := .dct (putD kvs q d)) (o' := .dK (putK vs q v)) ev (DenKv.put dn k4) o3⟩
              | _ => cases ek
          · exact o3.elim
        · exact o3.elim
      · exact o3.elim
    · exact o1.elim
  · exact o1.elim
end
end SL

/-! Sx: steps of the later combinators. -/
namespace SL
open PySem L2
/-! ### steps -/
section
variable {fa : FE} {sl : List SV} {cs c c' : List CO} {r : RV} {rs : List RV} {i n t : Nat} {d : D} {ds : List D} {z q : Str} {fs : List (Str × D)} {rows : SL.Row} {A B : String} {P : Addr}
def kRaise (k : Nat) (f : Str) (sl : List SV) : RV × List CO → Flw := fun a => match a.1 with
  | .dat d => .exc k [(f, d)] sl a.2
  | _ => .bad
theorem x_raise {k : Nat} : dRaise k z fa sl cs = Res.toF sl (dFrz fa sl cs) (kRaise k z sl) := rfl
theorem x_raise1 {k : Nat} : kRaise k z sl (.dat d, c) = .exc k [(z, d)] sl c := rfl
def kCaught (known : List Nat) (told : Str) (hs : List Cla) : Res (RV × List CO) → Res (RV × List CO)
  | .ok (_, c1) => .ok (.new (.lst [.str told]), c1)
  | .exc c fs c1 => if c ∈ known then retC (catchF c fs hs [.un, .un, .un] c1) else .bad
  | .bad => .bad
def caughtO (P : Addr) (q : Str) (known : List Nat) (told : Str) (hs : List Cla) (r : Res (RV × List CO)) : Option CO → Res (RV × List CO)
  | some (.tab P' q') => if P' = P ∧ q' = q then kCaught known told hs r else .bad
  | _ => .bad
variable {known : List Nat} {told : Str} {hs : List Cla} {g : List (Str × D) → FS}
theorem x_caught : dCaught t P q known told hs fa sl cs = caughtO P q known told hs (fa sl cs) (cs[t]?) := by
  unfold dCaught caughtO
  cases e : cs[t]? with
  | none => rfl
  | some x => cases x with
    | tab P' q' =>
      show (if P' = P ∧ q' = q then _ else _) = (if P' = P ∧ q' = q then _ else _)
      by_cases h : P' = P ∧ q' = q
      · rw [if_pos h, if_pos h]; unfold kCaught; rfl
      · rw [if_neg h, if_neg h]
    | _ => rfl
theorem x_caughtO {rr : Res (RV × List CO)} : caughtO P q known told hs rr (some (.tab P q)) = kCaught known told hs rr := if_pos ⟨rfl, rfl⟩
theorem x_caught_ok : kCaught known told hs (.ok (r, c)) = .ok (.new (.lst [.str told]), c) := rfl
def kKn (b : Bool) (k : Nat) (fs : List (Str × D)) (c : List CO) (hs : List Cla) : Res (RV × List CO) := match b with
  | true => retC (catchF k fs hs [.un, .un, .un] c)
  | false => .bad
theorem x_caught_exc {k : Nat} : kCaught known told hs (.exc k fs c) = kKn (known.contains k) k fs c hs := by
  show (if k ∈ known then retC (catchF k fs hs [.un, .un, .un] c) else .bad) = _
  unfold kKn
  by_cases h : k ∈ known
  · rw [if_pos h, List.contains_iff_mem.mpr h]
  · rw [if_neg h]
    cases e : known.contains k with
    | true => exact absurd (List.contains_iff_mem.mp e) h
    | false => rfl
theorem x_kKn {k : Nat} : kKn true k fs c hs = retC (catchF k fs hs [.un, .un, .un] c) := rfl
-- try
def tryK (known : List Nat) (hs : List Cla) : Flw → Flw
  | .exc c fs sl' cs' => if c ∈ known then catchF c fs hs sl' cs' else .bad
  | r => r
theorem x_try {m : FS} : dTry known hs m sl cs = tryK known hs (m sl cs) := by unfold dTry tryK; rfl
theorem x_try_nx : tryK known hs (.nx sl cs) = .nx sl cs := rfl
theorem x_try_rt : tryK known hs (.rt r cs) = .rt r cs := rfl
def kKnS (b : Bool) (k : Nat) (fs : List (Str × D)) (sl : List SV) (c : List CO) (hs : List Cla) : Flw := match b with
  | true => catchF k fs hs sl c
  | false => .bad
theorem x_try_exc {k : Nat} : tryK known hs (.exc k fs sl c) = kKnS (known.contains k) k fs sl c hs := by
  show (if k ∈ known then catchF k fs hs sl c else .bad) = _
  unfold kKnS
  by_cases h : k ∈ known
  · rw [if_pos h, List.contains_iff_mem.mpr h]
  · rw [if_neg h]
    cases e : known.contains k with
    | true => exact absurd (List.contains_iff_mem.mp e) h
    | false => rfl
theorem x_kKnS {k : Nat} : kKnS true k fs sl c hs = catchF k fs hs sl c := rfl
def catK (k : Nat) (fs : List (Str × D)) (g : List (Str × D) → FS) (r : List Cla) (sl : List SV) (cs : List CO) : Bool → Flw
  | true => noExc (g fs sl cs)
  | false => catchF k fs r sl cs
theorem x_cat_nil {k : Nat} : catchF k fs [] sl cs = .exc k fs sl cs := rfl
theorem x_cat {k j : Nat} : catchF k fs ((j, g) :: hs) sl cs = catK k fs g hs sl cs ((k == j) || (j == 0)) := by
  show (if subC k j = true then noExc (g fs sl cs) else catchF k fs hs sl cs) = _
  unfold catK subC
  cases e1 : (k == j) with
  | true => rw [decide_eq_true (beq_iff_eq.mp e1)]; rfl
  | false =>
    rw [decide_eq_false (fun z => by rw [beq_iff_eq.mpr z] at e1; cases e1)]
    cases e2 : (j == 0) with
    | true => rw [decide_eq_true (beq_iff_eq.mp e2)]; rfl
    | false => rw [decide_eq_false (fun z => by rw [beq_iff_eq.mpr z] at e2; cases e2)]; rfl
theorem x_cat_t {k : Nat} : catK k fs g hs sl cs true = noExc (g fs sl cs) := rfl
theorem x_cat_f {k : Nat} : catK k fs g hs sl cs false = catchF k fs hs sl cs := rfl
theorem x_noExc_nx : noExc (.nx sl cs) = .nx sl cs := rfl
theorem x_noExc_rt : noExc (.rt r cs) = .rt r cs := rfl
theorem x_hBare {m : FS} : hBare m fs sl cs = m sl cs := rfl
def hListO (i j : Nat) (sl : List SV) (cs : List CO) : Option (List D) → Flw
  | some ds => if i < sl.length then .nx (((sl.set j .un).set i (.own (.lst ds))).set j .un) cs else .bad
  | none => .bad
theorem x_hList {j : Nat} {its : List HI} : hList i j its fs sl cs = hListO i j sl cs (hiAll fs its) := by unfold hList hListO; rfl
theorem x_hListO {j : Nat} (h : i < sl.length) : hListO i j sl cs (some ds) = .nx (((sl.set j .un).set i (.own (.lst ds))).set j .un) cs := if_pos h
def hValO (i j : Nat) (sl : List SV) (cs : List CO) : Option D → Flw
  | some d => if i < sl.length then .nx (((sl.set j .un).set i (.dat d)).set j .un) cs else .bad
  | none => .bad
theorem x_hVal {j : Nat} : hVal i j z fs sl cs = hValO i j sl cs (fs.lookup z) := by unfold hVal hValO; rfl
theorem x_hValO {j : Nat} (h : i < sl.length) : hValO i j sl cs (some d) = .nx (((sl.set j .un).set i (.dat d)).set j .un) cs := if_pos h
theorem x_hi_nil : hiAll fs [] = some [] := rfl
def hiO : Option D → Option (List D) → Option (List D)
  | some d, some ds => some (d :: ds)
  | _, _ => none
theorem x_hi_cons {h : HI} {its : List HI} : hiAll fs (h :: its) = hiO (h.d fs) (hiAll fs its) := by
  show (match h.d fs, hiAll fs its with | some d, some ds => some (d :: ds) | _, _ => none) = _
  unfold hiO; rfl
theorem x_hiO : hiO (some d) (some ds) = some (d :: ds) := rfl
theorem x_hi_s : HI.d fs (.s z) = some (.str z) := rfl
theorem x_hi_f : HI.d fs (.f z) = fs.lookup z := rfl
theorem x_hi_i {b : Bool} : HI.d fs (.i b) = some (.bl b) := rfl
theorem x_lk_h : List.lookup z ((z, d) :: fs) = some d := by rw [List.lookup_cons, beq_self_eq_true]
theorem x_retC {x : CO} {s0 : SV} {sl : List SV} : retC (.nx (s0 :: .own x :: sl) cs) = .ok (.new x, cs) := rfl
-- isinstance of two
def kIsi2 (A B : String) : RV × List CO → Res (RV × List CO) := fun a => isiO2 A B a.2 (a.1.view a.2)
theorem x_isi2 : dIsi2 A B fa sl cs = (fa sl cs).then (kIsi2 A B) := rfl
theorem x_isi21 : kIsi2 A B (r, c) = isiO2 A B c (r.view c) := rfl
theorem x_isi_lt_non : isiO2 "list" "tuple" c (some .non) = .ok (.dat (.bl false), c) := rfl
theorem x_isi_lt_bl {b : Bool} : isiO2 "list" "tuple" c (some (.bl b)) = .ok (.dat (.bl false), c) := rfl
theorem x_isi_lt_int {b : Int} : isiO2 "list" "tuple" c (some (.int b)) = .ok (.dat (.bl false), c) := rfl
theorem x_isi_lt_str {b : Str} : isiO2 "list" "tuple" c (some (.str b)) = .ok (.dat (.bl false), c) := rfl
theorem x_isi_lt_lst {b : List D} : isiO2 "list" "tuple" c (some (.lst b)) = .ok (.dat (.bl true), c) := rfl
theorem x_isi_lt_tup {b : List D} : isiO2 "list" "tuple" c (some (.tup b)) = .ok (.dat (.bl true), c) := rfl
theorem x_isi_lt_dct {b : List (Key × D)} : isiO2 "list" "tuple" c (some (.dct b)) = .ok (.dat (.bl false), c) := rfl
-- tables
def kInT (rows : SL.Row) : RV × List CO → Res (RV × List CO) := fun a => inTO rows a.2 (a.1.view a.2)
theorem x_inT : dInT rows fa sl cs = (fa sl cs).then (kInT rows) := rfl
theorem x_inT1 : kInT rows (r, c) = inTO rows c (r.view c) := rfl
theorem x_inTO : inTO rows c (some (.str z)) = .ok (.dat (.bl (decide (z ∈ rows.map (·.1)))), c) := rfl
def kTab (rows : SL.Row) (j : Int) : RV × List CO → Res (RV × List CO) := fun a => tabO rows j a.2 (a.1.view a.2)
theorem x_tab {j : Int} : dTabI rows j fa sl cs = (fa sl cs).then (kTab rows j) := rfl
theorem x_tab1 {j : Int} : kTab rows j (r, c) = tabO rows j c (r.view c) := rfl
def tabR (c : List CO) : Option D → Res (RV × List CO)
  | some d => .ok (.dat d, c)
  | none => .bad
theorem x_tabO {j : Int} : tabO rows j c (some (.str z)) = tabR c ((rowOf rows z).bind fun row => atI row j) := by
  unfold tabO tabR
  dsimp only
  cases e : rowOf rows z with
  | none => rfl
  | some row =>
    show _ = (match atI row j with | some d => _ | none => _)
    rfl
theorem x_tabR : tabR c (some d) = .ok (.dat d, c) := rfl
-- dicts
def kDGet2 (a : RV) : RV × List CO → Res (RV × List CO) := fun b => dgO b.2 (a.view b.2) (b.1.view b.2)
def kDGet1 (fb : FE) (sl : List SV) : RV × List CO → Res (RV × List CO) := fun a => (fb sl a.2).then (kDGet2 a.1)
theorem x_dget {fb : FE} : dDGet fa fb sl cs = (fa sl cs).then (kDGet1 fb sl) := rfl
theorem x_dget1 {fb : FE} : kDGet1 fb sl (r, c) = (fb sl c).then (kDGet2 r) := rfl
theorem x_dget2 {r' : RV} : kDGet2 r (r', c) = dgO c (r.view c) (r'.view c) := rfl
theorem x_dgO {kvs : List (Key × D)} : dgO c (some (.dct kvs)) (some (.str z)) = optE ((getD kvs (.inr z)).map RV.dat) c := rfl
theorem x_dict0 : dDict0 sl cs = .ok (.new (.dct []), cs) := rfl
theorem x_dict1 {k : Key} : dDict1 k d sl cs = .ok (.new (.dct [(k, d)]), cs) := rfl
-- built-ins
theorem x_gSum : gSum [.lst ds] = (intsOf ds).map fun ns => .dat (.int ns.sum) := rfl
theorem x_gTuple_l : gTuple [.lst ds] = some (.dat (.tup ds)) := rfl
theorem x_gTuple_t : gTuple [.tup ds] = some (.dat (.tup ds)) := rfl
theorem x_gDict : gDict [.lst ds] = (pairsD ds).map fun ps => .new (.dct (mergeD [] ps)) := rfl
theorem x_reprD_tup : gReprD [.tup ds] = gRepr [.tup ds] := rfl
theorem x_reprD_lst : gReprD [.lst ds] = gRepr [.lst ds] := rfl
theorem x_reprD_int {j : Int} : gReprD [.int j] = gRepr [.int j] := rfl
theorem x_reprD_str : gReprD [.str z] = gRepr [.str z] := rfl
theorem x_reprD_bl {b : Bool} : gReprD [.bl b] = gRepr [.bl b] := rfl
theorem x_reprD_non : gReprD [.non] = gRepr [.non] := rfl
-- lists of sizes
theorem x_gMulL {xs : List D} {k : Int} (h0 : -9223372036854775808 ≤ k) (h1 : k < 9223372036854775808) (h2 : xs.length * k.toNat ≤ 16777216) : gMul (.lst xs) (.int k) = some (.new (.lst (List.replicate k.toNat xs).flatten)) := if_pos ⟨h0, h1, h2⟩
-- looking through
def deepO (g : G2) (c : List CO) : Option D → Option D → Res (RV × List CO)
  | some x, some y => optF (g x y) c
  | _, _ => .bad
def kOpX2 (g : G2) (a : RV) : RV × List CO → Res (RV × List CO) := fun b => deepO g b.2 (a.deep b.2) (b.1.deep b.2)
def kOpX1 (g : G2) (fb : FE) (sl : List SV) : RV × List CO → Res (RV × List CO) := fun a => (fb sl a.2).then (kOpX2 g a.1)
variable {gg : G2} {gn : GN} {ra : FA} {r' : RV}
theorem x_opX {fb : FE} : dOpX gg fa fb sl cs = (fa sl cs).then (kOpX1 gg fb sl) := rfl
theorem x_opX1 {fb : FE} : kOpX1 gg fb sl (r, c) = (fb sl c).then (kOpX2 gg r) := rfl
theorem x_opX2 : kOpX2 gg r (r', c) = deepO gg c (r.deep c) (r'.deep c) := rfl
theorem x_deepO {x y : D} : deepO gg c (some x) (some y) = optF (gg x y) c := rfl
theorem x_optF_non : optF (some (.dat .non)) c = .ok (.dat .non, c) := rfl
theorem x_optF_bl {b : Bool} : optF (some (.dat (.bl b))) c = .ok (.dat (.bl b), c) := rfl
theorem x_optF_int {b : Int} : optF (some (.dat (.int b))) c = .ok (.dat (.int b), c) := rfl
theorem x_optF_str {b : Str} : optF (some (.dat (.str b))) c = .ok (.dat (.str b), c) := rfl
theorem x_deep_dat : RV.deep c (.dat d) = resD c 8 d := rfl
theorem x_deep_newl : RV.deep c (.new (.lst ds)) = resD c 8 (.lst ds) := rfl
theorem x_deep_ownl : RV.deep c (.own (.lst ds)) = resD c 8 (.lst ds) := rfl
theorem x_deep_newd {kvs : List (Key × D)} : RV.deep c (.new (.dct kvs)) = resD c 8 (.dct kvs) := rfl
theorem x_deep_ownd {kvs : List (Key × D)} : RV.deep c (.own (.dct kvs)) = resD c 8 (.dct kvs) := rfl
def cbXO (g : GN) (c : List CO) : Option (List D) → Res (RV × List CO)
  | some ds => optF (g ds) c
  | none => .bad
def kCBX (g : GN) : List RV × List CO → Res (RV × List CO) := fun a => cbXO g a.2 (deepAll a.2 a.1)
theorem x_cbX : dCBX gn ra sl cs = (ra sl cs).then (kCBX gn) := rfl
theorem x_cbX1 : kCBX gn (rs, c) = cbXO gn c (deepAll c rs) := rfl
theorem x_cbXO : cbXO gn c (some ds) = optF (gn ds) c := rfl
theorem x_deepAll_nil : deepAll c [] = some [] := rfl
theorem x_deepAll_cons : deepAll c (r :: rs) = hiO (r.deep c) (deepAll c rs) := by
  show (match r.deep c, deepAll c rs with | some d, some ds => some (d :: ds) | _, _ => none) = _
  unfold hiO; rfl
-- changed through a name or an expression
def appEO (fa : FA) (sl : List SV) (c : List CO) (k : Nat) : Option (List D) → Flw
  | some _ => Res.toF sl (fa sl c) fun b => match b.1, lstOf (b.2[k]?) with
      | [.dat d], some xs => if xs.length < sizeLine then .nx sl (b.2.set k (.lst (xs ++ [d]))) else .bad
      | _, _ => .bad
  | none => .bad
def kAppE (ra : FA) (sl : List SV) : RV × List CO → Flw := fun a => match a.1 with
  | .dat (.ref k) => appEO ra sl a.2 k (lstOf (a.2[k]?))
  | _ => .bad
theorem x_appE : dAppE fa ra sl cs = Res.toF sl (fa sl cs) (kAppE ra sl) := rfl
theorem x_appE1 : kAppE ra sl (.dat (.ref n), c) = appEO ra sl c n (lstOf (c[n]?)) := rfl
def appE2 (sl : List SV) (k : Nat) (c : List CO) (d : D) : Option (List D) → Flw
  | some xs => if xs.length < sizeLine then .nx sl (c.set k (.lst (xs ++ [d]))) else .bad
  | none => .bad
def kAppE2 (sl : List SV) (k : Nat) : List RV × List CO → Flw := fun b => match b.1 with
  | [.dat d] => appE2 sl k b.2 d (lstOf (b.2[k]?))
  | _ => .bad
theorem x_appEO : appEO ra sl c n (some ds) = Res.toF sl (ra sl c) (kAppE2 sl n) := by
  show Res.toF sl (ra sl c) _ = Res.toF sl (ra sl c) _
  congr 1; funext b
  obtain ⟨rs, c2⟩ := b
  unfold kAppE2
  match rs with
  | [] => rfl
  | [.dat d] => unfold appE2; dsimp only; cases lstOf (c2[n]?) <;> rfl
  | [.new _] => rfl
  | [.own _] => rfl
  | [.scr _] => rfl
  | (.dat _) :: _ :: _ => rfl
  | (.new _) :: _ :: _ => rfl
  | (.own _) :: _ :: _ => rfl
  | (.scr _) :: _ :: _ => rfl
theorem x_appE3 : kAppE2 sl n ([.dat d], c) = appE2 sl n c d (lstOf (c[n]?)) := rfl
theorem x_appE4 (h : ds.length < 16777216) : appE2 sl n c d (some ds) = .nx sl (c.set n (.lst (ds ++ [d]))) := if_pos h
theorem x_lstOf : lstOf (some (.lst ds)) = some ds := rfl
def popEO (sl : List SV) (c : List CO) (k : Nat) : Option (List D) → Flw
  | some xs => if xs.isEmpty then .bad else .nx sl (c.set k (.lst xs.dropLast))
  | none => .bad
def kPopE (sl : List SV) : RV × List CO → Flw := fun a => match a.1 with
  | .dat (.ref k) => popEO sl a.2 k (lstOf (a.2[k]?))
  | _ => .bad
theorem x_popE : dPopE fa sl cs = Res.toF sl (fa sl cs) (kPopE sl) := rfl
theorem x_popE1 : kPopE sl (.dat (.ref n), c) = popEO sl c n (lstOf (c[n]?)) := rfl
theorem x_popEO : popEO sl c n (some (ds ++ [d])) = .nx sl (c.set n (.lst ds)) := by
  show (if (ds ++ [d]).isEmpty = true then _ else _) = _
  rw [if_neg (by simp), List.dropLast_concat]
def kSetKE2 (sl : List SV) (k : Nat) (d : D) : RV × List CO → Flw := fun c => match c.1 with
  | .dat x => putKO sl c.2 k d (keyD x) (dctOf (c.2[k]?))
  | _ => .bad
def kSetKE1 (sl : List SV) (fk : FE) (d : D) : RV × List CO → Flw := fun b => match b.1 with
  | .dat (.ref k) => Res.toF sl (fk sl b.2) (kSetKE2 sl k d)
  | _ => .bad
def kSetKE0 (sl : List SV) (fe fk : FE) : RV × List CO → Flw := fun a => match a.1 with
  | .dat d => Res.toF sl (fe sl a.2) (kSetKE1 sl fk d)
  | _ => .bad
theorem x_setKE {fe fk : FE} : dSetKE fa fe fk sl cs = Res.toF sl (dFrz fa sl cs) (kSetKE0 sl fe fk) := rfl
theorem x_setKE0 {fe fk : FE} : kSetKE0 sl fe fk (.dat d, c) = Res.toF sl (fe sl c) (kSetKE1 sl fk d) := rfl
theorem x_setKE1 {fk : FE} : kSetKE1 sl fk d (.dat (.ref n), c) = Res.toF sl (fk sl c) (kSetKE2 sl n d) := rfl
theorem x_setKE2 {x : D} : kSetKE2 sl n d (.dat x, c) = putKO sl c n d (keyD x) (dctOf (c[n]?)) := rfl
theorem x_putKO {k : Key} {kvs : List (Key × D)} (h : kvs.length < 16777216) : putKO sl c n d (some k) (some kvs) = .nx sl (c.set n (.dct (putD kvs k d))) := if_pos h
theorem x_dctOf {kvs : List (Key × D)} : dctOf (some (.dct kvs)) = some kvs := rfl
theorem x_key_s : keyD (.str z) = some (.inr z) := rfl
theorem x_key_i {k : Int} : keyD (.int k) = some (.inl k) := rfl
def kPopKE1 (sl : List SV) (k : Nat) : RV × List CO → Flw := fun c => match c.1 with
  | .dat x => popKO sl c.2 k (keyD x) (dctOf (c.2[k]?))
  | _ => .bad
def popKE0 (sl : List SV) (fk : FE) (c : List CO) (k : Nat) : Option (List (Key × D)) → Flw
  | some _ => Res.toF sl (fk sl c) (kPopKE1 sl k)
  | none => .bad
def kPopKE (sl : List SV) (fk : FE) : RV × List CO → Flw := fun b => match b.1 with
  | .dat (.ref k) => popKE0 sl fk b.2 k (dctOf (b.2[k]?))
  | _ => .bad
theorem x_popKE {fk : FE} : dPopKE fa fk sl cs = Res.toF sl (fa sl cs) (kPopKE sl fk) := rfl
theorem x_popKE1 {fk : FE} : kPopKE sl fk (.dat (.ref n), c) = popKE0 sl fk c n (dctOf (c[n]?)) := rfl
theorem x_popKE2 {fk : FE} {kvs : List (Key × D)} : popKE0 sl fk c n (some kvs) = Res.toF sl (fk sl c) (kPopKE1 sl n) := rfl
theorem x_popKE3 {x : D} : kPopKE1 sl n (.dat x, c) = popKO sl c n (keyD x) (dctOf (c[n]?)) := rfl
theorem x_popKO {k : Key} {kvs : List (Key × D)} (h : (getD kvs k).isSome = true) : popKO sl c n (some k) (some kvs) = .nx sl (c.set n (.dct (dropD kvs k))) := if_pos h
end
section
variable {fa : FE} {fl fh : FO} {sl : List SV} {cs c : List CO} {r : RV} {lo hi : Option Int} {xs ys : List D} {z : Str} {k j : Int}
def slO (c : List CO) (lo hi : Option Int) : Option D → Res (RV × List CO)
  | some (.lst xs) => .ok (.new (.lst (cutD xs lo hi)), c)
  | some (.str z) => if z.length ≤ sizeLine then .ok (.dat (.str (cutS z lo hi)), c) else .bad
  | _ => .bad
def kSl3 (a : RV) (lo : Option Int) : Option Int × List CO → Res (RV × List CO) := fun hi => slO hi.2 lo hi.1 (a.view hi.2)
def kSl2 (a : RV) (fh : FO) (sl : List SV) : Option Int × List CO → Res (RV × List CO) := fun lo => (fh sl lo.2).then (kSl3 a lo.1)
def kSl1 (fl fh : FO) (sl : List SV) : RV × List CO → Res (RV × List CO) := fun a => (fl sl a.2).then (kSl2 a.1 fh sl)
theorem x_sl : dSl fa fl fh sl cs = (fa sl cs).then (kSl1 fl fh sl) := rfl
theorem x_sl1 : kSl1 fl fh sl (r, c) = (fl sl c).then (kSl2 r fh sl) := rfl
theorem x_sl2 : kSl2 r fh sl (lo, c) = (fh sl c).then (kSl3 r lo) := rfl
theorem x_sl3 : kSl3 r lo (hi, c) = slO c lo hi (r.view c) := rfl
theorem x_slO_l : slO c lo hi (some (.lst xs)) = .ok (.new (.lst (cutD xs lo hi)), c) := rfl
theorem x_slO_s (h : z.length ≤ 16777216) : slO c lo hi (some (.str z)) = .ok (.dat (.str (cutS z lo hi)), c) := if_pos h
theorem x_oNone : oNone sl cs = .ok (none, cs) := rfl
def kOS : RV × List CO → Res (Option Int × List CO) := fun a => match a.1 with
  | .dat (.int i) => .ok (some i, a.2)
  | _ => .bad
theorem x_oSome : oSome fa sl cs = (fa sl cs).then kOS := rfl
theorem x_oS1 : kOS (.dat (.int k), c) = .ok (some k, c) := rfl
theorem x_cut_to (h : 0 ≤ k) : cutD xs none (some k) = xs.take k.toNat := by
  obtain ⟨n, rfl⟩ := Int.eq_ofNat_of_zero_le h
  unfold cutD
  rw [HT.sIx_none, HT.sIx_nat, Int.toNat_natCast, List.drop_zero, Nat.sub_zero]
  rcases Nat.le_total n xs.length with l | l
  · rw [Nat.min_eq_left l]
  · rw [Nat.min_eq_right l, List.take_of_length_le (Nat.le_refl _), List.take_of_length_le l]
theorem x_cut_from (h : 0 ≤ k) : cutD xs (some k) none = xs.drop k.toNat := by
  obtain ⟨n, rfl⟩ := Int.eq_ofNat_of_zero_le h
  unfold cutD
  rw [HT.sIx_none, HT.sIx_nat, Int.toNat_natCast]
  rcases Nat.le_total n xs.length with l | l
  · rw [Nat.min_eq_left l, List.take_of_length_le (by rw [List.length_drop]; omega)]
  · rw [Nat.min_eq_right l, List.drop_eq_nil_of_le (Nat.le_refl _), List.drop_eq_nil_of_le l, List.take_nil]
/-! ### comprehensions -/
/-- no condition, each item to a datum, nothing changed -/
theorem lc_map {t : FG} {fe : FE} {sl : List SV} {cs : List CO} (f : D → D) : ∀ (ds acc : List D), (∀ d ∈ ds, ∃ s1, t d sl = some s1 ∧ dFrz fe s1 cs = .ok (.dat (f d), cs)) → acc.length + ds.length ≤ 16777216 →
    lcF t tYesD fe sl ds acc cs = .ok (acc ++ ds.map f, cs)
  | [], acc, _, _ => by rw [List.map_nil, List.append_nil]; rfl
  | d :: ds, acc, h, hl => by
    obtain ⟨s1, e1, e2⟩ := h d List.mem_cons_self
    rw [List.length_cons] at hl
    unfold lcF
    rw [e1]
    dsimp only
    rw [show tYesD s1 cs = .ok (true, cs) from rfl]
    dsimp only
    rw [e2]
    dsimp only
    rw [if_pos (show acc.length < sizeLine by show acc.length < 16777216; omega), lc_map f ds (acc ++ [f d]) (fun d hd => h d (List.mem_cons_of_mem _ hd)) (by rw [List.length_append, List.length_singleton]; omega), List.map_cons, List.append_assoc]
    rfl
/-- a condition without effect, each item that is taken to a datum -/
theorem lc_filter {t : FG} {ft : FT} {fe : FE} {sl : List SV} {cs : List CO} (q : D → Bool) (f : D → D) : ∀ (ds acc : List D), (∀ d ∈ ds, ∃ s1, t d sl = some s1 ∧ ft s1 cs = .ok (q d, cs) ∧ (q d = true → dFrz fe s1 cs = .ok (.dat (f d), cs))) → acc.length + ds.length ≤ 16777216 →
    lcF t ft fe sl ds acc cs = .ok (acc ++ (ds.filter q).map f, cs)
  | [], acc, _, _ => by rw [List.filter_nil, List.map_nil, List.append_nil]; rfl
  | d :: ds, acc, h, hl => by
    obtain ⟨s1, e1, e2, e3⟩ := h d List.mem_cons_self
    rw [List.length_cons] at hl
    unfold lcF
    rw [e1]
    dsimp only
    rw [e2]
    cases hq : q d with
    | true =>
      dsimp only
      rw [e3 hq]
      dsimp only
      rw [if_pos (show acc.length < sizeLine by show acc.length < 16777216; omega), lc_filter q f ds (acc ++ [f d]) (fun d hd => h d (List.mem_cons_of_mem _ hd)) (by rw [List.length_append, List.length_singleton]; omega), List.filter_cons_of_pos hq, List.map_cons, List.append_assoc]
      rfl
    | false =>
      dsimp only
      rw [lc_filter q f ds acc (fun d hd => h d (List.mem_cons_of_mem _ hd)) (by omega), List.filter_cons_of_neg (by rw [hq]; exact Bool.false_ne_true)]
/-- each item to a datum, with what holds of the cells before each turn -/
theorem lc_inv {t : FG} {fe : FE} {sl : List SV} (I : Nat → List CO → Prop) (P : D → Prop) : ∀ (ds acc : List D) (k : Nat) (cs : List CO), (∀ i d cs, k ≤ i → i < k + ds.length → d ∈ ds → I i cs → ∃ s1, t d sl = some s1 ∧ ∃ x c2, dFrz fe s1 cs = .ok (.dat x, c2) ∧ P x ∧ I (i + 1) c2) → I k cs → acc.length + ds.length ≤ 16777216 →
    ∃ xs c2, lcF t tYesD fe sl ds acc cs = .ok (acc ++ xs, c2) ∧ xs.length = ds.length ∧ (∀ x ∈ xs, P x) ∧ I (k + ds.length) c2
  | [], acc, k, cs, _, h, _ => ⟨[], cs, by rw [List.append_nil]; rfl, rfl, fun x hx => (by cases hx), h⟩
  | d :: ds, acc, k, cs, step, h, hl => by
    obtain ⟨s1, e1, x, c2, e2, px, i2⟩ := step k d cs (Nat.le_refl _) (by rw [List.length_cons]; omega) List.mem_cons_self h
    rw [List.length_cons] at hl
    obtain ⟨xs, c3, e3, l3, p3, i3⟩ := lc_inv I P ds (acc ++ [x]) (k + 1) c2 (fun i d cs hi hj hd => step i d cs (by omega) (by rw [List.length_cons]; omega) (List.mem_cons_of_mem _ hd)) i2 (by rw [List.length_append, List.length_singleton]; omega)
    refine ⟨x :: xs, c3, ?_, by rw [List.length_cons, List.length_cons, l3], fun y hy => ?_, by rw [List.length_cons, show k + (ds.length + 1) = k + 1 + ds.length by omega]; exact i3⟩
    · unfold lcF
      rw [e1]
      dsimp only
      rw [show tYesD s1 cs = .ok (true, cs) from rfl]
      dsimp only
      rw [e2]
      dsimp only
      rw [if_pos (show acc.length < sizeLine by show acc.length < 16777216; omega), e3, List.append_assoc]
      rfl
    · rcases List.mem_cons.mp hy with rfl | hy
      · exact px
      · exact p3 y hy
theorem wipe_nil (sl : List SV) : wipeL [] sl = sl := by
  unfold wipeL
  rw [List.mapIdx_eq_iff]
  intro i; simp
end
/-! ### the box in a cell of its own -/
structure Bc (b : CO) (n : Int) : Prop where
  ex : ∃ x0 x1 x2 t : Int, b = .lst [.int x0, .int x1, .int x2, .int t] ∧ 0 ≤ x0 ∧ 0 ≤ x1 ∧ x1 < 2147483629 ∧ 0 ≤ x2 ∧ x2 < 2147483587 ∧ 0 ≤ t ∧ t ≤ n
theorem Bc.mono {b : CO} {n m : Int} (h : Bc b n) (l : n ≤ m) : Bc b m := by
  obtain ⟨x0, x1, x2, t, e, a, b, c, d, f, g, i⟩ := h.ex
  exact ⟨x0, x1, x2, t, e, a, b, c, d, f, g, by omega⟩
theorem take_c {k1 k2 k3 : Int} (hk : 0 ≤ k1 ∧ k1 < 8192 ∧ 0 ≤ k2 ∧ k2 < 1000 ∧ 0 ≤ k3 ∧ k3 < 1000) {T b : CO} {cs : List CO} {n m : Int} (h : Bc b n) (hn : n < 1048576) (hm0 : 0 < m) (hm1 : m < 1073741824) :
    ∃ d b', pTake k1 k2 k3 [.dat (.ref 1), .dat (.int m)] (T :: b :: cs) = .ok (.dat (.int d), T :: b' :: cs) ∧ 0 ≤ d ∧ d < m ∧ Bc b' (n + 1) := by
  obtain ⟨x0, x1, x2, t, rfl, p0, p1, p2, p3, p4, p5, p6⟩ := h.ex
  obtain ⟨k1a, k1b, k2a, k2b, k3a, k3b⟩ := hk
  by_cases hx : 0 < x0
  · refine ⟨x0 % m, .lst [.int (x0 / m), .int x1, .int x2, .int t], ?_, Int.emod_nonneg _ (by omega), Int.emod_lt_of_pos _ hm0, ⟨_, _, _, _, rfl, Int.ediv_nonneg p0 (by omega), p1, p2, p3, p4, p5, by omega⟩⟩
    unfold pTake mTake
    walk_at "dl"
  · have e1 := draw_small (x := x1) (t := t + 1) (c := k1) (k := k2) p1 (by omega) (by omega) (by omega) k1a k1b k2a k2b
    have q1 := Int.emod_nonneg ((x1 * (2 * (t + 1) + 3) + k1 * (t + 1) * (t + 1) + k2) ^ 5) (show (2147483647 : Int) ≠ 0 by decide)
    have q2 := Int.emod_lt_of_pos ((x1 * (2 * (t + 1) + 3) + k1 * (t + 1) * (t + 1) + k2) ^ 5) (show (0 : Int) < 2147483647 by decide)
    have e2 := draw_small2 (y := (x1 * (2 * (t + 1) + 3) + k1 * (t + 1) * (t + 1) + k2) ^ 5 % 2147483647) (x := x2) (t := t + 1) (k := k3) q1 (by omega) p3 (by omega) (by omega) (by omega) k3a k3b
    have z1 : mulB x1 (2 * (t + 1) + 3) = true := mulB_l (by omega) (by omega)
    have z2 : mulB k1 (t + 1) = true := mulB_l (by omega) (by omega)
    have z3 : mulB (k1 * (t + 1)) (t + 1) = true := mulB_r (by omega) (by omega)
    have z4 : mulB x2 (t + 1) = true := mulB_l (by omega) (by omega)
    have z5 : mulB 2 (t + 1) = true := mulB_l (by omega) (by omega)
    obtain ⟨e1, -⟩ := e1
    obtain ⟨e2, -⟩ := e2
    refine ⟨((x1 * (2 * (t + 1) + 3) + k1 * (t + 1) * (t + 1) + k2) ^ 5 % 2147483647 + x2 * (t + 1) + k3) ^ 3 % 2147483579 / 16 % m, .lst [.int x0, .int x1, .int x2, .int (t + 1)], ?_, Int.emod_nonneg _ (by omega), Int.emod_lt_of_pos _ hm0, ⟨_, _, _, _, rfl, p0, p1, p2, p3, p4, by omega, by omega⟩⟩
    clear q1 q2 p1 p2 p3 p4 p5 p6 k1a k1b k2a k2b k3a k3b
    unfold pTake mTake
    walk_at "dl"
theorem box_c (c : Int) (cs : List CO) : ∃ b, pBox [.dat (.int c)] cs = .ok (.new b, cs) ∧ Bc b 0 := by
  obtain ⟨b, e, h⟩ := box_ok c cs
  obtain ⟨x0, x1, x2, t, e2, r⟩ := h.ex
  exact ⟨b, e, ⟨x0, x1, x2, t, by injection e2, r⟩⟩
/-- a turn of a loop, outcomes told -/
theorem loopF_rt {t : FG} {body : FS} {d : D} {ds : List D} {sl s1 : List SV} {cs c2 : List CO} {r : RV} (e1 : t d sl = some s1) (e2 : body s1 cs = .rt r c2) : loopF t body (d :: ds) sl cs = .rt r c2 := by
  rw [loopF, e1]; dsimp only; rw [e2]
theorem loopF_exc {t : FG} {body : FS} {d : D} {ds : List D} {sl s1 : List SV} {cs c2 : List CO} {k : Nat} {fs : List (Str × D)} (e1 : t d sl = some s1) {s2 : List SV} (e2 : body s1 cs = .exc k fs s2 c2) : loopF t body (d :: ds) sl cs = .exc k fs s2 c2 := by
  rw [loopF, e1]; dsimp only; rw [e2]
end SL

/-! Sxa: more steps: extend. -/
namespace SL
open PySem L2
section
variable {ra : FA} {sl : List SV} {cs c : List CO} {i : Nat} {xs ys : List D}
def extO (i : Nat) (sl : List SV) (c : List CO) (ys : List D) : Option CO → Flw
  | some (.lst xs) => if xs.length + ys.length ≤ sizeLine then putO i (.lst (xs ++ ys)) sl c else .bad
  | _ => .bad
def kExt (i : Nat) (sl : List SV) : List RV × List CO → Flw := fun a => match a.1 with
  | [.dat (.lst ys)] => extO i sl a.2 ys (getO i sl a.2)
  | _ => .bad
def extS (ra : FA) (i : Nat) (sl : List SV) (cs : List CO) : Option CO → Flw
  | some (.lst _) => Res.toF sl (ra sl cs) (kExt i sl)
  | _ => .bad
theorem x_ext : dExt i ra sl cs = extS ra i sl cs (getO i sl cs) := by
  unfold dExt extS
  cases getO i sl cs with
  | none => rfl
  | some x =>
    cases x with
    | lst xs =>
      dsimp only
      congr 1
      funext a
      obtain ⟨rs, c2⟩ := a
      show (match rs, getO i sl c2 with | [.dat (.lst ys)], some (.lst xs) => if xs.length + ys.length ≤ sizeLine then putO i (.lst (xs ++ ys)) sl c2 else Flw.bad | _, _ => .bad) = (match rs with | [.dat (.lst ys)] => extO i sl c2 ys (getO i sl c2) | _ => .bad)
      generalize getO i sl c2 = g
      match rs, g with
      | [.dat (.lst ys)], some (.lst xs) => rfl
      | [.dat (.lst ys)], none => rfl
      | [.dat (.lst ys)], some (.dct _) => rfl
      | [.dat (.lst ys)], some (.obj _ _) => rfl
      | [.dat (.lst ys)], some (.tab _ _) => rfl
      | [], _ => rfl
      | [.new _], _ => rfl
      | [.own _], _ => rfl
      | [.scr _], _ => rfl
      | [.dat .non], _ => rfl
      | [.dat (.bl _)], _ => rfl
      | [.dat (.int _)], _ => rfl
      | [.dat (.str _)], _ => rfl
      | [.dat (.tup _)], _ => rfl
      | [.dat (.dct _)], _ => rfl
      | [.dat (.obj _ _)], _ => rfl
      | [.dat (.ref _)], _ => rfl
      | (.dat (.lst _)) :: _ :: _, _ => rfl
      | (.dat .non) :: _ :: _, _ => rfl
      | (.dat (.bl _)) :: _ :: _, _ => rfl
      | (.dat (.int _)) :: _ :: _, _ => rfl
      | (.dat (.str _)) :: _ :: _, _ => rfl
      | (.dat (.tup _)) :: _ :: _, _ => rfl
      | (.dat (.dct _)) :: _ :: _, _ => rfl
      | (.dat (.obj _ _)) :: _ :: _, _ => rfl
      | (.dat (.ref _)) :: _ :: _, _ => rfl
      | (.new _) :: _ :: _, _ => rfl
      | (.own _) :: _ :: _, _ => rfl
      | (.scr _) :: _ :: _, _ => rfl
    | _ => rfl
theorem x_extS : extS ra i sl cs (some (.lst xs)) = Res.toF sl (ra sl cs) (kExt i sl) := rfl
theorem x_ext1 : kExt i sl ([.dat (.lst ys)], c) = extO i sl c ys (getO i sl c) := rfl
theorem x_extO (h : xs.length + ys.length ≤ 16777216) : extO i sl c ys (some (.lst xs)) = putO i (.lst (xs ++ ys)) sl c := if_pos h
end
section
variable {X : Cx} {W : WX} {st : Stmt} {fa : FA} {i : Nat}
theorem ds_ext (h : PS X st (tDrop (tBM X.K "list" rExtend (tVar i) (rdA X.K W fa)))) : DS X W st (dExt i fa) := PS.imp h fun D σ H q => by
  obtain ⟨F0, H0, F, sl, cs, R, o⟩ := q
  unfold dExt at o
  split at o
  · rename_i xs0 e0
    obtain ⟨p, ho, ev, hp, k⟩ := R.getO e0
    cases ho <;> first | exact k.elim | skip
    refine ⟨_, ev, .inl ⟨rfl, _, SqL.of hp⟩, ?_⟩
    refine OutS.run_A R o fun rs c vs F' H' e n w k' R' o' => ?_
    dsimp only at o'
    split at o'
    · rename_i rs' zs xs e2
      split at o'
      · rename_i hl
        cases k' with
        | cons kd kn =>
          cases kn
          obtain ⟨p2, ho2, ev2, hp2, k2⟩ := R'.getO e2
          rw [ev] at ev2; cases ev2
          cases ho2 <;> first | exact k2.elim | skip
          rename_i ys
          have k3 : DenAll F' ys xs := k2
          cases (show Den F' _ (.lst zs) from kd) with
          | @lst b ws _ hb dn =>
            exact ⟨p, b, ys, ws, rfl, rfl, hp2, w.ex _ _ hb, by rw [k3.length, dn.length]; exact hl, R'.putO (c := .lst (xs ++ zs)) (o' := .lst (ys ++ ws)) ev (k3.append dn) o'⟩
      · exact o'.elim
    · exact o'.elim
  · exact o.elim
end
section
variable {c : List CO} {ds : List D} {d : D} {z : Str} {i : Int} {b : Bool} {n : Nat} {l : List (Option D)}
theorem x_res8_l : resD c 8 (.lst ds) = (optAll (ds.map (resD c 7))).map .lst := rfl
theorem x_res8_t : resD c 8 (.tup ds) = (optAll (ds.map (resD c 7))).map .tup := rfl
theorem x_res8_str : resD c 8 (.str z) = some (.str z) := rfl
theorem x_res8_int : resD c 8 (.int i) = some (.int i) := rfl
theorem x_res8_bl : resD c 8 (.bl b) = some (.bl b) := rfl
theorem x_res8_non : resD c 8 .non = some .non := rfl
theorem x_res7_str : resD c 7 (.str z) = some (.str z) := rfl
theorem x_res7_int : resD c 7 (.int i) = some (.int i) := rfl
theorem x_res7_bl : resD c 7 (.bl b) = some (.bl b) := rfl
theorem x_res7_non : resD c 7 .non = some .non := rfl
theorem x_optAll_nil : optAll [] = some [] := rfl
theorem x_optAll_some : optAll (some d :: l) = (optAll l).map (d :: ·) := rfl
mutual
/-- nothing to look through -/
theorem resD_pure : ∀ (d : D) (n : Nat), d.pure = true → d.dep < n → resD c n d = some d
  | _, 0, _, h => by omega
  | .lst xs, n + 1, p, h => by
    have h : depAll xs + 1 < n + 1 := h
    show (optAll (xs.map (resD c n))).map D.lst = some (.lst xs)
    rw [resD_pures xs n p (by omega)]; rfl
  | .tup xs, n + 1, p, h => by
    have h : depAll xs + 1 < n + 1 := h
    show (optAll (xs.map (resD c n))).map D.tup = some (.tup xs)
    rw [resD_pures xs n p (by omega)]; rfl
  | .dct xs, n + 1, p, _ => by
    show (if leafOk (.dct xs) = true then some (D.dct xs) else none) = _
    rw [if_pos (show leafOk (.dct xs) = true from p)]
  | .obj C xs, n + 1, p, _ => by
    show (if leafOk (.obj C xs) = true then some (D.obj C xs) else none) = _
    rw [if_pos (show leafOk (.obj C xs) = true from p)]
  | .ref _, n + 1, p, _ => nomatch p
  | .non, _ + 1, _, _ => rfl
  | .bl _, _ + 1, _, _ => rfl
  | .int _, _ + 1, _, _ => rfl
  | .str _, _ + 1, _, _ => rfl
theorem resD_pures : ∀ (xs : List D) (n : Nat), pureAll xs = true → depAll xs < n → optAll (xs.map (resD c n)) = some xs
  | [], _, _, _ => rfl
  | x :: xs, n, p, h => by
    have q := Bool.and_eq_true_iff.mp (show (D.pure x && pureAll xs) = true from p)
    have h : max (D.dep x) (depAll xs) < n := h
    rw [List.map_cons, resD_pure x n q.1 (by omega), x_optAll_some, resD_pures xs n q.2 (by omega)]; rfl
end
theorem any_new {k : Key} {kvs : List (Key × D)} (h : ∀ q ∈ kvs, q.1 ≠ k) : (kvs.any fun q => decide (q.1 = k)) = false := by
  rw [List.any_eq_false]
  intro q hq e
  exact h q hq (of_decide_eq_true e)
theorem putD_new {k : Key} {d : D} {kvs : List (Key × D)} (h : ∀ q ∈ kvs, q.1 ≠ k) : putD kvs k d = kvs ++ [(k, d)] := by
  unfold putD
  rw [any_new h]; rfl
theorem getD_new {k : Key} {d : D} {kvs : List (Key × D)} (h : ∀ q ∈ kvs, q.1 ≠ k) : getD (kvs ++ [(k, d)]) k = some d := by
  unfold getD
  rw [List.find?_append, List.find?_eq_none.mpr fun q hq e => h q hq (of_decide_eq_true e)]
  simp
theorem dropD_new {k : Key} {d : D} {kvs : List (Key × D)} (h : ∀ q ∈ kvs, q.1 ≠ k) : dropD (kvs ++ [(k, d)]) k = kvs := by
  unfold dropD
  rw [List.filter_append, List.filter_eq_self.mpr fun q hq => decide_eq_true (h q hq)]
  simp
/-- a cell set to what it is -/
theorem set_same {c : List CO} {k : Nat} {x : CO} (h : c[k]? = some x) : c.set k x = c := by
  obtain ⟨hk, rfl⟩ := List.getElem?_eq_some_iff.mp h
  exact List.set_getElem_self hk
theorem set_at {c : List CO} {k : Nat} {x y : CO} (h : c[k]? = some x) : (c.set k y)[k]? = some y := List.getElem?_set_self (List.getElem?_eq_some_iff.mp h).1
end
end SL

/-! Sxb: list.index of texts; max, min of a list; loops over a cell's list that stays. -/
namespace SL
open PySem L2
/-! ### max, min of a list -/
def gMax1 : GN := fun as => match as with
  | [.lst ds] => (intsOf ds).bind fun ns => ns.max?.map fun m => .dat (.int m)
  | _ => none
def gMin1 : GN := fun as => match as with
  | [.lst ds] => (intsOf ds).bind fun ns => ns.min?.map fun m => .dat (.int m)
  | _ => none
section
variable {X : Cx}
theorem c_max1 (hc : X.calm = true) : CallD X (.builtin "max") gMax1 := CallR.imp (cr_max hc) fun vs H Q ⟨F, cs, as, r, w, va, e, k⟩ => by
  unfold gMax1 at e
  split at e
  · rename_i ds
    cases q : intsOf ds with
    | none => rw [q] at e; cases e
    | some ns =>
      rw [q] at e
      have e : (ns.max?.map fun m => RV.dat (.int m)) = some r := e
      cases q2 : ns.max? with
      | none => rw [q2] at e; cases e
      | some m =>
        rw [q2] at e; cases e
        obtain ⟨h1, h2⟩ := List.max?_eq_some_iff.mp q2
        obtain ⟨v, rfl, a⟩ := va.one
        obtain ⟨p, xs, rfl, hp, d⟩ := a.lst w.ex
        refine ⟨p, ns, rfl, ?_, List.length_pos_of_mem h1, fun y hy hle => ?_⟩
        · rw [← d.ints q]; exact SqL.of hp
        · obtain rfl : y = m := Int.le_antisymm (h2 y hy) (hle m h1)
          exact k.int w
  · cases e
theorem c_min1 (hc : X.calm = true) : CallD X (.builtin "min") gMin1 := CallR.imp (cr_min hc) fun vs H Q ⟨F, cs, as, r, w, va, e, k⟩ => by
  unfold gMin1 at e
  split at e
  · rename_i ds
    cases q : intsOf ds with
    | none => rw [q] at e; cases e
    | some ns =>
      rw [q] at e
      have e : (ns.min?.map fun m => RV.dat (.int m)) = some r := e
      cases q2 : ns.min? with
      | none => rw [q2] at e; cases e
      | some m =>
        rw [q2] at e; cases e
        obtain ⟨h1, h2⟩ := List.min?_eq_some_iff.mp q2
        obtain ⟨v, rfl, a⟩ := va.one
        obtain ⟨p, xs, rfl, hp, d⟩ := a.lst w.ex
        refine ⟨p, ns, rfl, ?_, List.length_pos_of_mem h1, fun y hy hle => ?_⟩
        · rw [← d.ints q]; exact SqL.of hp
        · obtain rfl : y = m := Int.le_antisymm (hle m h1) (h2 y hy)
          exact k.int w
  · cases e
end
/-! ### list.index of texts -/
def strsOf : List D → Option (List Str)
  | [] => some []
  | .str z :: r => (strsOf r).map (z :: ·)
  | _ => none
def idxS (z : Str) : List Str → Option Nat
  | [] => none
  | x :: r => if x = z then some 0 else (idxS z r).map (· + 1)
def idxO (ds : List D) (z : Str) : Option Nat := (strsOf ds).bind (idxS z)
theorem idxS_ok {z : Str} : ∀ {xs : List Str} {j : Nat}, idxS z xs = some j → xs[j]? = some z ∧ ∀ m < j, ∀ x, xs[m]? = some x → x ≠ z
  | [], _, h => by cases h
  | x :: r, j, h => by
    unfold idxS at h
    split at h
    · rename_i e; cases h; subst e; exact ⟨rfl, fun m hm => absurd hm (Nat.not_lt_zero _)⟩
    · rename_i ne
      cases q : idxS z r with
      | none => rw [q] at h; cases h
      | some i =>
        rw [q] at h; cases h
        obtain ⟨a, b⟩ := idxS_ok q
        refine ⟨a, fun m hm y hy => ?_⟩
        cases m with
        | zero => cases hy; exact ne
        | succ m => exact b m (Nat.lt_of_succ_lt_succ hm) y hy
theorem DenAll.strs {F : Fz} : ∀ {ds : List D} {vs : List V} {zs : List Str}, DenAll F vs ds → strsOf ds = some zs → vs = zs.map V.str
  | [], _, _, .nil, e => by cases e; rfl
  | d :: ds, _, zs, .cons h t, e => by
    cases d with
    | str z =>
      unfold strsOf at e
      cases q : strsOf ds with
      | none => rw [q] at e; cases e
      | some l =>
        rw [q] at e; cases e
        cases h
        rw [DenAll.strs t q]; rfl
    | _ => cases e
def dIdx (fe : FE) (fa : FA) : FE := fun sl cs => (fe sl cs).then fun a => match a.1.view a.2 with
  | some (.lst _) => (fa sl a.2).then fun b => match b.1, a.1.view b.2 with
    | [.dat (.str z)], some (.lst ds) => match idxO ds z with
      | some i => .ok (.dat (.int (i : Nat)), b.2)
      | none => .bad
    | _, _ => .bad
  | _ => .bad
section
variable {X : Cx} {W : WX} {e : Expr} {fe : FE} {fa : FA}
theorem de_idx (h : PE X e (tBM X.K "list" (rIndex X.K) (rdE X.K W fe) (rdA X.K W fa))) : DE X W e (dIdx fe fa) := PE.imp h fun σ H Q q => by
  obtain ⟨F0, H0, F, sl, cs, R, o⟩ := q
  unfold dIdx at o
  refine OutE.then_run R o fun r c v F1 H1 e n w k fv R1 o1 => ?_
  dsimp only at o1
  split at o1
  · rename_i xs ev
    obtain ⟨p, vs, rfl, hp, dn⟩ := (k.vw w ev).lst w.ex
    refine ⟨.inl ⟨rfl, vs, SqL.of hp⟩, ?_⟩
    refine OutA.run_E R1 o1 fun rs c2 us F2 H2 e2 n2 w2 k2 R2 o2 => ?_
    dsimp only at o2
    split at o2
    · rename_i z ds ev2
      split at o2
      · rename_i i ei
        obtain ⟨p2, ws, ep, hp2, dn2⟩ := ((k.step n2).vw w2 ev2).lst w2.ex
        cases ep
        cases k2 with
        | cons kd kn =>
          cases kn
          cases (show Den F2 _ (.str z) from kd)
          unfold idxO at ei
          cases q : strsOf ds with
          | none => rw [q] at ei; cases ei
          | some zs =>
            rw [q] at ei
            obtain ⟨h1, h2⟩ := idxS_ok ei
            have es := dn2.strs q
            subst es
            refine ⟨p, zs.map V.str, .str z, i, .str z, rfl, rfl, SqL.of hp2, rfl, ?_, by rw [List.getElem?_map, h1]; rfl, beq_self_eq_true z, ?_, ?_⟩
            · rw [List.all_eq_true]; intro y hy; obtain ⟨x, _, rfl⟩ := List.mem_map.mp hy; rfl
            · intro m y hm hy
              rw [List.getElem?_map] at hy
              cases q3 : zs[m]? with
              | none => rw [q3] at hy; cases hy
              | some x => rw [q3] at hy; cases hy; exact beq_eq_false_iff_ne.mpr (h2 m hm x q3)
            · exact Aft.int (cs := c2) (F := F2) o2 w2
      · exact o2.elim
    · exact o2.elim
  · exact o1.elim
end
section
variable {fa : FE} {ra : FA} {sl : List SV} {cs c : List CO} {r : RV} {ds : List D} {z : Str} {i : Nat}
def idxR (c : List CO) : Option Nat → Res (RV × List CO)
  | some i => .ok (.dat (.int (i : Nat)), c)
  | none => .bad
def idxB (c : List CO) (z : Str) : Option D → Res (RV × List CO)
  | some (.lst ds) => idxR c (idxO ds z)
  | _ => .bad
def kIdx2 (a : RV) : List RV × List CO → Res (RV × List CO) := fun b => match b.1 with
  | [.dat (.str z)] => idxB b.2 z (a.view b.2)
  | _ => .bad
def idxA (ra : FA) (sl : List SV) (a : RV) (c : List CO) : Option D → Res (RV × List CO)
  | some (.lst _) => (ra sl c).then (kIdx2 a)
  | _ => .bad
def kIdx (ra : FA) (sl : List SV) : RV × List CO → Res (RV × List CO) := fun a => idxA ra sl a.1 a.2 (a.1.view a.2)
theorem x_idx : dIdx fa ra sl cs = (fa sl cs).then (kIdx ra sl) := by
  unfold dIdx
  congr 1
  funext a
  obtain ⟨r, c⟩ := a
  unfold kIdx idxA
  dsimp only
  cases q : r.view c with
  | none => rfl
  | some d => cases d with
    | lst xs =>
      dsimp only
      congr 1
      funext b
      obtain ⟨rs, c2⟩ := b
      unfold kIdx2
      dsimp only
      split
      · rename_i z ds e
        rw [e]
        show _ = idxR c2 (idxO ds z)
        cases idxO ds z <;> rfl
      · rename_i h
        split
        · rename_i z
          unfold idxB
          split
          · rename_i ds e
            exact absurd e (fun e => h _ _ rfl e)
          · rfl
        · rfl
    | _ => rfl
theorem x_idx1 : kIdx ra sl (r, c) = idxA ra sl r c (r.view c) := rfl
theorem x_idxA : idxA ra sl r c (some (.lst ds)) = (ra sl c).then (kIdx2 r) := rfl
theorem x_idx2 : kIdx2 r ([.dat (.str z)], c) = idxB c z (r.view c) := rfl
theorem x_idxB : idxB c z (some (.lst ds)) = idxR c (idxO ds z) := rfl
theorem x_idxR : idxR c (some i) = .ok (.dat (.int (i : Nat)), c) := rfl
theorem x_gMax1 : gMax1 [.lst ds] = (intsOf ds).bind fun ns => ns.max?.map fun m => .dat (.int m) := rfl
theorem x_gMin1 : gMin1 [.lst ds] = (intsOf ds).bind fun ns => ns.min?.map fun m => .dat (.int m) := rfl
end
/-! ### loops over a cell's list that stays -/
theorem loop_invS {t : FG} {body : FS} {k : Nat} {ds : List D} (Inv : Nat → List SV → List CO → Prop) (hk : ∀ i sl cs, Inv i sl cs → cs[k]? = some (.lst ds)) (step : ∀ i d sl cs, ds[i]? = some d → Inv i sl cs → ∃ s1, t d sl = some s1 ∧ ∃ s2 c2, (body s1 cs = .nx s2 c2 ∨ body s1 cs = .ct s2 c2) ∧ Inv (i + 1) s2 c2) :
    ∀ (m i n : Nat) (sl : List SV) (cs : List CO), m = ds.length - i → i ≤ ds.length → m < n → Inv i sl cs → ∃ s2 c2, loopS t body (.cel k) n i sl cs = .nx s2 c2 ∧ Inv ds.length s2 c2
  | 0, i, n + 1, sl, cs, hm, hi, _, h => by
    obtain rfl : i = ds.length := by omega
    refine ⟨sl, cs, ?_, h⟩
    unfold loopS
    rw [show Src.now cs (.cel k) = some ds by show lstOf (cs[k]?) = _; rw [hk _ _ _ h]; rfl]
    dsimp only
    rw [List.getElem?_eq_none (Nat.le_refl _)]
  | m + 1, i, n + 1, sl, cs, hm, hi, hn, h => by
    have hl : i < ds.length := by omega
    obtain ⟨s1, e1, s2, c2, e2, h2⟩ := step i ds[i] sl cs (List.getElem?_eq_getElem hl) h
    obtain ⟨s3, c3, e3, h3⟩ := loop_invS Inv hk step m (i + 1) n s2 c2 (by omega) (by omega) (by omega) h2
    refine ⟨s3, c3, ?_, h3⟩
    unfold loopS
    rw [show Src.now cs (.cel k) = some ds by show lstOf (cs[k]?) = _; rw [hk _ _ _ h]; rfl]
    dsimp only
    rw [List.getElem?_eq_getElem hl]
    dsimp only
    rw [e1]; dsimp only
    rcases e2 with e2 | e2 <;> (rw [e2]; exact e3)
theorem lcS_map {t : FG} {fe : FE} {sl : List SV} {cs : List CO} {k : Nat} {ds : List D} (f : D → D) (hk : cs[k]? = some (.lst ds)) (h : ∀ d ∈ ds, ∃ s1, t d sl = some s1 ∧ dFrz fe s1 cs = .ok (.dat (f d), cs)) (hl : ds.length ≤ 16777216) :
    ∀ (m i n : Nat) (acc : List D), m = ds.length - i → i ≤ ds.length → m < n → acc.length = i → lcS t tYesD fe sl (.cel k) n i acc cs = .ok (acc ++ (ds.drop i).map f, cs)
  | 0, i, n + 1, acc, hm, hi, _, ha => by
    obtain rfl : i = ds.length := by omega
    unfold lcS
    rw [show Src.now cs (.cel k) = some ds by show lstOf (cs[k]?) = _; rw [hk]; rfl]
    dsimp only
    rw [List.getElem?_eq_none (Nat.le_refl _)]
    simp
  | m + 1, i, n + 1, acc, hm, hi, hn, ha => by
    have hli : i < ds.length := by omega
    obtain ⟨s1, e1, e2⟩ := h ds[i] (List.getElem_mem hli)
    unfold lcS
    rw [show Src.now cs (.cel k) = some ds by show lstOf (cs[k]?) = _; rw [hk]; rfl]
    dsimp only
    rw [List.getElem?_eq_getElem hli]
    dsimp only
    rw [e1]; dsimp only
    rw [show tYesD s1 cs = .ok (true, cs) from rfl]
    dsimp only
    rw [e2]; dsimp only
    rw [if_pos (show acc.length < sizeLine by show acc.length < 16777216; omega), lcS_map f hk h hl m (i + 1) n (acc ++ [f ds[i]]) (by omega) (by omega) (by omega) (by simp [ha])]
    rw [List.drop_eq_getElem_cons hli, List.map_cons, List.append_assoc]; rfl
end SL

/-! Sxc: repr of data with dicts within; a hook that looks at sys.modules too; x in a list; upper; .get of a written dict; isinstance of a caught error. -/
namespace SL
open PySem PySem.Spec PyProof.Rows L2
/-! ### sys.modules is a dict -/
def SmK (K : PySem.W.Frag) : Prop := ∃ o, K.lookup sysModules = some o ∧ o.cls = .type "dict"
def smB (K : PySem.W.Frag) : Bool := match K.lookup sysModules with
  | some o => decide (o.cls = .type "dict")
  | none => false
theorem smB_ok {K : PySem.W.Frag} (h : smB K = true) : SmK K := by
  unfold smB at h
  split at h
  · rename_i o e; exact ⟨o, e, of_decide_eq_true h⟩
  · cases h
/-! ### repr -/
mutual
def pyG : D → Option PyData
  | .non => some .none
  | .bl b => some (.bool b)
  | .int i => some (.int i)
  | .str x => some (.str x)
  | .lst xs => (pyGs xs).map .list
  | .tup xs => (pyGs xs).map .tuple
  | .dct xs => (pyGk xs).map .dict
  | .obj _ _ => none
  | .ref _ => none
def pyGs : List D → Option (List PyData)
  | [] => some []
  | x :: xs => match pyG x, pyGs xs with
    | some p, some ps => some (p :: ps)
    | _, _ => none
def pyGk : List (Key × D) → Option (List (PyData × PyData))
  | [] => some []
  | (k, x) :: xs => match pyG x, pyGk xs with
    | some p, some ps => some ((keyPy k, p) :: ps)
    | _, _ => none
end
section
variable {X : Cx} {pins : List (Addr × Obj)} {σ : L2.St} {H : Hp} {s : Shared} {F : Fz}
theorem not_sm (sm : SmK X.K) (I : Inv X pins σ H s) {a : Addr} {o : Obj} (h : s.heap.get? a = some o) (ne : o.cls ≠ .type "dict") : a ≠ sysModules := by
  obtain ⟨o', h1, h2⟩ := sm
  intro e
  subst e
  have := I.kIn _ _ h1
  rw [h] at this
  cases this
  exact ne h2
mutual
theorem gReads (sm : SmK X.K) (I : Inv X pins σ H s) (x : ExH F H) : ∀ {d : D} {v : V} {u : Value} {p : PyData}, Den F v d → pyG d = some p → RelV v u → ∃ as, Reads s.heap u p as ∧ sysModules ∉ as
  | .non, _, _, _, .non, e, r => by cases e; cases r; exact ⟨_, .none, by simp⟩
  | .bl b, _, _, _, .bl _, e, r => by cases e; cases r; exact ⟨_, .bool b, by simp⟩
  | .int i, _, _, _, .int _, e, r => by cases e; obtain ⟨t, rfl⟩ := r; exact ⟨_, .int i t, by simp⟩
  | .str z, _, _, _, .str _, e, r => by cases e; obtain ⟨t, rfl⟩ := r; exact ⟨_, .str z t, by simp⟩
  | .lst xs, _, u, p, .lst (a := a) h dn, e, r => by
    unfold pyG at e
    cases q : pyGs xs with
    | none => rw [q] at e; cases e
    | some ps =>
      rw [q] at e; cases e
      cases r
      obtain ⟨_, its, n, rv, g⟩ := (show ObjOk X.prog X.w H s.heap a (.lst _) from I.hok a _ (x _ _ h))
      obtain ⟨as, h1, h2⟩ := gReadsAll sm I x dn q rv
      refine ⟨_, Reads.list g rfl rfl h1, ?_⟩
      intro z
      rcases List.mem_cons.mp z with z | z
      · exact not_sm sm I g (fun z => by injection z with z; exact absurd z (by decide)) z.symm
      · exact h2 z
  | .tup xs, _, u, p, .tup (a := a) h dn, e, r => by
    unfold pyG at e
    cases q : pyGs xs with
    | none => rw [q] at e; cases e
    | some ps =>
      rw [q] at e; cases e
      cases r
      obtain ⟨_, its, rv, o, g, hc, n, hd⟩ := (show ObjOk X.prog X.w H s.heap a (.tup _) from I.hok a _ (x _ _ h))
      obtain ⟨as, h1, h2⟩ := gReadsAll sm I x dn q rv
      exact ⟨_, Reads.tuple g hc hd h1, h2⟩
  | .dct xs, _, u, p, .dct (a := a) h dn, e, r => by
    unfold pyG at e
    cases q : pyGk xs with
    | none => rw [q] at e; cases e
    | some ps =>
      rw [q] at e; cases e
      cases r
      obtain ⟨hl, hsm, vs, kv, o, es, epx, ho, ex, hd, kf, pr, nd⟩ := I.hok a _ (x _ _ h)
      obtain ⟨x1, as, x2, h2⟩ := gReadsK sm I x dn q kv pr
      refine ⟨_, Reads.dict ho ex.1 hd x1 x2, ?_⟩
      intro z
      rcases List.mem_append.mp z with z | z
      · rcases List.mem_cons.mp z with z | z
        · rw [← z] at hsm; simp at hsm
        · cases z
      · exact h2 z
  | .obj _ _, _, _, _, _, e, _ => by cases e
  | .ref _, _, _, _, _, e, _ => by cases e
theorem gReadsAll (sm : SmK X.K) (I : Inv X pins σ H s) (x : ExH F H) : ∀ {ds : List D} {vs : List V} {us : List Value} {ps : List PyData}, DenAll F vs ds → pyGs ds = some ps → Vals vs us → ∃ as, ReadsAll s.heap us ps as ∧ sysModules ∉ as
  | [], _, _, _, .nil, e, r => by cases e; cases r; exact ⟨_, .nil, by simp⟩
  | d :: ds, _, _, _, .cons h t, e, r => by
    cases r with
    | cons r1 r2 =>
      unfold pyGs at e
      cases q1 : pyG d with
      | none => rw [q1] at e; cases e
      | some p =>
        cases q2 : pyGs ds with
        | none => rw [q1, q2] at e; cases e
        | some ps =>
          rw [q1, q2] at e; cases e
          obtain ⟨as, a1, a2⟩ := gReads sm I x h q1 r1
          obtain ⟨bs, b1, b2⟩ := gReadsAll sm I x t q2 r2
          exact ⟨_, .cons a1 b1, fun z => (List.mem_append.mp z).elim a2 b2⟩
theorem gReadsK (sm : SmK X.K) (I : Inv X pins σ H s) (x : ExH F H) : ∀ {ds : List (Key × D)} {kvs : List (Key × V)} {vs : List (Key × Value)} {es : List DictEntry} {ps : List (PyData × PyData)}, DenKv F kvs ds → pyGk ds = some ps → KV kvs vs → Pairs (mixKind X.prog X.w) es vs →
    ReadsAll s.heap (es.map (·.key)) (ps.map (·.1)) [] ∧ ∃ as, ReadsAll s.heap (es.map (·.val)) (ps.map (·.2)) as ∧ sysModules ∉ as
  | [], _, _, _, _, .nil, e, kv, pr => by
    cases e; cases kv; cases pr
    exact ⟨.nil, _, .nil, by simp⟩
  | (k, d) :: ds, _, _, _, _, .cons h t, e, kv, pr => by
    cases kv with
    | cons r1 r2 =>
      cases pr with
      | cons a b c =>
        obtain ⟨rk, rv⟩ := r1
        unfold pyGk at e
        cases q1 : pyG d with
        | none => rw [q1] at e; cases e
        | some p =>
          cases q2 : pyGk ds with
          | none => rw [q1, q2] at e; cases e
          | some ps =>
            rw [q1, q2] at e; cases e
            obtain ⟨x1, as, x2, x3⟩ := gReadsK sm I x t q2 r2 c
            obtain ⟨bs, b1, b2⟩ := gReads sm I x h q1 rv
            refine ⟨?_, _, ?_, fun z => (List.mem_append.mp z).elim b2 x3⟩
            · have y : Reads s.heap _ (keyPy k) [] := key_reads (by rw [← rk] at a; exact a)
              exact .cons y x1
            · rw [← b] at b1
              exact .cons b1 x2
end
end
def isCon : D → Bool
  | .lst _ => true
  | .tup _ => true
  | .dct _ => true
  | _ => false
def okG (p : PyData) : Bool := PyData.showable p && (decide (PyData.depth p ≤ 60) && decide ((PyData.shown p).length ≤ sizeLine))
/-- repr of data, of dicts too -/
def gReprG : GN := fun as => match as with
  | [d] => if isCon d then (match pyG d with
      | some p => if okG p then some (.dat (.str (PyData.shown p))) else none
      | none => none) else gRepr [d]
  | _ => none
theorem c_reprG {X : Cx} (sm : SmK X.K) (hu : X.A.units + 64 < cLine) (hg : X.A.guards = some []) : CallD X (.builtin "repr") gReprG := by
  intro pins s σ H vs us Q I rv h
  obtain ⟨F, cs, as, r, w, va, e, k⟩ := h
  unfold gReprG at e
  split at e
  · rename_i d
    split at e
    · rename_i hc
      split at e
      · rename_i p ep
        split at e
        · rename_i ok
          cases e
          obtain ⟨v, rfl, a⟩ := va.one
          obtain ⟨u, rfl, ru⟩ := vals1 rv
          have q := Bool.and_eq_true_iff.mp ok
          have q2 := Bool.and_eq_true_iff.mp q.2
          have hsz : (PyData.shown p).length ≤ sizeLine := of_decide_eq_true q2.2
          have hdp : PyData.depth p ≤ 60 := of_decide_eq_true q2.1
          have fin : ∀ a : Addr, ∀ adr, u = .ref a → Reads s.heap (.ref a) p adr → sysModules ∉ adr → wpAny (model X.prog X.w) X.A (call (.builtin "repr") [u]) (EP X pins σ Q) X.xe s := by
            rintro a adr rfl rd nm
            exact repr_of_reads' rd q.1 (fun _ => nm) hg (by omega) (fun _ _ z => z) (fun h' u tk hk => ⟨.str _, H, I.kept hk, ⟨_, rfl⟩, k.str w⟩) hsz
          have fin2 : ∀ (F2 : Fz) (a : Addr), ExH F2 H → Den F2 (.ref a) d → u = .ref a → wpAny (model X.prog X.w) X.A (call (.builtin "repr") [u]) (EP X pins σ Q) X.xe s := by
            rintro F2 a x dn rfl
            obtain ⟨adr, rd, nm⟩ := gReads sm I x dn ep (show RelV (.ref a) (.ref a) from rfl)
            exact fin a adr rfl rd nm
          rcases a with a | ⟨b, o, c, rfl, hb, ck, rfl⟩
          · cases a with
            | lst h1 h2 => exact fin2 F _ w.ex (.lst h1 h2) ru
            | tup h1 h2 => exact fin2 F _ w.ex (.tup h1 h2) ru
            | dct h1 h2 => exact fin2 F _ w.ex (.dct h1 h2) ru
            | _ => cases hc
          · have x : Ex F (F.up b o) := ⟨fun q t e => by
              show (if q = b then some o else F q) = some t
              by_cases hq : q = b
              · subst hq; rw [if_pos rfl]; rw [w.ex _ _ e] at hb; exact hb.symm
              · rw [if_neg hq]; exact e, [], by simp [Fz.up]⟩
            refine fin2 (F.up b o) b (fun q t e => ?_) (COk.den up_same (ck.mono x)) ru
            have e : (if q = b then some o else F q) = some t := e
            by_cases hq : q = b
            · subst hq; rw [if_pos rfl] at e; cases e; exact hb
            · rw [if_neg hq] at e; exact w.ex _ _ e
        · cases e
      · cases e
    · exact c_repr hu hg pins s σ H vs us Q I rv ⟨F, cs, _, r, w, va, e, k⟩
  · cases e
end SL

/-! Sxd: a hook that looks at sys.modules too; x in a list; upper; .get of a written dict; isinstance of a caught error. -/
namespace SL
section
open PySem PySem.W L2 He
def asZ (g : Addr → Option Obj) (n : Nat) : List Addr := sysModules :: cStatics :: asD g n
def obsZ (n : Nat) (fa : List Fa) (fn : List DefD) (ts : List Tab) (tf : List Defn) (ex : PySem.W.Frag → Bool) (g : Addr → Option Obj) : AlX := (obsT fa fn ts (frT g (asZ g n)), ex (frT g (asZ g n)) && tabsB g tf (frT g (asZ g n)))
theorem saysZ_of {n : Nat} {fa : List Fa} {fn : List DefD} {ts : List Tab} {tf : List Defn} {ex : PySem.W.Frag → Bool} {w : World} {h : Heap} (e : obsZ n fa fn ts tf ex h.get? = valX fn ts w) : SaysX fa fn ts tf ex w h (frT h.get? (asZ h.get? n)) := by
  have e1 : obsT fa fn ts (frT h.get? (asZ h.get? n)) = valT fn ts w := congrArg (fun z : AlX => z.1) e
  have e2 : (ex (frT h.get? (asZ h.get? n)) && tabsB h.get? tf (frT h.get? (asZ h.get? n))) = true := congrArg (fun z : AlX => z.2) e
  obtain ⟨h1, h2⟩ := Bool.and_eq_true_iff.mp e2
  have key : ∀ p ∈ tf, PySem.W.codeHdIn (frT h.get? (asZ h.get? n)) (cT (frT h.get? (asZ h.get? n)) p).1 (cT (frT h.get? (asZ h.get? n)) p).2 = true ∧ ∃ o, h.get? (cT (frT h.get? (asZ h.get? n)) p).2 = some o ∧ emptyTab o = true := fun p hp => by
    obtain ⟨h3, h4⟩ := Bool.and_eq_true_iff.mp (List.all_eq_true.mp h2 p hp)
    refine ⟨h3, ?_⟩
    cases q : h.get? (cT (frT h.get? (asZ h.get? n)) p).2 with
    | none =>
      rw [q] at h4
      cases h4
    | some o =>
      rw [q] at h4
      exact ⟨o, rfl, h4⟩
  exact ⟨e1, h1, fun p hp => (key p hp).1, fun p hp => by
    obtain ⟨_, o, q, z⟩ := key p hp
    exact frT_none q z, fun p hp => by
    obtain ⟨_, o, q, z⟩ := key p hp
    rw [q, emptyTab_eq z]⟩
def hookZ (n : Nat) (fa : List Fa) (fn : List DefD) (ts : List Tab) (tf : List Defn) (ex : PySem.W.Frag → Bool) : PySem.W.Hook where
  α := AlX
  obs := fun s => obsZ n fa fn ts tf ex s.heap.get?
  val := fun w => valX fn ts w
  says := fun w h => ∃ K : PySem.W.Frag, K.In h ∧ SaysX fa fn ts tf ex w h K
  of := fun _ _ e => ⟨_, frT_in, saysZ_of e⟩
  keeps := fun _ _ _ ⟨K, hK, c⟩ k => ⟨K, PySem.W.Frag.In.keeps hK k, ⟨c.t, c.more, c.hd, c.out, fun p hp => k _ _ (c.empty p hp)⟩⟩
theorem obsZ_eq {n : Nat} {fa : List Fa} {fn : List DefD} {ts : List Tab} {tf : List Defn} {ex : PySem.W.Frag → Bool} {g : Addr → Option Obj} {s : Shared} (h : ∀ a, g a = s.heap.get? a) : obsZ n fa fn ts tf ex g = (hookZ n fa fn ts tf ex).obs s := by
  have e : g = s.heap.get? := funext h
  rw [e] <;> rfl
end
open PySem PySem.Spec PyProof.Rows L2
/-! ### x in a list or a tuple of texts -/
def seqS : D → Option (List Str)
  | .lst ds => strsOf ds
  | .tup ds => strsOf ds
  | _ => none
def gIn : G2 := fun a b => match a, seqS b with
  | .str z, some zs => some (.dat (.bl (decide (z ∈ zs))))
  | _, _ => none
theorem inV_strs (z : Str) : ∀ zs : List Str, inV (.str z) (zs.map V.str) = decide (z ∈ zs)
  | [] => by simp [inV]
  | y :: zs => by
    have ih := inV_strs z zs
    unfold inV at ih ⊢
    rw [List.map_cons, List.any_cons, ih]
    have e : eqV (.str y) (.str z) = decide (y = z) := by
      show (y == z) = _
      by_cases h : y = z
      · subst h; simp
      · rw [decide_eq_false h]; exact beq_eq_false_iff_ne.mpr h
    rw [e]
    by_cases h : y = z
    · subst h; simp
    · have h' : ¬ z = y := fun e => h e.symm
      simp [h, h']
section
variable {X : Cx}
theorem o_in : OpD X (compareOp .In) gIn := OpR.imp op_in_seq fun x y H Q ⟨F, cs, a, b, r, w, va, vb, e, k⟩ => by
  unfold gIn at e
  split at e
  · rename_i z zs es
    cases e
    obtain rfl := va.str
    have key : ∃ p xs, y = .ref p ∧ (SqL X.K H p xs ∨ SqT X.K H p xs) ∧ xs = zs.map V.str := by
      cases b with
      | lst ds =>
        obtain ⟨p, vs, rfl, hp, dn⟩ := vb.lst w.ex
        exact ⟨p, vs, rfl, .inl (SqL.of hp), dn.strs es⟩
      | tup ds =>
        obtain ⟨p, vs, rfl, hp, dn⟩ := vb.tup w.ex
        exact ⟨p, vs, rfl, .inr (SqT.of hp), dn.strs es⟩
      | _ => cases es
    obtain ⟨p, xs, rfl, hs, rfl⟩ := key
    refine ⟨p, _, rfl, hs, rfl, ?_, ?_⟩
    · rw [List.all_eq_true]; intro v hv; obtain ⟨q, _, rfl⟩ := List.mem_map.mp hv; rfl
    · show Q (.bl (inV (.str z) (zs.map V.str))) H
      rw [inV_strs]
      exact k.bl w
  · cases e
end
/-! ### upper -/
def gUp : G1 := fun a => match a with
  | .str z => if z.length ≤ 5592405 then some (.dat (.str (Txt.upper z))) else none
  | _ => none
section
variable {X : Cx} {W : WX} {o : Expr} {f : FE}
theorem de_upper {apos pos : Pos} (h : DE X W o f) (hbase : attributeBase o "upper" X.env (eval o X.env) = eval o X.env := by rfl) (hline : (apos.endLine == pos.line) = true := by rfl) : DE X W (.Call (.Attribute o "upper" apos) [] [] pos) (dUn gUp f) :=
  PE.imp (pe_upper h hbase hline) fun σ H Q q => by
    obtain ⟨F0, H0, F, sl, cs, R, o⟩ := q
    refine OutE.then_run R o fun r c v F1 H1 e n w k fv R1 o1 => ?_
    dsimp only at o1
    split at o1
    · rename_i x ex
      obtain ⟨z, ez, az⟩ := OutE.aft o1
      unfold gUp at ez
      split at ez
      · rename_i z0
        split at ez
        · rename_i hl
          cases ez
          obtain rfl := (k.vw w ex).str
          exact ⟨⟨_, rfl⟩, _, rfl, rfl, hl, az.str w⟩
        · cases ez
      · cases ez
    · exact o1.elim
end
/-! ### a written dict of texts -/
abbrev RowS : Type := List (Str × Str)
def tabSB (K : PySem.W.Frag) (a : Addr) (rows : RowS) : Bool := rows.all fun r => match PySem.W.nsIn K a r.1 with
  | some (some (.str z _)) => decide (z = r.2)
  | _ => false
structure TabS (K : PySem.W.Frag) (w : World) (mg : Str → Option Value) (x : Str) (rows : RowS) : Prop where
  at_ : mg x = some (.ref (He.ga K x))
  kd : ∃ es n, KDict K w (He.ga K x) es n
  ns : ∀ z, ∃ r, PySem.W.nsIn K (He.ga K x) z = some r ∧ r.isSome = decide (z ∈ rows.map (·.1))
  row : ∀ z y, (z, y) ∈ rows → ∃ t, PySem.W.nsIn K (He.ga K x) z = some (some (.str y t))
theorem tabS_of {K : PySem.W.Frag} {w : World} {mg : Str → Option Value} {x : Str} {rows : RowS} (h1 : mg x = some (.ref (He.ga K x))) (h2 : ∃ es n, KDict K w (He.ga K x) es n) (h3 : He.dicW K (He.ga K x) = some (He.keysIn w.params (rows.map (·.1)))) (h4 : tabSB K (He.ga K x) rows = true) : TabS K w mg x rows :=
  ⟨h1, h2, fun z => keys_ns h3 z, fun z y e => by
    have hr := List.all_eq_true.mp h4 _ e
    dsimp only at hr
    split at hr
    · rename_i z' t hp
      have := of_decide_eq_true hr
      subst this
      exact ⟨t, hp⟩
    · cases hr⟩
def findS (rows : RowS) (z : Str) : Option Str := (rows.find? fun r => decide (r.1 = z)).map (·.2)
/-- TABLE.get(e, g) -/
def dKGet (rows : RowS) (f g : FE) : FE := fun sl cs => (f sl cs).then fun a => (g sl a.2).then fun b => match a.1.view b.2, b.1.view b.2 with
  | some (.str z), some (.str y) => .ok (.dat (.str ((findS rows z).getD y)), b.2)
  | _, _ => .bad
section
variable {X : Cx} {W : WX} {x : Str} {rows : RowS} {e g : Expr} {f h : FE} {p1 apos pos : Pos}
theorem de_kget (T : TabS X.K X.w X.mg x rows) (hg : Gl X x) (he : DE X W e f) (hf : DE X W g h) (m : M2 X (.Name x p1) "get" apos e g pos) (hd : (x == ("__debug__" : Str)) = false := by decide) : DE X W (.Call (.Attribute (.Name x p1) "get" apos) [e, g] [] pos) (dKGet rows f h) := by
  obtain ⟨es, n, kd⟩ := T.kd
  refine ⟨fun pins s σ H Q I hh => ?_⟩
  refine wpAny_Call_method m.base m.few m.line PySem.F.plainAttrs_dict PySem.F.slot_dict_get PySem.F.type_dict_get (thn ((pe_glob (v := .ref (He.ga X.K x)) hg T.at_ rfl hd).run pins s σ H (fun v H' => v = .ref (He.ga X.K x) ∧ H' = H) I ⟨rfl, rfl⟩) fun u s1 ⟨v, H1, I1, rx, ev, eH⟩ => ?_)
  subst ev; subst eH
  obtain rfl : u = Value.ref (He.ga X.K x) := rx
  have mp := PySem.W.mapOf_K (prog := X.prog) (w := X.w) I1.kIn kd.at_ kd.lit
  refine ⟨mp.typeIs, fun a ea => ?_, ?_⟩
  · cases ea
    exact ⟨_, I1.kIn _ _ kd.at_, rfl⟩
  rw [m.trees]
  refine Calls.callWith_builtin rfl (Calls.evalArgs_plain ?_)
  obtain ⟨F0, H0, F, sl, cs, R, o⟩ := hh
  refine Calls.spliced_cons (thn (he.run pins s1 σ H1 _ I1 (OutE.then_run R o fun r c v F1 H1 e1 n1 w1 k1 fv R1 o1 => OutE.then_run (Q' := fun y H2 => ∃ z d : Str, v = .str z ∧ y = .str d ∧ Q (.str ((findS rows z).getD d)) H2) R1 o1 fun r2 c2 v2 F2 H2 e2 n2 w2 k2 fv2 R2 o2 => ?_)) fun iv s2 ⟨y, H2, I2, ry, q2⟩ =>
    Calls.spliced_cons (thn (hf.run pins s2 σ H2 _ I2 q2) fun fv s3 ⟨z, H3, I3, rz, za, zb, ez, ey, q3⟩ => Calls.spliced_nil ?_))
  · dsimp only at o2
    split at o2
    · rename_i z y ez ey
      exact ⟨z, y, ((k1.step n2).vw w2 ez).str, (k2.vw w2 ey).str, o2 _ F2 H2 .refl w2 (.str _) trivial⟩
    · exact o2.elim
  · subst ez; subst ey
    obtain ⟨t1, rfl⟩ := ry
    obtain ⟨t2, rfl⟩ := rz
    have mp3 := PySem.W.mapOf_K (prog := X.prog) (w := X.w) I3.kIn kd.at_ kd.lit
    refine call_meetsIn PySem.F.slot_dict_get mp3.typeIs PySem.F.entry_dict_get (PySem.F.args_dict_get_3 _ _ _) (meets_dict_get_default (PySem.strKind X.prog X.w) (He.ga X.K x) (PySem.strKind_is X.prog X.w za t1) kd.low (.str zb t2)) ⟨_, mp3, ?_⟩
    obtain ⟨rr, a1, a2⟩ := T.ns za
    rw [PySem.W.find_K kd.at_ a1]
    cases q : findS rows za with
    | none =>
      have hn : decide (za ∈ rows.map (·.1)) = false := by
        rw [decide_eq_false_iff_not]
        intro hm
        obtain ⟨r, hr, e⟩ := List.mem_map.mp hm
        unfold findS at q
        rw [Option.map_eq_none_iff, List.find?_eq_none] at q
        exact q r hr (decide_eq_true e)
      rw [hn] at a2
      cases rr with
      | some _ => cases a2
      | none =>
        refine ⟨.str zb, H3, I3.tok _, ⟨t2, rfl⟩, ?_⟩
        rw [q] at q3; exact q3
    | some y =>
      have hm : (za, y) ∈ rows := by
        unfold findS at q
        cases q1 : rows.find? fun r => decide (r.1 = za) with
        | none => rw [q1] at q; cases q
        | some r =>
          rw [q1] at q; cases q
          have e : r.1 = za := of_decide_eq_true (List.find?_some (p := fun r : Str × Str => decide (r.1 = za)) q1)
          rw [← e]
          exact List.mem_of_find?_eq_some q1
      obtain ⟨t, e⟩ := T.row za y hm
      rw [a1] at e; cases e
      refine ⟨.str y, H3, I3.tok _, ⟨t, rfl⟩, ?_⟩
      rw [q] at q3; exact q3
end
/-! ### isinstance of a caught error -/
theorem pe_isE {X : Cx} {C a : Addr} {oe : Obj} {cls : Value} {d : Option Addr} {pn : List (Addr × Obj)} {j : Nat} {n T : Str} {p1 p2 p3 p4 : Pos} {c : V} {cv : Value} {b : Bool} (EC : ExcC X.K C) (hz : Zc cls d oe) (hf : ∃ vs, oe.data = .fields vs)
    (hj : X.N[j]? = some n) (hn : Vis X.env.scope n) (g1 : (n == ("__debug__" : Str)) = false) (g2 : (n == ("__classdict__" : Str)) = false) (gi : Gl X "isinstance") (mi : X.mg "isinstance" = none)
    (ht : PE (X.suite a ((a, oe) :: pn)) (.Name T p3) (tC c)) (hcv : ∀ u, RelV c u → u = cv) (e : PySem.W.kitOne X.K (.ref C) cv = some b) :
    PE (X.suite a ((a, oe) :: pn)) (.Call (.Name "isinstance" p1) [.Name n p2, .Name T p3] [] p4) (fun σ H Q => σ[j]? = some (some (.ref a)) ∧ cls = .ref C ∧ (∃ (dd : Addr) (fv : List (Str × V)), d = some dd ∧ H dd = some (.xd fv)) ∧ Q (.bl b) H) := by
  have call : CallR (X.suite a ((a, oe) :: pn)) (.builtin "isinstance") (fun xs H Q => xs = [.ref a, c] ∧ cls = .ref C ∧ (∃ (dd : Addr) (fv : List (Str × V)), d = some dd ∧ H dd = some (.xd fv)) ∧ Q (.bl b) H) := by
    intro pins s σ H xs us Q I r hh
    obtain ⟨rfl, ec, ⟨dd, fv, ed, ea⟩, q⟩ := hh
    subst ec
    cases r with
    | cons rx rr =>
      cases rr with
      | cons rt rr =>
        cases rr
        cases rx
        have ec := hcv _ rt
        subst ec
        obtain ⟨hget, _⟩ := I.pin (a, oe) (List.mem_append.mpr (.inl List.mem_cons_self))
        obtain ⟨vs, hv⟩ := hf
        subst ed
        obtain ⟨mA, hns, hr⟩ := (show ObjOk X.prog X.w H s.heap dd (.xd fv) from I.hok dd _ ea)
        obtain ⟨od, ho, hl⟩ := lookIn_ns hns
        have J : PySem.W.InstAt s.heap a oe C (some od) := ⟨hget, hz.1, by unfold PySem.W.notCls; rw [hv] <;> rfl, by rw [hz.2]; exact ho⟩
        obtain ⟨cd, hcl, _⟩ := PySem.W.any_some EC.hd
        exact PySem.W.kia_one (PySem.W.kitx_exc (by rw [hcl]; rfl) EC.hg EC.hk EC.hs EC.ha EC.hn EC.ht EC.hm) I.kIn J e (fun z => nomatch z) fun tk => ⟨.bl b, H, I.kept (t' := tk) fun _ _ z => z, rfl, q⟩
  refine PE.imp (pe_callB call gi mi (by decide +kernel) (pa_cons (pe_var (X := X.suite a ((a, oe) :: pn)) hj hn g1 g2) (pa_cons ht pa_nil)) (by decide) (by decide)) fun σ H Q ⟨h1, h2, h3, q⟩ => ?_
  exact ⟨.ref a, h1, rfl, h2, h3, q⟩
def excB (K : PySem.W.Frag) (D : Addr) : Bool :=
  decide (PySem.W.findIn K (.ref D) "__getattribute__" = some (some (.builtin "BaseException.__getattribute__"))) && (decide (PySem.W.findIn K (.ref D) "__getattr__" = some none) && (decide (PySem.W.subIn K (.ref D) (.type "BaseException") = some true) && (PySem.W.hasDictIn K D &&
  (decide (PySem.W.findIn K (.ref D) "__class__" = some (some (.builtin "object.__class__"))) && (decide (PySem.W.specialIn K (.builtin "object.__class__") "__get__" = some (some (.builtin "getset_descriptor.__get__"))) && (decide (PySem.W.takesIn K (.builtin "object.__class__") = some true) && decide (PySem.W.mroIn K D (.type "object") = some true)))))))
theorem excB_ok {K : PySem.W.Frag} {D : Addr} (h : excB K D = true) : ExcC K D := by
  obtain ⟨h1, h⟩ := Bool.and_eq_true_iff.mp h
  obtain ⟨h2, h⟩ := Bool.and_eq_true_iff.mp h
  obtain ⟨h3, h⟩ := Bool.and_eq_true_iff.mp h
  obtain ⟨h4, h⟩ := Bool.and_eq_true_iff.mp h
  obtain ⟨h5, h⟩ := Bool.and_eq_true_iff.mp h
  obtain ⟨h6, h⟩ := Bool.and_eq_true_iff.mp h
  obtain ⟨h7, h8⟩ := Bool.and_eq_true_iff.mp h
  exact ⟨of_decide_eq_true h1, of_decide_eq_true h2, of_decide_eq_true h3, h4, of_decide_eq_true h5, of_decide_eq_true h6, of_decide_eq_true h7, of_decide_eq_true h8⟩
/-- isinstance(e, T), T a class of the program, or a built-in one -/
def isOB (K : PySem.W.Frag) (C D : Addr) (b : Bool) : Bool := decide (PySem.W.kitOne K (.ref C) (.ref D) = some b)
def isTB (K : PySem.W.Frag) (C : Addr) (T : String) (b : Bool) : Bool := decide (PySem.W.kitOne K (.ref C) (.type T) = some b)
section
variable {sl : List SV} {cs c : List CO} {f g : FE} {r r' : RV} {rows : RowS} {z y : Str} {zs : List Str} {ds : List D}
def kKGetO (rows : RowS) (c : List CO) : Option D → Option D → Res (RV × List CO)
  | some (.str z), some (.str y) => .ok (.dat (.str ((findS rows z).getD y)), c)
  | _, _ => .bad
def kKGet2 (rows : RowS) (a : RV) : RV × List CO → Res (RV × List CO) := fun b => kKGetO rows b.2 (a.view b.2) (b.1.view b.2)
def kKGet (rows : RowS) (g : FE) (sl : List SV) : RV × List CO → Res (RV × List CO) := fun a => (g sl a.2).then (kKGet2 rows a.1)
theorem x_kget : dKGet rows f g sl cs = (f sl cs).then (kKGet rows g sl) := rfl
theorem x_kget1 : kKGet rows g sl (r, c) = (g sl c).then (kKGet2 rows r) := rfl
theorem x_kget2 : kKGet2 rows r (r', c) = kKGetO rows c (r.view c) (r'.view c) := rfl
theorem x_kgetO : kKGetO rows c (some (.str z)) (some (.str y)) = .ok (.dat (.str ((findS rows z).getD y)), c) := rfl
theorem x_gUp (h : z.length ≤ 5592405) : gUp (.str z) = some (.dat (.str (Txt.upper z))) := if_pos h
theorem x_gIn_l : gIn (.str z) (.lst ds) = (strsOf ds).map fun zs => .dat (.bl (decide (z ∈ zs))) := by
  have e : seqS (.lst ds) = strsOf ds := rfl
  unfold gIn
  rw [e]
  cases strsOf ds <;> rfl
theorem x_gIn_t : gIn (.str z) (.tup ds) = (strsOf ds).map fun zs => .dat (.bl (decide (z ∈ zs))) := by
  have e : seqS (.tup ds) = strsOf ds := rfl
  unfold gIn
  rw [e]
  cases strsOf ds <;> rfl
end
end SL

/-! Sxe: a set of texts (made of a text, sorted). -/
namespace SL.ST
open PySem PySem.Spec PyProof.Rows L2

def keyT (e : Int × Value) : Str := match e.2 with | .str x _ => x | _ => Str.empty
def GoodT (w : World) (e : Int × Value) : Prop := ∃ x tk, e.2 = Value.str x tk ∧ e.1 = hashStr w x
/-- the set of texts at a: σ its members; its table rises and can be walked -/
def SetT (w : World) (h : Heap) (a : Addr) (σ : List Str) : Prop :=
  ∃ o es ep t, h.get? a = some o ∧ o.ExactSet ∧ o.data = .set es ep t ∧ (∀ e ∈ es.toList, GoodT w e) ∧ σ.Nodup ∧ (es.toList.map keyT).Perm σ ∧
    es.size < scanBound ∧ t.fits es.size = true ∧ Ris t.place.toList ∧ (w.params.followText "set-order" = true ∨ t.led = true)

section
variable {P : Program} {w : World} {h h' : Heap} {a : Addr} {σ : List Str}
theorem SetT.at (R : SetT w h a σ) (k : ∀ o, h.get? a = some o → h'.get? a = some o) : SetT w h' a σ := by
  obtain ⟨o, es, ep, t, ho, r⟩ := R
  exact ⟨o, es, ep, t, k o ho, r⟩
theorem SetT.lt (R : SetT w h a σ) : a < h.objs.size := by
  obtain ⟨o, es, ep, t, ho, r⟩ := R
  exact Heap.lt_size ho
theorem good_elemsT {l : List (Int × Value)} (g : ∀ e ∈ l, GoodT w e) : ElemsOf (PySem.strKind P w) l := fun e he => by
  obtain ⟨k, tk, h1, h2⟩ := g e he
  exact ⟨⟨k, by rw [h1]; exact strKind_is P w k tk, h2⟩, by rw [h1] <;> rfl⟩
theorem good_isT {e : Int × Value} (g : GoodT w e) (k : Str) : (PySem.strKind P w).is k e.2 = true ↔ keyT e = k := by
  obtain ⟨k0, tk, h1, _⟩ := g
  unfold keyT
  rw [h1]
  show ((k0 == k) = true) ↔ k0 = k
  exact beq_iff_eq
theorem good_memT {l : List (Int × Value)} (g : ∀ e ∈ l, GoodT w e) (k : Str) : k ∈ l.map keyT ↔ ∃ e ∈ l, (PySem.strKind P w).is k e.2 = true := by
  rw [List.mem_map]
  constructor
  · rintro ⟨e, he, q⟩
    exact ⟨e, he, (good_isT (g e he) k).2 q⟩
  · rintro ⟨e, he, q⟩
    exact ⟨e, he, (good_isT (g e he) k).1 q⟩
end

/-- one more member, unless it is one already -/
def ins (σ : List Str) (x : Str) : List Str := if x ∈ σ then σ else x :: σ

section
variable {P : Program} {w : World} {A : Around} {E : Value → Shared → Prop} {s : Shared} {a : Addr} {σ : List Str}
theorem setT_add_tail {g : Bool → Sem Unit} (hg : ∀ (b : Bool) (s₁ : Shared) (Q' : Unit → Shared → Prop), Q' () s₁ → wpAny (model P w) A (g b) Q' E s₁)
    {o : Obj} {es : Array (Int × Value)} {ep : Nat} {t : SetTable} (ho : s.heap.get? a = some o) (hex : o.ExactSet) (hd : o.data = .set es ep t)
    {es1 : Array (Int × Value)} {t2 : SetTable} {σ' : List Str} (g1 : ∀ e ∈ es1.toList, GoodT w e) (nd1 : σ'.Nodup) (m1 : (es1.toList.map keyT).Perm σ')
    (hb1 : es1.size < scanBound) (hf2 : t2.fits es1.size = true) (hr : Ris t2.place.toList) (hl : w.params.followText "set-order" = true ∨ t2.led = true) {wasDummy : Bool} {R : Option Bool → Shared → Prop}
    (hR : ∀ h', Heap.SameBut a s.heap h' → SetT w h' a σ' → R (some true) { s with heap := h' }) :
    wpAny (model P w) A (do
        storeSet a es1 t2
        if (!wasDummy && t2.tooFull) = true then do
            g (relayAll t2 es1 (SetTable.grown es1.size)).2.2
            storeSet a (relayAll t2 es1 (SetTable.grown es1.size)).1 (relayAll t2 es1 (SetTable.grown es1.size)).2.1
            pure (some true)
          else pure (some true)) R E s := by
  refine wpAny_bind (wpAny_storeSet_of ho hd ?_ (fits_of_scanBound hb1))
  have ho1 := store_at (es' := es1) (t' := t2) ho hd
  have sb1 := Heap.SameBut.update s.heap a (Obj.putSet es1 t2)
  split
  · have pm := relayAll_perm t2 es1 (SetTable.grown es1.size)
    have hf3 := relayAll_fits t2 es1 (SetTable.grown es1.size)
    have hr3 := relayAll_ris t2 es1 (SetTable.grown es1.size)
    have hl3 := relayAll_led t2 es1 (SetTable.grown es1.size)
    generalize relayAll t2 es1 (SetTable.grown es1.size) = Z at pm hf3 hr3 hl3 ⊢
    obtain ⟨es2, t3, gave⟩ := Z
    dsimp only at pm hf3 hr3 hl3 ⊢
    have hsz : es2.size = es1.size := by rw [← Array.length_toList, pm.length_eq, Array.length_toList]
    have hb2 : es2.size < scanBound := by rw [hsz]; exact hb1
    refine wpAny_bind (hg _ _ _ ?_)
    refine wpAny_bind (wpAny_storeSet_of ho1 rfl ?_ (fits_of_scanBound hb2))
    have ho2 := store_at (es' := es2) (t' := t3) ho1 rfl
    refine wpAny_pure (hR _ (sb1.trans (Heap.SameBut.update _ a _)) ?_)
    exact ⟨_, es2, _, t3, ho2, hex, rfl, fun e he => g1 e (pm.mem_iff.mp he), nd1, (pm.map keyT).trans m1, hb2, hf3, hr3,
      hl.imp id fun z => by rw [hl3]; exact z⟩
  · exact wpAny_pure (hR _ sb1 ⟨_, es1, _, t2, ho1, hex, rfl, g1, nd1, m1, hb1, hf2, hr, hl⟩)

theorem setT_add_hashed {k : Str} {tk : Tok} {Q : Bool → Shared → Prop} (R : SetT w s.heap a σ) (room : σ.length + 1 < scanBound)
    (hQ : ∀ h' b, Heap.SameBut a s.heap h' → SetT w h' a (ins σ k) → Q b { s with heap := h' }) :
    wpAny (model P w) A (setAddHashed a (.str k tk) ((PySem.strKind P w).hash k)) Q E s := by
  obtain ⟨o, es, ep, t, ho, hex, hd, g, nd, hm, hb, hf, hr, hl⟩ := R
  have hkey : (PySem.strKind P w).is k (.str k tk) = true := strKind_is P w k tk
  have hsc : (Value.str k tk).scannable = true := rfl
  have hel : ElemsOf (PySem.strKind P w) es.toList := good_elemsT g
  unfold setAddHashed setAddHashedIn
  refine wpAny_holding (wpAny_bind (wpAny_setState_of ho hd hf ?_))
  dsimp only
  rw [byScan_of hsc hb hel]
  simp only [↓reduceIte]
  unfold setAddByScan
  refine wpAny_bind ?_
  refine wpAny_bind (wpAny_rule ?_)
  refine wpAny_bind (wpAny_setScan_of hkey ho hd hf hel ?_)
  cases hfi : List.findIdx? (fun e => (PySem.strKind P w).is k e.2) es.toList with
  | some j =>
    dsimp only
    obtain ⟨hj, pj, _⟩ := List.findIdx?_eq_some_iff_getElem.mp hfi
    have hSk : k ∈ σ := hm.mem_iff.mp ((good_memT (P := P) (w := w) g k).2 ⟨es.toList[j], List.getElem_mem hj, pj⟩)
    refine wpAny_pure (wpAny_pure ?_)
    exact hQ s.heap _ (Heap.SameBut.refl a s.heap) ⟨o, es, ep, t, ho, hex, hd, g, by unfold ins; rw [if_pos hSk]; exact nd, by unfold ins; rw [if_pos hSk]; exact hm, hb, hf, hr, hl⟩
  | none =>
    dsimp only
    have hnk : k ∉ es.toList.map keyT := fun z => by
      obtain ⟨e, he, q⟩ := (good_memT (P := P) (w := w) g k).1 z
      have c := List.findIdx?_eq_none_iff.mp hfi e he
      rw [q] at c
      cases c
    have hns : k ∉ σ := fun z => hnk (hm.mem_iff.mpr z)
    have hgw : ∀ (b : Bool) {s₁ : Shared} {Q' : Unit → Shared → Prop}, Q' () s₁ → wpAny (model P w) A (match b with | true => rule "set.scan.the-table-gave-way" | false => pure ()) Q' E s₁ :=
      fun b s₁ Q' q => by cases b <;> first | exact wpAny_pure q | exact wpAny_rule q
    have pm := layNew_perm t es ((PySem.strKind P w).hash k) (.str k tk)
    have hf1 := layNew_fits t es ((PySem.strKind P w).hash k) (.str k tk)
    have hr1 := layNew_ris t es ((PySem.strKind P w).hash k) (.str k tk) hr
    have hl1 := layNew_led t es ((PySem.strKind P w).hash k) (.str k tk)
    generalize layNew t es ((PySem.strKind P w).hash k) (.str k tk) = Z at pm hf1 hr1 hl1 ⊢
    obtain ⟨es1, t1, wasDummy, gave⟩ := Z
    dsimp only at pm hf1 hr1 hl1 ⊢
    rw [Array.toList_push] at pm
    have pc : es1.toList.Perm (((PySem.strKind P w).hash k, Value.str k tk) :: es.toList) := pm.trans (List.perm_append_singleton _ _)
    have pk : (es1.toList.map keyT).Perm (k :: σ) := (pc.map keyT).trans (List.Perm.cons k hm)
    have g1 : ∀ e ∈ es1.toList, GoodT w e := fun e he => by
      rcases List.mem_cons.mp (pc.mem_iff.mp he) with z | z
      · rw [z]; exact ⟨k, tk, rfl, rfl⟩
      · exact g e z
    have ei : ins σ k = k :: σ := by unfold ins; rw [if_neg hns]
    have nd1 : (ins σ k).Nodup := by rw [ei]; exact List.nodup_cons.mpr ⟨hns, nd⟩
    have m1 : (es1.toList.map keyT).Perm (ins σ k) := by rw [ei]; exact pk
    have hln : es.size = σ.length := by rw [← Array.length_toList, ← hm.length_eq, List.length_map]
    have hsz : es1.size = σ.length + 1 := by rw [← Array.length_toList, pc.length_eq, List.length_cons, Array.length_toList, hln]
    have hb1 : es1.size < scanBound := by rw [hsz]; exact room
    have hled : w.params.followText "set-order" = true ∨ t1.led = true := hl.imp id fun z => by rw [hl1]; exact z
    have fin : ∀ h', Heap.SameBut a s.heap h' → SetT w h' a (ins σ k) → Q true { s with heap := h' } := fun h' sb r => hQ h' _ sb r
    refine wpAny_bind (hgw _ ?_)
    split
    · refine wpAny_bind ?_
      rw [hashByValue_scannable 8 hsc]
      refine wpAny_pure ?_
      refine setT_add_tail ?_ ho hex hd g1 nd1 m1 hb1 ?_ ?_ ?_ ?_
      · intro b s₁ Q' q; cases b <;> first | exact wpAny_pure q | exact wpAny_rule q
      · first | (split <;> first | exact hf1 | exact SetTable.fits_plain_off hf1) | exact hf1
      · first | (split <;> exact hr1) | exact hr1
      · first | (split <;> exact hled) | exact hled
      · intro h' sb r; dsimp only; exact wpAny_pure (fin h' sb r)
    · refine wpAny_bind (wpAny_pure ?_)
      simp only [↓reduceIte]
      refine setT_add_tail ?_ ho hex hd g1 nd1 m1 hb1 hf1 hr1 hled ?_
      · intro b s₁ Q' q; cases b <;> first | exact wpAny_pure q | exact wpAny_rule q
      · intro h' sb r; dsimp only; exact wpAny_pure (fin h' sb r)
end

/-- the first i of them, each once -/
def met (xs : List Str) : List Str := xs.foldl ins []
theorem met_snoc (xs : List Str) (x : Str) : met (xs ++ [x]) = ins (met xs) x := by unfold met; rw [List.foldl_append]; rfl
theorem len_ins_le (σ : List Str) (x : Str) : σ.length ≤ (ins σ x).length := by unfold ins; split <;> simp
theorem len_met (xs : List Str) : ∀ ys, (met xs).length ≤ (met (xs ++ ys)).length := by
  intro ys
  unfold met
  rw [List.foldl_append]
  generalize List.foldl ins [] xs = σ
  induction ys generalizing σ with
  | nil => exact Nat.le_refl _
  | cons y ys ih => exact Nat.le_trans (len_ins_le σ y) (ih _)
theorem len_take (xs : List Str) (i : Nat) : (met (xs.take i)).length ≤ (met xs).length := by
  have h := len_met (xs.take i) (xs.drop i)
  rwa [List.take_append_drop] at h

section
variable {prog : Program} {w : World} {A : Around} {R : Result → Shared → Prop} {I : Addr} {fp wr : List Addr} {G : Array GenState → Array GenState → Prop} {n : Nat} {P : Nat → Value → Prop} {St : Nat → Shared → Prop}
theorem loopT (W : WalksS prog w A.in1 I fp wr G n P St) (S : Addr) (hSf : S ∉ fp) (xs : List Str) (hsz : xs.length = n) (hb : (met xs).length + 1 < scanBound)
    (hval : ∀ i v, P i v → ∃ x t, xs[i]? = some x ∧ v = .str x t) :
    ∀ (k i : Nat) (s : Shared), n - i = k → i ≤ n → St i s → SetT w s.heap S (met (xs.take i)) →
      (∀ s', Moved (S :: wr) G s s' → SetT w s'.heap S (met xs) → R (.ok (.ret .none)) s') →
      codeAny (model prog w) A (.builtin "set.update.loop" ⟨[.ref S, .ref I], []⟩) R s := by
  have hSw : S ∉ wr := fun h => hSf (W.sub _ h)
  have hsub : ∀ b ∈ wr, b ∈ S :: wr := fun b hb => List.mem_cons_of_mem _ hb
  intro k
  induction k with
  | zero =>
    intro i s hk hi hst hS hR
    have hin : i = n := by omega
    subst hin
    refine codeAny_builtin PyProof.Rows.F.entry_set_update_loop ?_
    rw [Around.under_plainId PyProof.Rows.F.plain_set_update_loop _]
    show wpAny _ A.in1 (pyNext (.ref I) >>= _) _ _ s
    refine wpAny_bind (W.done s _ _ hst fun s' hm => ?_)
    show wpAny _ A.in1 (ret Value.none) _ _ s'
    rw [List.take_of_length_le (by omega)] at hS
    exact wpAny_pure (hR s' (hm.mono hsub) (hS.at fun o ho => hm.heap S _ hSw ho))
  | succ k ih =>
    intro i s hk hi hst hS hR
    have hlt : i < n := by omega
    refine codeAny_builtin PyProof.Rows.F.entry_set_update_loop ?_
    rw [Around.under_plainId PyProof.Rows.F.plain_set_update_loop _]
    show wpAny _ A.in1 (pyNext (.ref I) >>= _) _ _ s
    refine wpAny_bind (W.item i s _ _ hlt hst fun v s' hP hst' hm => ?_)
    obtain ⟨x, t, hx, rfl⟩ := hval i v hP
    have hS' : SetT w s'.heap S (met (xs.take i)) := hS.at fun o ho => hm.heap S _ hSw ho
    show wpAny _ A.in1 (holding [Value.str x t] (setAdd S (.str x t)) >>= _) _ _ s'
    refine wpAny_bind (wpAny_holding ?_)
    unfold setAdd
    refine wpAny_holding ?_
    refine wpAny_bind ((PySem.strKind prog w).pyHash (k := x) (strKind_is _ _ _ _) ?_)
    refine setT_add_hashed (s := { s' with toks := s'.toks + 1 }) hS' (by have := len_take xs i; omega) fun h' b hsb hS2 => ?_
    have hSi : SetT w h' S (met (xs.take (i + 1))) := by
      have e : xs.take (i + 1) = xs.take i ++ [x] := by rw [List.take_add_one, hx]; rfl
      rw [e, met_snoc]
      exact hS2
    refine wpAny_pure ⟨plainId_quiet PyProof.Rows.F.plain_set_update_loop _, ih (i + 1) _ (by omega) hlt (W.frame _ s' _ _ hst' (Nat.le_succ _) fun b hb o e => ?_) hSi fun s'' hm'' hS'' => ?_⟩
    · rw [hsb.2 b (fun h : b = S => hSf (by rw [← h]; exact hb))]; exact e
    · refine hR s'' (Moved.trans W.gtrans ((hm.mono hsub).then_heap (Nat.le_succ _) fun b o hb e => ?_) hm'') hS''
      rw [hsb.2 b (fun h : b = S => hb (by rw [h]; exact List.mem_cons_self))]; exact e
end
end SL.ST
namespace SL.ST
open PySem PySem.Spec PyProof.Rows L2
section
variable {prog : Program} {w : World} {A : Around} {E : Value → Shared → Prop} {s : Shared}
abbrev emptySet (w : World) : Obj := { cls := .type "set", dict := none, data := .set #[] 0 (.fresh 0 0 (!w.params.followText "set-order")) }
theorem code_set_led1 (a : Value) {Q₁ : Value → Shared → Prop}
    (h : Q₁ (.ref s.heap.objs.size) { s with heap := s.heap.push (emptySet w) }) :
    codeAny (model prog w) A (.call (.builtin "set.__new__") ⟨[.type "set", a], []⟩) (wants Q₁ E) s := by
  refine codeAny_of_tree ?_
  show wpAny _ A.in1 (do checkBuiltinCall "set.__new__" ⟨[.type "set", a], []⟩; again (.builtin "set.__new__" ⟨[.type "set", a], []⟩)) _ _ s
  refine wpAny_bind (wpAny_of_eq (PySem.F.newCall_set_1 a) (wpAny_pure ⟨plainId_quiet PySem.F.plain_set_new _, codeAny_builtin PySem.F.entry_set_new ?_⟩))
  rw [Around.under_plainId PySem.F.plain_set_new _]
  unfold Builtin.«set.__new__» Builtin.Frozenset.newClass
  have hsub := sub_set_self
  obtain ⟨hp, g, d, tk, os⟩ := s
  dsimp only
  wp_walk
  refine wpAny_askSetting (wpAny_pure ?_)
  dsimp only
  simp only [newObj]
  refine wpAny_bind (wpAny_alloc (wpAny_pure ?_))
  exact wpAny_pure h
theorem setT_fresh {h : Heap} (w : World) : SetT w (h.push (emptySet w)) h.objs.size [] :=
  ⟨_, #[], 0, _, Heap.get?_push_size _ rfl, ⟨rfl, rfl, rfl⟩, rfl, (fun e he => by simp at he), List.nodup_nil, (by simp), (by decide), (by rfl), List.Pairwise.nil, by
    show _ ∨ (!w.params.followText "set-order") = true
    cases w.params.followText "set-order"
    · exact .inr rfl
    · exact .inl rfl⟩
theorem sub_str_set : isSubtype (.type "str") (.type "set") = pure false := by rw [isSubtype_type]; kernel_rfl
theorem sub_str_frozenset : isSubtype (.type "str") (.type "frozenset") = pure false := by rw [isSubtype_type]; kernel_rfl

/-- the signs of a text, as texts -/
def signs (x : Str) : List Str := x.cps.toList.map fun c => ⟨#[c]⟩
theorem signs_at {x : Str} {i : Nat} {v : Value} (h : SignAt x i v) : ∃ y t, (signs x)[i]? = some y ∧ v = .str y t := by
  obtain ⟨c, u, e, rfl⟩ := h
  exact ⟨⟨#[c]⟩, u, by unfold signs; rw [List.getElem?_map, Array.getElem?_toList, e]; rfl, rfl⟩
theorem len_signs (x : Str) : (signs x).length = x.cps.size := by unfold signs; rw [List.length_map, Array.length_toList]

set_option maxHeartbeats 3200000 in
theorem call_set_str {x : Str} {t : Tok} {Q : Value → Shared → Prop}
    (hh : A.handled = none) (hn1 : (met (signs x)).length + 1 < scanBound)
    (h : ∀ (h' : Heap) (tk : Nat), SetT w h' s.heap.objs.size (met (signs x)) →
      (∀ b o, b < s.heap.objs.size → s.heap.get? b = some o → h'.get? b = some o) → Q (.ref s.heap.objs.size) { s with heap := h', toks := tk }) :
    wpAny (model prog w) A (call (.type "set") [.str x t]) Q E s := by
  obtain ⟨c, tl, hmro⟩ := PySem.F.called_set.mro
  have hmade := PySem.F.called_set.made
  have hsub := PySem.F.called_set.sub
  refine wpAny_call (codeAny_of_tree ?_)
  show wpAny _ _ (callAny (.type "set") _) _ _ _
  refine wpAny_pure ⟨Code.quiet_builtin _ (by decide +kernel), codeAny_builtin PySem.F.entry_type_call ?_⟩
  rw [Around.under_plain (weight_type_call_type "set" [.str x t] []) rfl]
  have h1 := PySem.F.called_set.notType
  have h2 := PySem.F.called_set.canCreate
  have hct := PySem.F.typeCall_set_1 (.str x t)
  repeat (any_goals (first | assumption | wp_step))
  refine codeAny_mono (code_set_led1 (w := w) (.str x t) (E := E) (Q₁ := fun obj s₁ => obj = .ref s.heap.objs.size ∧ s₁ = { s with heap := s.heap.push (emptySet w) }) ⟨rfl, rfl⟩) fun r s₁ hr => ?_
  cases r with
  | error e => exact hr
  | ok fl =>
    cases fl with
    | ret obj =>
      obtain ⟨rfl, rfl⟩ := hr
      have hS : (s.heap.push (emptySet w)).get? s.heap.objs.size = some (emptySet w) := Heap.get?_push_size _ rfl
      have hT : Shared.TypeIs { s with heap := s.heap.push (emptySet w) } (.ref s.heap.objs.size) "set" := ⟨_, hS, rfl⟩
      have hli := PySem.F.called_set.init.lookup
      have hbi := PySem.F.called_set.init.bind (.ref s.heap.objs.size)
      repeat (any_goals (first | assumption | wp_step))
      refine codeAny_mono (codeAny_call_builtin (R := wants (fun r s₂ => r = .none ∧ ∃ h' tk, s₂ = { s with heap := h', toks := tk } ∧
          SetT w h' s.heap.objs.size (met (signs x)) ∧
          (∀ b o, b < s.heap.objs.size → s.heap.get? b = some o → h'.get? b = some o)) E) PySem.F.called_set.init.plain PySem.F.entry_set_init (check_set_init_1 hT ?_)) fun r₂ s₂ hr₂ => ?_
      · have hsls := sub_str_set
        have hslf := sub_str_frozenset
        have hne : (Value.type "str" == Value.type "dict") = false := by decide
        unfold Builtin.«set.__init__» noKeywords Builtin.Frozenset.updateFrom
        generalize hPI : pyIter = PI
        wp_walk
        subst hPI
        refine wpAny_pyIter_str fun o St W st => ?_
        refine wpAny_bind (wpAny_runValue ?_)
        have hh3 : A.in1.in1.in1.handled = none := by simp [hh]
        have hsz1 : (s.heap.push (emptySet w)).objs.size = s.heap.objs.size + 1 := Heap.size_push ..
        have hSf : s.heap.objs.size ∉ [(s.heap.push (emptySet w)).objs.size] := by
          rw [hsz1, List.mem_singleton]; exact Nat.ne_of_lt (Nat.lt_succ_self _)
        refine loopT ((W _ hh3).toS) s.heap.objs.size hSf (signs x) (len_signs x) hn1 (fun i v hv => signs_at hv) (x.cps.size - 0) 0 _ (by omega) (Nat.zero_le _) st ?hS0 ?hR
        case hS0 =>
          exact (setT_fresh w).at fun o e => Heap.get?_push_of_some _ e
        case hR =>
          intro s' hm hS'
          obtain ⟨h', g', d', tk', os'⟩ := s'
          have eg : g' = s.gens := hm.gens
          have ed : d' = s.drawn := hm.drawn
          have eo : os' = s.os := hm.os
          subst eg; subst ed; subst eo
          show wpAny _ _ _ _ _ _
          refine wpAny_pure ?_
          show wpAny _ _ (ret Value.none) _ _ _
          refine wpAny_pure ⟨rfl, h', tk', rfl, hS', fun b o hb e => ?_⟩
          have hb1 : b ≠ s.heap.objs.size := Nat.ne_of_lt hb
          have hb2 : b ≠ (s.heap.push (emptySet w)).objs.size := by
            rw [hsz1]; exact Nat.ne_of_lt (Nat.lt_succ_of_lt hb)
          exact hm.heap b o (by simp only [List.mem_cons, List.mem_singleton, List.not_mem_nil, or_false, not_or]; exact ⟨hb1, hb2⟩) (Heap.get?_push_of_some _ (Heap.get?_push_of_some _ e))
      · cases r₂ with
        | error e => exact hr₂
        | ok fl₂ =>
          cases fl₂ with
          | ret r =>
            obtain ⟨rfl, h', tk, rfl, hS', hk'⟩ := hr₂
            repeat (any_goals (first | assumption | wp_step))
            exact h _ _ hS' hk'
          | _ => exact hr₂.elim
    | _ => exact hr.elim
end
end SL.ST

/-! Sxf: sorted(set(text)), sorted of texts. -/
namespace SL.ST
open PySem PySem.Spec PyProof.Rows L2
theorem strs_of : ∀ (l : List (Int × Value)) {w : World}, (∀ e ∈ l, GoodT w e) → StrsAre (l.map (·.2)) (l.map keyT)
  | [], _, _ => .nil
  | e :: l, w, h => by
    obtain ⟨x, tk, h1, _⟩ := h e List.mem_cons_self
    have e2 : keyT e = x := by unfold keyT; rw [h1]
    rw [List.map_cons, List.map_cons, h1, e2]
    exact .cons x tk (strs_of l fun u hu => h u (List.mem_cons_of_mem _ hu))
theorem strs_perm {l l' : List Value} {xs : List Str} (h : StrsAre l xs) (p : l'.Perm l) : ∃ ys, StrsAre l' ys ∧ ys.Perm xs := by
  induction p generalizing xs with
  | nil => exact ⟨xs, h, .refl _⟩
  | cons a _ ih =>
    cases h with
    | cons x t r => obtain ⟨ys, h1, h2⟩ := ih r; exact ⟨x :: ys, .cons x t h1, .cons x h2⟩
  | swap a b l =>
    cases h with
    | cons x t r =>
      cases r with
      | cons y u r => exact ⟨y :: x :: _, .cons y u (.cons x t r), .swap _ _ _⟩
  | trans p1 p2 ih1 ih2 =>
    obtain ⟨ys, h1, h2⟩ := ih2 h
    obtain ⟨zs, h3, h4⟩ := ih1 h1
    exact ⟨zs, h3, h4.trans h2⟩
section
variable {P : Program} {w : World} {A : Around} {E : Value → Shared → Prop} {s : Shared} {a : Addr} {σ : List Str}
theorem sorted_setT {Q : Value → Shared → Prop} (R : SetT w s.heap a σ) (hh : A.handled = none) (h64 : σ.length < 64)
    (hQ : ∀ s' p (out : Array Value) (c : Nat) (ys : List Str), (∀ b o, s.heap.get? b = some o → s'.heap.get? b = some o) → s'.gens = s.gens → s'.os = s.os → s.heap.objs.size ≤ p →
      s'.heap.get? p = some (seqObj "list" out c) → StrsAre out.toList ys → ys.Perm σ → sortedS ys = true → Q (.ref p) s') :
    wpAny (model P w) A (call (.builtin "sorted") [.ref a]) Q E s := by
  obtain ⟨o, es, ep, t, ho, hex, hd, g, nd, hm, hb, hf, hr, hl⟩ := R
  have hln : es.size = σ.length := by rw [← Array.length_toList, ← hm.length_eq, List.length_map]
  refine Calls.call_function_entry kind_sorted plain_sorted entry_sorted (args_sorted1 _) ?_
  unfold Builtin.«sorted»
  refine wpAny_bind (m := checkCount "sorted" 1 1 _) (wpAny_pure ?_)
  refine wpAny_bind (collect_set (A := A.in1) hh ⟨o, ho, hex.1, hd⟩ hf hb hr hl fun s1 vs k1 hz g1 o1 pm => ?_)
  have hvl : vs.length = σ.length := by rw [pm.length_eq, List.length_map, Array.length_toList]; exact hln
  obtain ⟨zs, hS, pz⟩ := strs_perm (strs_of es.toList g) pm
  refine wpAny_bind (wpAny_newList ?_ (by rw [hvl, sizeLine_eq]; omega))
  have hoL : (s1.heap.push (seqObj "list" vs.toArray 0)).get? s1.heap.objs.size = some (seqObj "list" vs.toArray 0) := Heap.get?_push_size _ rfl
  refine wpAny_bind (wpAny_holding (wpAny_call_entry slot_list_sort ⟨_, hoL, rfl⟩ entry_list_sort
    (list_sort_treeK strKind_oneLt hoL hS.keysOf (fun v₁ v₂ rest e => keyKind_strs (by rw [← e]; exact hS)) (by rw [hvl]; exact h64) fun st' hp hs => ⟨_, rfl, ?_⟩) (args_list_sort _)))
  obtain ⟨ys, g1', g2, g3⟩ := sorted_out_str hS hp hs
  obtain ⟨c, hc⟩ := sortedHeap_at (vs := vs) (out := (arrOf st').map (·.2)) hoL
  refine wpAny_pure ⟨_, rfl, hQ _ s1.heap.objs.size ((arrOf st').map (·.2)) c ys (fun b u e => ?_) g1 o1 hz hc g1' (g2.trans (pz.trans hm)) g3⟩
  have q := k1 b u e
  have hlt := Heap.lt_size q
  show (sortedHeap (s1.heap.push (seqObj "list" vs.toArray 0)) s1.heap.objs.size vs ((arrOf st').map (·.2))).get? b = some u
  rw [sortedHeap_old (Nat.ne_of_lt hlt) (by rw [size_push']; exact Nat.lt_succ_of_lt hlt)]
  exact Heap.get?_push_of_some _ q
end
/-- the set of texts at a -/
def SetTO (w : World) (a : Addr) (σ : List Str) : HO := .ext fun h => SetT w h a σ
section
variable {X : Cx}
theorem setTO_new {w : World} {P : Program} {H : Hp} {h : Heap} {a : Addr} {σ : List Str} (R : SetT w h a σ) : ObjOk P w H h a (SetTO w a σ) := by
  have ⟨o, _, _, _, ho, _⟩ := R
  exact ⟨R, ⟨o, ho⟩, fun h1 h2 p k => SetT.at p k⟩
theorem setTO_get {pins : List (Addr × Obj)} {σs : L2.St} {H : Hp} {s : Shared} {a : Addr} {σ : List Str} (I : Inv X pins σs H s) (ha : H a = some (SetTO X.w a σ)) : SetT X.w s.heap a σ := (I.hok a _ ha).1
/-- set(text) -/
def rSetStr (w : World) : List V → Hp → VK → Prop := fun xs H Q => ∃ x : Str, xs = [V.str x] ∧ (met (signs x)).length < 64 ∧ ∀ p, H p = none → Q (.ref p) (upd H p (SetTO w p (met (signs x))))
theorem cr_setStr (hc : X.calm = true) : CallR X (.type "set") (rSetStr X.w) := by
  intro pins s σ H xs us Q I r h
  obtain ⟨x, rfl, hn, q⟩ := h
  cases r with
  | cons r0 rr =>
    cases rr
    obtain ⟨t, rfl⟩ := r0
    refine call_set_str (I.ok.hd hc) (by unfold scanBound; omega) fun h' tk new keep => ?_
    exact ⟨.ref _, upd H s.heap.objs.size (SetTO X.w s.heap.objs.size (met (signs x))), I.laid (t' := tk) (fun b u e => keep b u (Heap.lt_size e) e) (Nat.le_refl _) (setTO_new new), rfl, q _ (I.hok.fresh (Nat.le_refl _))⟩
/-- sorted(found) -/
def rSortSetT (w : World) : List V → Hp → VK → Prop := fun vs H Q => ∃ (a : Addr) (σ : List Str), vs = [V.ref a] ∧ H a = some (SetTO w a σ) ∧ σ.length < 64 ∧
  ∀ (ys : List Str) (p : Addr), ys.Perm σ → sortedS ys = true → H p = none → Q (.ref p) (upd H p (.lst (ys.map V.str)))
theorem cr_sortSetT (hc : X.calm = true) : CallR X (.builtin "sorted") (rSortSetT X.w) := by
  intro pins s σ0 H vs us Q I r h
  obtain ⟨a, σ, rfl, ha, h64, q⟩ := h
  have R := setTO_get I ha
  rw [Vals.ref1 r]
  refine sorted_setT R (I.ok.hd hc) h64 fun s' p out c ys k g o hp hg hi hm hs => ?_
  have hlen : (ys.map V.str).length ≤ sizeLine := by rw [List.length_map, hm.length_eq, sizeLine_eq]; omega
  have hn : H p = none := I.hok.fresh hp
  have J : Inv X pins σ0 (upd H p (.lst (ys.map V.str))) { s with heap := s'.heap, gens := s'.gens, drawn := s'.drawn, toks := s'.toks } :=
    I.call (ch := []) (Un.laid k hp hn) (I.hok.laid k hp ⟨hlen, out.toList, c, vals_of_strs hi, hg⟩) (by rw [g]; exact I.bare) (fun _ z => nomatch z)
  have e : s' = { s with heap := s'.heap, gens := s'.gens, drawn := s'.drawn, toks := s'.toks } := by
    cases s'
    cases s
    cases o
    rfl
  rw [e]
  exact ⟨.ref p, _, J, rfl, q ys p hm hs hn⟩
end
end SL.ST
namespace SL
open PySem L2 PyProof.Rows
/-! ### sorted lists of texts are told by their members -/
abbrev StrLe (x y : Str) : Prop := x.cps.toList ≤ y.cps.toList
theorem rising_pw : ∀ (l : List Str) (p : Str), risingS p l = true → (p :: l).Pairwise StrLe
  | [], p, _ => List.pairwise_cons.mpr ⟨fun _ h => (by cases h), List.Pairwise.nil⟩
  | x :: r, p, h => by
    have q := Bool.and_eq_true_iff.mp (show (!PySem.Spec.ltCps x.cps.toList p.cps.toList && risingS x r) = true from h)
    have ih := rising_pw r x q.2
    have px : StrLe p x := by
      have := q.1
      rw [ltCps_eq] at this
      have z : ¬ (x.cps.toList < p.cps.toList) := by simpa using this
      exact List.not_lt.mp z
    refine List.pairwise_cons.mpr ⟨fun y hy => ?_, ih⟩
    rcases List.mem_cons.mp hy with rfl | hy
    · exact px
    · exact List.le_trans px ((List.pairwise_cons.mp ih).1 y hy)
theorem sortedS_pw {l : List Str} (h : sortedS l = true) : l.Pairwise StrLe := by
  cases l with
  | nil => exact List.Pairwise.nil
  | cons x r => exact rising_pw r x h
theorem StrLe.antisymm {x y : Str} (a : StrLe x y) (b : StrLe y x) : x = y := by
  have h : x.cps.toList = y.cps.toList := List.le_antisymm a b
  cases x; cases y
  simp only [Str.mk.injEq]
  exact Array.toList_inj.mp h
theorem pw_uniq : ∀ (l l' : List Str), l.Pairwise StrLe → l'.Pairwise StrLe → l.Perm l' → l = l'
  | [], l', _, _, p => (List.Perm.nil_eq p)
  | x :: r, [], _, _, p => by have := p.length_eq; simp at this
  | x :: r, y :: t, h, h', p => by
    have hx := List.pairwise_cons.mp h
    have hy := List.pairwise_cons.mp h'
    have e : x = y := by
      have mx : x ∈ y :: t := p.mem_iff.mp List.mem_cons_self
      have my : y ∈ x :: r := p.mem_iff.mpr List.mem_cons_self
      rcases List.mem_cons.mp mx with e | mx
      · exact e
      rcases List.mem_cons.mp my with e | my
      · exact e.symm
      exact (hx.1 y my).antisymm (hy.1 x mx)
    subst e
    rw [pw_uniq r t hx.2 hy.2 (List.Perm.cons_inv p)]
theorem sortedS_uniq {l l' : List Str} (p : l.Perm l') (h : sortedS l = true) (h' : sortedS l' = true) : l = l' := pw_uniq l l' (sortedS_pw h) (sortedS_pw h') p
open ST
theorem ins_mem {σ : List Str} {x y : Str} : y ∈ ins σ x ↔ y = x ∨ y ∈ σ := by
  unfold ins
  split
  · rename_i h
    exact ⟨.inr, fun z => z.elim (fun e => e ▸ h) id⟩
  · exact List.mem_cons
theorem met_go (xs : List Str) : ∀ σ : List Str, σ.Nodup → (xs.foldl ins σ).Nodup ∧ ∀ y, y ∈ xs.foldl ins σ ↔ y ∈ xs ∨ y ∈ σ := by
  induction xs with
  | nil => intro σ h; exact ⟨h, fun y => ⟨.inr, fun z => z.elim (fun e => nomatch e) id⟩⟩
  | cons x xs ih =>
    intro σ h
    have hn : (ins σ x).Nodup := by
      unfold ins
      split
      · exact h
      · rename_i q; exact List.nodup_cons.mpr ⟨q, h⟩
    obtain ⟨a, b⟩ := ih (ins σ x) hn
    refine ⟨a, fun y => ?_⟩
    rw [List.foldl_cons, b y, ins_mem, List.mem_cons]
    constructor
    · rintro (h | h | h)
      · exact .inl (.inr h)
      · exact .inl (.inl h)
      · exact .inr h
    · rintro ((h | h) | h)
      · exact .inr (.inl h)
      · exact .inl h
      · exact .inr (.inr h)
theorem met_mem {xs : List Str} {y : Str} : y ∈ met xs ↔ y ∈ xs := by
  rw [show met xs = xs.foldl ins [] from rfl, (met_go xs [] List.nodup_nil).2 y]
  simp
theorem met_nodup (xs : List Str) : (met xs).Nodup := (met_go xs [] List.nodup_nil).1
/-- the colours among the signs of x, in their order -/
def among (cols : List Str) (x : Str) : List Str := cols.filter fun c => decide (c ∈ ST.signs x)
theorem among_perm {cols : List Str} {x : Str} (hn : cols.Nodup) (hs : ∀ y ∈ ST.signs x, y ∈ cols) : (among cols x).Perm (met (ST.signs x)) := by
  refine (List.perm_ext_iff_of_nodup (hn.filter _) (met_nodup _)).mpr fun y => ?_
  rw [List.mem_filter, met_mem, decide_eq_true_eq]
  exact ⟨fun h => h.2, fun h => ⟨hs y h, h⟩⟩
theorem rising_filter {l : List Str} (h : l.Pairwise StrLe) (f : Str → Bool) : sortedS (l.filter f) = true :=
  sortedS_of_pairwise _ ((h.filter f).imp fun {a b} z => by
    rw [ltCps_eq]
    exact decide_eq_false (List.not_lt.mpr z))
def dSortSet (cols : List Str) (f : FE) : FE := fun sl cs => (f sl cs).then fun a => match a.1.view a.2 with
  | some (.str x) => if (ST.signs x).all (fun y => decide (y ∈ cols)) = true ∧ cols.length < 64 then .ok (.new (.lst ((among cols x).map .str)), a.2) else .bad
  | _ => .bad
theorem den_strs {F : Fz} : ∀ xs : List Str, DenAll F (xs.map V.str) (xs.map D.str)
  | [] => .nil
  | x :: xs => .cons (.str x) (den_strs xs)
section
variable {X : Cx} {W : WX} {e : Expr} {f : FE} {p p2 pos pos2 : Pos}
theorem de_sortSet {cols : List Str} (hc : X.calm = true) (hn : cols.Nodup) (hs : sortedS cols = true) (hg : Gl X "sorted") (hm : X.mg "sorted" = none) (hg2 : Gl X "set") (hm2 : X.mg "set" = none) (h : DE X W e f)
    (he : starEach [e] X.env = (false, eval e X.env) :: starEach [] X.env := by rfl) (he2 : starEach [.Call (.Name "set" p2) [e] [] pos2] X.env = (false, eval (.Call (.Name "set" p2) [e] [] pos2) X.env) :: starEach [] X.env := by rfl) :
    DE X W (.Call (.Name "sorted" p) [.Call (.Name "set" p2) [e] [] pos2] [] pos) (dSortSet cols f) :=
  PE.imp (pe_callB (cr_sortSetT hc) hg hm (by decide +kernel) (pa_cons (pe_callTy (cr_setStr hc) hg2 hm2 (by decide +kernel) (pa_cons h pa_nil he) (by decide) (by decide) he (by rfl)) pa_nil he2) (by decide) (by decide) he2 (by rfl)) fun σ H Q q => by
    obtain ⟨F0, H0, F, sl, cs, R, o⟩ := q
    refine OutE.then_run R o fun r c v F1 H1 e1 n w k fv R1 o1 => ?_
    dsimp only at o1
    split at o1
    · rename_i x ev
      split at o1
      · rename_i hz
        obtain ⟨ha, hl⟩ := hz
        have hv := (k.vw w ev).str
        subst hv
        have hsub : ∀ y ∈ ST.signs x, y ∈ cols := fun y hy => of_decide_eq_true (List.all_eq_true.mp ha y hy)
        have pm := among_perm hn hsub
        have hlen : (met (ST.signs x)).length < 64 := by
          rw [← pm.length_eq]
          exact Nat.lt_of_le_of_lt (List.length_filter_le ..) hl
        refine ⟨x, rfl, hlen, fun q hq => ⟨q, met (ST.signs x), rfl, upd_same, hlen, fun ys u hp hy hu => ?_⟩⟩
        have ey : ys = among cols x := sortedS_uniq (hp.trans pm.symm) hy (rising_filter (sortedS_pw hs) _)
        subst ey
        obtain ⟨w2, n2⟩ := w.laid (o := SetTO X.w q (met (ST.signs x))) hq
        have af : Aft X.K F1 (upd H1 q (SetTO X.w q (met (ST.signs x)))) c Q (.new (.lst ((among cols x).map .str))) := fun v' F' H' n' w' k' fv' => o1 v' F' H' (n2.trans w2 n') w' k' fun q' e' => by
          have z := fv' q' e'
          by_cases hqq : q' = q
          · subst hqq; exact hq
          · rwa [upd_ne hqq] at z
        exact af.new w2 hu (den_strs _)
      · exact o1.elim
    · exact o1.elim
end
end SL

/-! Sxg: all(a test of each sign, against a text of the module). -/
namespace SL
open PySem PySem.Spec PyProof.Rows L2 GxR
/-- a test of one sign by what the module's names hold -/
def SignTest (X : Cx) (scope : Scope) (x : Str) (elt : Expr) (pb : Nat → Bool) : Prop :=
  ∀ (ce : Env) (A' : Around) (E' : Value → Shared → Prop) (c : Nat) (t : Tok) (s2 : Shared) (m2 : Str → Option Value), ce.scope = scope → s2.heap.Ns ce.globals X.mg → s2.heap.Ns ce.locals m2 → m2 x = some (.str ⟨#[c]⟩ t) →
    wpAny (model X.prog X.w) A' (eval elt ce) (fun y s3 => y = .bool (pb c) ∧ Keeps s2 s3) E' s2
theorem signTest_in {X : Cx} {scope : Scope} {x g S : Str} {tk : Tok} {p1 p2 p3 : Pos} (hk : scope.kind = .function) (hl : scope.names.lookup x = some .local) (hgl : scope.names.lookup g = some .globalImplicit) (hm : X.mg g = some (.str S tk))
    (hd : (x == ("__debug__" : Str)) = false := by decide) (hd2 : (g == ("__debug__" : Str)) = false := by decide) :
    SignTest X scope x (.Compare (.Name x p1) [.In] [.Name g p2] p3) (fun c => decide (c ∈ S.cps.toList)) := by
  intro ce A' E' c t s2 m2 hs hG hn hx
  refine wpAny_Compare1 ?_ (by rfl)
  refine wpAny_Name (wpAny_loadName_local (by rw [hs]; exact hk) (show ce.scope.names.lookup x = some .local by rw [hs]; exact hl) hn hx ?_) hd
  refine Calls.Name_function_global (by rw [hs]; exact hk) (show ce.scope.names.lookup g = some .globalImplicit by rw [hs]; exact hgl) (Calls.loadGlobal_global hG hm ?_) hd2
  refine PyProof.Rows.in_str ⟨?_, keeps_refl _⟩
  rw [PySem.StrLaws.found_one S c]
section
variable {X : Cx} {pins : List (Addr × Obj)} {σ : L2.St} {H : Hp} {s : Shared}
/-- the generator is made and walked: what holds behind it -/
theorem all_signs_run {c P : Addr} {elt iter : Expr} {x : Str} {px gpos : Pos} {scope : Scope} {pb : Nat → Bool} {te : TE} {k : Nat} {Q : VK}
    (hr : Room k X.A) (TB : TabB X.base X.mg c P) (hcode : X.env.code = .ref c) (S : GenS X.env scope x) (hi : PE X iter te) (hel : SignTest X scope x elt pb) (hs : ∀ v, genFold iter X.env v = pure v) (I : Inv X pins σ H s)
    (h : te σ H fun v H1 => ∃ a : Str, v = .str a ∧ TabG H1 P ∧ ∀ H2, Tabbed P H1 H2 → Q (.bl (a.cps.toList.all pb)) H2)
    {Q' : Value → Shared → Prop} (hQ : ∀ a H1 g s5, (∀ H2, Tabbed P H1 H2 → Q (.bl (a.cps.toList.all pb)) H2) → Ready X pins σ H1 P a pb g s5 → Q' (.ref g) s5) :
    wpAny (model X.prog X.w) X.A (eval (.GeneratorExp elt [⟨.Name x px, iter, [], 0⟩] scope gpos) X.env) Q' X.xe s := by
  apply wpAny_GeneratorExp_walksQ hr.hd S.co (closure_ok S.free) S.cell S.dot S.loc S.kind (by have := hr.dp; omega) _ hs
  apply thn (hi.run pins s σ H _ I h)
  rintro xv s1 ⟨v, H1, I1, r1, a, rfl, ⟨ps, hP, ht⟩, q1⟩
  obtain ⟨t, rfl⟩ := id r1
  apply wpAny_pyIter_str
  intro o St W hst
  have tab1 : s1.heap.get? P = some { cls := .none, data := .fields ps } := I1.hok P _ hP
  have lim1 := I1.nolimit.push o
  have hcP : cStatics ≠ P := by
    intro e
    obtain ⟨_, ⟨o', es, ep, ho, hd, _⟩, _⟩ := I1.nolimit
    rw [e, tab1] at ho
    cases ho; cases hd
  have hcl : cStatics < s1.heap.objs.size := by obtain ⟨_, z, _⟩ := I1.nolimit; exact z.lt
  have sz1 : (s1.heap.push o).objs.size = s1.heap.objs.size + 1 := Heap.size_push ..
  have tab2 : (s1.heap.push o).get? P = some { cls := .none, data := .fields ps } := Heap.get?_push_of_some _ tab1
  have cd : PySem.W.CodeHd (s1.heap.push o) c P := TB.code.keeps fun b u e => Heap.get?_push_of_some _ (I1.bk b u e)
  have go : ∀ (code : Value) (h3 : Heap) (tk : Nat) (more : Array Value), Heap.ExtBut P (s1.heap.push o) h3 → (s1.heap.push o).objs.size ≤ h3.objs.size → h3.get? P = some { cls := .none, data := .fields (ps ++ more) } → TriplesOk (ps ++ more).toList →
      wpAny (model X.prog X.w) X.A (builtinsFor X.env.globals X.env.builtins) (fun bi s₄ =>
        ∃ Ia fp wr n₀ Pf St₀ pz F, Value.ref s1.heap.objs.size = .ref Ia ∧ (∀ A' : Around, A'.handled = none → Walks X.prog X.w A' Ia fp wr n₀ Pf St₀) ∧ St₀ 0 s₄.heap ∧ (∀ b ∈ fp, b < s₄.heap.objs.size) ∧ s₄.heap.NoLimit ∧ cStatics ∉ wr ∧
          (∀ href : Heap, (∀ b o, s₄.heap.get? b = some o → href.get? b = some o) →
            QuietGen X.prog X.w (genEnv scope (cloFrom X.env.cells scope.names []) s₄.heap.objs.size code bi X.env) x [] elt (List.range s₄.heap.objs.size) wr Pf pz F href) ∧
          (∀ a h₅ tk gs, gs.bare = true → s₄.heap.objs.size < a → h₅.objs.size = a + 1 → (∀ b o, s₄.heap.get? b = some o → h₅.get? b = some o) →
            WalksS X.prog X.w X.A.in4 a (a :: s₄.heap.objs.size :: List.range s₄.heap.objs.size) (s₄.heap.objs.size :: wr) (GenOnlyQ s₄.gens.size) (passing pz n₀ 0).length
              (fun j y => ∃ i, (passing pz n₀ 0)[j]? = some i ∧ F i y) (GenAt X.prog X.w X.A.in4 a s₄.gens.size s₄.heap.objs.size (List.range s₄.heap.objs.size) wr pz n₀ F) →
            GenAt X.prog X.w X.A.in4 a s₄.gens.size s₄.heap.objs.size (List.range s₄.heap.objs.size) wr pz n₀ F 0 { s₄ with gens := s₄.gens.push gs, toks := tk, heap := h₅ } →
            Q' (.ref a) { s₄ with gens := s₄.gens.push gs, toks := tk, heap := h₅ })) X.xe { s1 with heap := h3, toks := tk } := by
    intro code h3 tk more hx hsz hP3 ht3
    obtain ⟨bm, ob, e1, e2, e3, e4, e5, e6, e7, e8⟩ := TB.bm
    have keep3 : ∀ b u, b ≠ P → s1.heap.get? b = some u → h3.get? b = some u := fun b u hb e => hx b u hb (Heap.get?_push_of_some _ e)
    have ns3 : h3.Ns X.env.globals X.mg := by rw [I1.ok.glob]; exact ((I1.mod.glob.keeps I1.bk).push o).extBut hx TB.gP
    refine wpAny_builtinsFor (m := X.mg) ns3 e1 e2 (keep3 _ _ e4 (I1.bk _ _ e5)) e6 e7 e8 ?_
    refine ⟨s1.heap.objs.size, [s1.heap.objs.size], [s1.heap.objs.size], a.cps.size, SignAt a, St, (fun _ => true), (fun i y => ∃ cc, a.cps[i]? = some cc ∧ y = .bool (pb cc)), rfl, W, ?_, ?_, lim1.extBut hx hcP, ?_, ?_, ?_⟩
    · apply (W X.A hr.hd).frame _ _ _ hst
      intro b hb u e
      obtain rfl := List.mem_singleton.mp hb
      refine hx _ u (fun z => ?_) e
      rw [← z] at tab1
      exact Nat.lt_irrefl _ (Heap.lt_size tab1)
    · intro b hb
      obtain rfl := List.mem_singleton.mp hb
      show s1.heap.objs.size < h3.objs.size
      omega
    · intro z
      exact Nat.ne_of_lt hcl (List.mem_singleton.mp z)
    · intro href hhref
      constructor
      · intro A' E' i v s₂ m₂ hA hPv hn hm hk
        simp only [List.forIn_nil]
        exact wpAny_pure ⟨rfl, keeps_refl _⟩
      · intro A' E' i v s₂ m₂ hA hPv hp hn hm hk
        obtain ⟨cc, u, hcc, rfl⟩ := hPv
        have ns2 : s₂.heap.Ns X.env.globals X.mg := ns3.at fun ob e => by
          refine hk _ (List.mem_range.mpr (Heap.lt_size e)) (fun z => ?_) ob (hhref _ _ e)
          have z := List.mem_singleton.mp z
          have y := (I1.mod.glob.keeps I1.bk).lt
          rw [I1.ok.glob] at z
          exact Nat.ne_of_lt y z
        exact wpAny_mono (hel _ A' E' cc u s₂ m₂ rfl ns2 hn hm) (fun y s3 r => ⟨⟨cc, hcc, r.1⟩, r.2⟩) fun _ _ e => e
    · intro g h5 tk5 gs hgb hag hsz5 hk5 W5 hat
      simp only [GxR.passing_true, List.length_range] at W5
      refine hQ a H1 g _ q1 ⟨_, _, _, _, _, W5.in4_1, hat, ?_, fun s' hm => ?_⟩
      · rintro j y sj Qj Ej ⟨i, hij, cc, hcc, rfl⟩ hQj
        obtain ⟨hj, ej⟩ := List.getElem?_eq_some_iff.mp hij
        rw [List.getElem_range] at ej
        subst ej
        have hQ2 : Qj (trF pb a.cps.toList j) sj := hQj
        rw [trF_some (b := cc) (by rw [Array.getElem?_toList]; exact hcc)] at hQ2
        exact wpAny_truthy_bool hQ2
      · have nwr : ∀ b u, s1.heap.get? b = some u → b ∉ h3.objs.size :: [s1.heap.objs.size] := by
          intro b u e hb
          have hl := Heap.lt_size e
          simp only [List.mem_cons, List.not_mem_nil, or_false] at hb
          rcases hb with z | z
          · subst z
            have hl : h3.objs.size < s1.heap.objs.size := hl
            omega
          · rw [z] at hl; exact Nat.lt_irrefl _ hl
        have J := inv_tab (more := more) (h' := s'.heap) (g' := s'.gens) (d' := s'.drawn) (t' := s'.toks) I1 hP (fun b u hb e => hm.heap b u (nwr b u e) (hk5 b u (keep3 b u hb e)))
          (hm.heap P _ (nwr P _ tab1) (hk5 P _ hP3)) (AllBare.movedS (I1.bare.push hgb) hm)
        rw [sh_eta s1 s' hm.os] at J
        exact ⟨upd H1 P (.tbl (ps ++ more)), ⟨⟨ps ++ more, upd_same, ht3⟩, fun b hb => upd_ne hb⟩, J⟩
  refine ⟨lim1, ?_⟩
  cases hf : codeAmong gpos ps.toList with
  | none =>
    refine wpAny_genexprCodeX hcode (cd.code tab2 ht) (cd.tab tab2) hf fun c' h' tk hx hge hlt hco' _ htab' _ => ?_
    obtain ⟨o1, vs, f1, tf, fl, tg, inF, tx, tt, op, _, _, _, _, _, _, _, _, _, htr, _⟩ := hco'
    exact go _ h' tk _ hx (Nat.le_trans hge (Nat.le_of_lt hlt)) htab'.2 htr
  | some cv =>
    refine wpAny_genexprCode_hit hcode (cd.code tab2 ht) hf ?_
    exact go cv (s1.heap.push o) s1.toks #[] (Heap.ExtBut.refl _ _) (Nat.le_refl _) (by simpa using tab2) (by simpa using ht)
theorem pe_allG {c P : Addr} {elt iter : Expr} {x : Str} {px p pos gpos : Pos} {scope : Scope} {pb : Nat → Bool} {te : TE} {k : Nat}
    (hr : Room k X.A) (hg : Gl X "all") (hm : X.mg "all" = none) (TB : TabB X.base X.mg c P) (hcode : X.env.code = .ref c) (S : GenS X.env scope x) (hi : PE X iter te) (hel : SignTest X scope x elt pb)
    (hs : ∀ v, genFold iter X.env v = pure v)
    (he : starEach [.GeneratorExp elt [⟨.Name x px, iter, [], 0⟩] scope gpos] X.env = (false, eval (.GeneratorExp elt [⟨.Name x px, iter, [], 0⟩] scope gpos) X.env) :: starEach [] X.env := by rfl) :
    PE X (.Call (.Name "all" p) [.GeneratorExp elt [⟨.Name x px, iter, [], 0⟩] scope gpos] [] pos) (tAllS P pb te) := by
  constructor
  intro pins s σ H Q I h
  refine wpAny_Call_Name_kw (ld_blt I hg hm (by decide +kernel : bootBuiltins "all" = some (.builtin "all")) (PyProof.Rows.callWith_builtin1 ?_ he (by rfl)))
  rw [he]
  show wpAny _ _ (spliced ((false, eval (.GeneratorExp elt [⟨.Name x px, iter, [], 0⟩] scope gpos) X.env) :: backTo pos (starEach [] X.env))) _ _ s
  refine Calls.spliced_cons (all_signs_run (Q := Q) hr TB hcode S hi hel hs I h fun a H1 g s5 hR hG => Calls.spliced_nil ?_)
  obtain ⟨fp, wr, G, F, St, W, hst, htr, hI⟩ := hG
  refine call_all_walkS (W.self 0 _ _ _ hst ⟨g, fp, wr, G, _, F, St, _, rfl, W, hst, htr, fun s' hmv => ?_⟩)
  obtain ⟨H2, hT, J⟩ := hI s' hmv
  refine ⟨.bl _, H2, J, rfl, ?_⟩
  rw [all_signs a pb]
  exact hR H2 hT
end
/-- all(test of sign for sign in a text); t: the cell that stands for the table of the def's code objects -/
def dAllS (t : Nat) (G : Addr) (S : Str) (f : FE) : FE := fun sl cs => (f sl cs).then fun a => match a.1.view a.2, a.2[t]? with
  | some (.str x), some (.tab P q) => if P = G ∧ q = "" then .ok (.dat (.bl (x.cps.toList.all fun c => decide (c ∈ S.cps.toList))), a.2) else .bad
  | _, _ => .bad
section
variable {X : Cx} {W : WX}
theorem de_allS {t k : Nat} {G c : Addr} {S x : Str} {elt iter : Expr} {px p pos gpos : Pos} {scope : Scope} {f : FE}
    (hr : Room k X.A) (hg : Gl X "all") (hm : X.mg "all" = none) (TB : LamX.TabB X.base X.mg c G) (hcode : X.env.code = .ref c) (Sg : GenS X.env scope x) (hi : DE X W iter f) (hel : SignTest X scope x elt (fun c => decide (c ∈ S.cps.toList)))
    (hs : ∀ v, genFold iter X.env v = pure v)
    (he : starEach [.GeneratorExp elt [⟨.Name x px, iter, [], 0⟩] scope gpos] X.env = (false, eval (.GeneratorExp elt [⟨.Name x px, iter, [], 0⟩] scope gpos) X.env) :: starEach [] X.env := by rfl) :
    DE X W (.Call (.Name "all" p) [.GeneratorExp elt [⟨.Name x px, iter, [], 0⟩] scope gpos] [] pos) (dAllS t G S f) := PE.imp (pe_allG hr hg hm ⟨TB.code, TB.bm, TB.gP⟩ hcode Sg hi hel hs he) fun σ H Q q => by
  obtain ⟨F0, H0, F, sl, cs, R, o⟩ := q
  refine OutE.then_run R o fun r c v F1 H1 e1 n w k fv R1 o1 => ?_
  dsimp only at o1
  split at o1
  · rename_i x P q ev ec
    split at o1
    · rename_i hPq
      obtain ⟨rfl, rfl⟩ := hPq
      have hv := (k.vw w ev).str
      subst hv
      obtain ⟨ti, tl⟩ : ∃ h : t < F1.μ.length, F1.μ[t]? = some F1.μ[t] := ⟨by rw [w.len]; exact (List.getElem?_eq_some_iff.mp ec).1, List.getElem?_eq_getElem _⟩
      generalize F1.μ[t] = p0 at tl
      obtain ⟨Fp, ob, hob, ct⟩ := w.at_ t p0 _ tl ec
      rcases ct with ct | ⟨q1, ps, e1, e2, tr, _⟩
      · cases ob <;> exact ct.elim
      cases e1
      subst e2
      refine ⟨x, rfl, ⟨ps, hob, tr⟩, fun H2 ht => ?_⟩
      obtain ⟨⟨ps2, g1, g2⟩, oth⟩ := ht
      have nF : ∀ b o, F1 b = some o → b ≠ P := fun b o e z => by subst z; rw [Fp] at e; cases e
      have n2 : Nx F1 H1 F1 H2 := ⟨Ex.refl _, fun _ h => .inl h, fun b o e => .inl e, fun b o e hb => by rw [oth b (fun z => hb (z ▸ List.mem_of_getElem? tl))]; exact e⟩
      have w2 : Wok F1 H2 c := ⟨fun b o e => by rw [oth b (nF b o e)]; exact w.ex _ _ e, w.len, w.nd, fun i p c' e1 e2 => by
        obtain ⟨h1, o', h2, h3⟩ := w.at_ i p c' e1 e2
        refine ⟨h1, ?_⟩
        by_cases hp : p = P
        · subst hp
          obtain rfl := w.nd i t p e1 tl
          rw [ec] at e2; cases e2
          exact ⟨_, g1, .inr ⟨"", ps2, rfl, rfl, g2, .inl rfl⟩⟩
        · exact ⟨o', by rw [oth p hp]; exact h2, h3⟩⟩
      exact o1 _ F1 H2 n2 w2 (.bl _) trivial
    · exact o1.elim
  · exact o1.elim
end
end SL

/-! Sxh: texts: times, one sign in a text, sorted of texts, list(range(..)), enumerate of a text. -/
namespace SL
open PySem PySem.Spec PyProof.Rows L2
/-! ### a text, so many times -/
def repS (x : Str) (n : Nat) : Str := ⟨((List.replicate n x.cps.toList).flatten).toArray⟩
theorem fold_cat (n : Nat) (a : Array Nat) : ∀ b : Array Nat, ((List.replicate n a).foldl (· ++ ·) b).toList = b.toList ++ (List.replicate n a.toList).flatten := by
  induction n with
  | zero => intro b; simp
  | succ n ih => intro b; rw [List.replicate_succ, List.foldl_cons, ih, Array.toList_append, List.replicate_succ, List.flatten_cons, List.append_assoc]
theorem str_ext {x y : Str} (h : x.cps.toList = y.cps.toList) : x = y := by
  cases x; cases y
  simp only [Str.mk.injEq]
  exact Array.toList_inj.mp h
theorem repS_eq (x : Str) (n : Nat) : (⟨(List.replicate n x.cps).foldl (· ++ ·) #[]⟩ : Str) = repS x n := str_ext (by
  show ((List.replicate n x.cps).foldl (· ++ ·) #[]).toList = _
  rw [fold_cat]; simp [repS])
theorem repS_one (x : Str) : repS x 1 = x := str_ext (by simp [repS])
theorem repS_nil {x : Str} (h : x.length = 0) (n : Nat) : repS x n = x := by
  have e : x.cps.toList = [] := List.eq_nil_of_length_eq_zero (by simpa [Str.length] using h)
  refine str_ext ?_
  have : (repS x n).cps.toList = [] := by
    show ((List.replicate n x.cps.toList).flatten).toArray.toList = []
    rw [e]; simp
  rw [this, e]
theorem repS_len (x : Str) (n : Nat) : (repS x n).length = n * x.length := by
  show ((List.replicate n x.cps.toList).flatten).toArray.size = _
  rw [List.size_toArray, List.length_flatten]
  simp [Str.length]
section
variable {X : Cx}
theorem op_mul_str : OpR X (binaryOp .Mult) (fun x y H Q => ∃ (z : Str) (k : Int), x = .str z ∧ y = .int k ∧ -(2 ^ 62) ≤ k ∧ k < 2 ^ 62 ∧ z.length * k.toNat ≤ sizeLine ∧ Q (.str (repS z k.toNat)) H) := by
  intro pins s σ H x y v u Q I rx ry h
  obtain ⟨z, k, rfl, rfl, k1, k2, hl, q⟩ := h
  obtain ⟨t, rfl⟩ := rx
  obtain ⟨t', rfl⟩ := ry
  refine PySem.P.mul_str ?_ (fun h1 _ => ?_) (fun _ _ => ?_) ?_
  · have a : ¬ k < -(2 ^ 63 : Int) := by omega
    have b : ¬ k ≥ 2 ^ 63 := by omega
    rw [decide_eq_false a, decide_eq_false b]; rfl
  · intro gt
    have hk : (k.toNat : Int) = k := by omega
    have e : ((z.length * k.toNat : Nat) : Int) ≤ 16777216 := by
      have : z.length * k.toNat ≤ 16777216 := by rw [sizeLine_eq] at hl; exact hl
      omega
    have := (Int.lt_iff_add_one_le.mp gt)
    have h3 : (2 ^ 63 - 1 : Int) < z.length * k := by
      have := Int.lt_mul_of_ediv_lt (c := k) (by omega) gt
      exact this
    rw [← hk] at h3
    push_cast at e
    omega
  · show decide (_ > sizeLine) = false
    exact decide_eq_false (by omega)
  · have fin : ∀ z' : Str, z' = repS z k.toNat → Made.post (Made.str z') (fun v' s' => ∃ a H1, Inv X pins σ H1 s' ∧ RelV a v' ∧ Q a H1) s := by
      rintro z' rfl
      exact ⟨by
        show (repS z k.toNat).length ≤ sizeLine
        rw [repS_len, Nat.mul_comm]; exact hl, ⟨.str _, H, I.tok _, ⟨_, rfl⟩, q⟩⟩
    split
    · rename_i h1
      refine fin _ ?_
      have : k.toNat = 0 := by omega
      rw [this]; rfl
    · split
      · rename_i h1 h2
        have e : repS z k.toNat = z := by
          rcases Bool.or_eq_true_iff.mp h2 with h | h
          · have : k = 1 := by simpa using h
            subst this; exact repS_one z
          · exact repS_nil (by simpa using h) _
        rw [e] at q
        exact ⟨.str _, H, I, ⟨_, rfl⟩, q⟩
      · exact fin _ (repS_eq z _)
end
/-- times, of texts too -/
def gMulX : G2 := fun a b => match a, b with
  | .str x, .int k => if -(2 ^ 62) ≤ k ∧ k < 2 ^ 62 ∧ x.length * k.toNat ≤ sizeLine then some (.dat (.str (repS x k.toNat))) else none
  | a, b => gMul a b
theorem o_mulX {X : Cx} : OpD X (binaryOp .Mult) gMulX := OpR.imp (OpR.or op_mul_str o_mul) fun x y H Q ⟨F, cs, a, b, r, w, va, vb, e, k⟩ => by
  unfold gMulX at e
  split at e
  · split at e
    · rename_i c
      cases e
      exact .inl ⟨_, _, va.str, vb.int, c.1, c.2.1, c.2.2, k.str w⟩
    · cases e
  · exact .inr ⟨F, cs, a, b, r, w, va, vb, e, k⟩
/-! ### one sign in a text -/
def gInX : G2 := fun a b => match a, b with
  | .str x, .str z => match x.cps.toList with
    | [c] => some (.dat (.bl (decide (c ∈ z.cps.toList))))
    | _ => none
  | a, b => gIn a b
theorem o_inX {X : Cx} : OpD X (compareOp .In) gInX := OpR.imp (OpR.or op_in_sign o_in) fun x y H Q ⟨F, cs, a, b, r, w, va, vb, e, k⟩ => by
  unfold gInX at e
  split at e
  · split at e
    · rename_i x z _ c hc
      cases e
      have ex : x = ⟨#[c]⟩ := str_ext hc
      subst ex
      exact .inl ⟨_, _, va.str, vb.str, k.bl w⟩
    · cases e
  · exact .inr ⟨F, cs, a, b, r, w, va, vb, e, k⟩
/-! ### sorted of texts that stand in order -/
def gSortS : GN := fun as => match as with
  | [.lst ds] => (strsOf ds).bind fun zs => if sortedS zs = true ∧ zs.length < 64 then some (.new (.lst (zs.map .str))) else none
  | _ => none
theorem c_sortS {X : Cx} : CallD X (.builtin "sorted") gSortS := CallR.imp cr_sortedS fun vs H Q ⟨F, cs, as, r, w, va, e, k⟩ => by
  unfold gSortS at e
  split at e
  · rename_i ds
    cases q : strsOf ds with
    | none => rw [q] at e; cases e
    | some zs =>
      rw [q] at e
      have e : (if sortedS zs = true ∧ zs.length < 64 then some (RV.new (.lst (zs.map .str))) else none) = some r := e
      split at e
      · rename_i hz
        cases e
        obtain ⟨v, rfl, a⟩ := va.one
        obtain ⟨p, xs, rfl, hp, d⟩ := a.lst w.ex
        refine ⟨p, zs, rfl, ?_, hz.2, fun ys u hm hs hu => ?_⟩
        · rw [← d.strs q]; exact SqL.of hp
        · obtain rfl := sortedS_uniq hm hs hz.1
          exact k.new w hu (den_strs _)
      · cases e
  · cases e
/-! ### list(range(..)) -/
def dLRg1 (f : FE) : FE := fun sl cs => (f sl cs).then fun a => match a.1 with
  | .dat (.int j) => if -(2 ^ 62) ≤ j ∧ j ≤ 16777216 then .ok (.new (.lst (rngL 0 j.toNat)), a.2) else .bad
  | _ => .bad
def lrg2 (r s : RV) (cs : List CO) : Res (RV × List CO) := match r, s with
  | .dat (.int i), .dat (.int j) => if 0 ≤ i ∧ i ≤ 16777216 ∧ 0 ≤ j ∧ j ≤ 16777216 then .ok (.new (.lst (rngL i (j - i).toNat)), cs) else .bad
  | _, _ => .bad
def dLRg2 (f g : FE) : FE := fun sl cs => (f sl cs).then fun a => (g sl a.2).then fun b => lrg2 a.1 b.1 b.2
theorem den_rgV {F : Fz} (a : Int) : ∀ n : Nat, DenAll F ((List.range n).map fun i => V.int (a + (i : Nat))) (rngL a n) := by
  intro n
  unfold rngL
  generalize List.range n = l
  induction l with
  | nil => exact .nil
  | cons i l ih => exact .cons (.int _) ih
section
variable {X : Cx} {W : WX} {a b : Expr} {fa fb : FE} {p p2 pos pos2 : Pos}
theorem de_lrg1 (hc : X.calm = true) (hg : Gl X "list") (hm : X.mg "list" = none) (hg2 : Gl X "range") (hm2 : X.mg "range" = none) (ha : DE X W a fa)
    (na : starEach [a] X.env = (false, eval a X.env) :: starEach [] X.env := by rfl) (nr : starEach [.Call (.Name "range" p2) [a] [] pos2] X.env = (false, eval (.Call (.Name "range" p2) [a] [] pos2) X.env) :: starEach [] X.env := by rfl) :
    DE X W (.Call (.Name "list" p) [.Call (.Name "range" p2) [a] [] pos2] [] pos) (dLRg1 fa) := PE.imp (pe_listRg hc hg hm (prg_1 hg2 hm2 ha na) nr) fun σ H Q q => by
  obtain ⟨F0, H0, F, sl, cs, R, o⟩ := q
  refine OutE.then_run R o fun r c v F1 H1 e1 n w k fv R1 o1 => ?_
  dsimp only at o1
  split at o1
  · rename_i j
    split at o1
    · rename_i hj
      cases (show Den F1 v (.int j) from k)
      refine ⟨j, rfl, ⟨by omega, by omega, by omega, by omega, by omega⟩, fun q hq => ?_⟩
      have af : Aft X.K F1 H1 c Q (.new (.lst (rngL 0 j.toNat))) := o1
      have e : rgV 0 j = (List.range j.toNat).map fun i => V.int (0 + (i : Nat)) := by unfold rgV; rw [Int.sub_zero]
      rw [e]
      exact af.new w hq (den_rgV 0 _)
    · exact o1.elim
  · exact o1.elim
theorem de_lrg2 (hc : X.calm = true) (hg : Gl X "list") (hm : X.mg "list" = none) (hg2 : Gl X "range") (hm2 : X.mg "range" = none) (ha : DE X W a fa) (hb : DE X W b fb)
    (na : starEach [a, b] X.env = (false, eval a X.env) :: starEach [b] X.env := by rfl) (nb : starEach [b] X.env = (false, eval b X.env) :: starEach [] X.env := by rfl) (hp : (backTo pos2 (starEach [b] X.env)).any (·.1) = false := by rfl)
    (nr : starEach [.Call (.Name "range" p2) [a, b] [] pos2] X.env = (false, eval (.Call (.Name "range" p2) [a, b] [] pos2) X.env) :: starEach [] X.env := by rfl) :
    DE X W (.Call (.Name "list" p) [.Call (.Name "range" p2) [a, b] [] pos2] [] pos) (dLRg2 fa fb) := PE.imp (pe_listRg hc hg hm (prg_2 hg2 hm2 ha hb na nb hp) nr) fun σ H Q q => by
  obtain ⟨F0, H0, F, sl, cs, R, o⟩ := q
  refine OutE.then_run R o fun r c v F1 H1 e1 n w k fv R1 o1 => ?_
  refine OutE.then_run R1 o1 fun r2 c2 v2 F2 H2 e2 n2 w2 k2 fv2 R2 o2 => ?_
  dsimp only at o2
  unfold lrg2 at o2
  split at o2
  · rename_i i j
    split at o2
    · rename_i hj
      cases (show Den F1 v (.int i) from k)
      cases (show Den F2 v2 (.int j) from k2)
      refine ⟨i, j, rfl, rfl, RgOk.of_le hj.1 hj.2.2.2 hj.2.1 hj.2.2.1, fun q hq => ?_⟩
      have af : Aft X.K F2 H2 c2 Q (.new (.lst (rngL i (j - i).toNat))) := o2
      exact af.new w2 hq (den_rgV i _)
    · exact o2.elim
  · exact o2.elim
end
/-! ### enumerate of a text -/
/-- the signs of z, each with its place, in new pairs -/
def Ites (z : Str) : It := ⟨fun i _ => i < z.cps.size, fun i H v H' => ∃ T c, v = .ref T ∧ H T = none ∧ z.cps[i]? = some c ∧ H' = upd H T (.tup [.int (i : Nat), .str ⟨#[c]⟩]), fun i _ => z.cps.size ≤ i⟩
theorem turn_enumT {P : Program} {w : World} {K : PySem.W.Frag} {elts : List Expr} {kk : Nat} {tpos : Pos} {z : Str} {t : Tok} {e it : Addr} (hne : e ≠ it) :
    Turn P w K (.Tuple elts kk tpos) (Ites z) [e, it] e (fun i h => ((∃ old, IsEnum h e it ((i : Nat) : Int) old) ∧ h.IsStrIter it (strIterType z) z t i) ∧ i ≤ z.cps.size) where
  mem := List.mem_cons_self
  obj := by
    rintro i h ⟨⟨⟨old, he⟩, o, ho, hc, hd⟩, _⟩ b hb
    simp only [List.mem_cons, List.not_mem_nil, or_false] at hb
    rcases hb with rfl | rfl
    · exact ⟨_, he, fun v q => nomatch q⟩
    · exact ⟨o, ho, fun v q => by rw [hd] at q; cases q⟩
  keep := by
    rintro i h h' ⟨⟨⟨old, he⟩, o, ho, r⟩, hl⟩ k
    exact ⟨⟨⟨old, k e (by simp) _ he⟩, o, k it (by simp) o ho, r⟩, hl⟩
  item := by
    rintro X rfl rfl rfl hc i pins s σ H E I hf ⟨⟨⟨old, he⟩, hit⟩, hle⟩ hg
    have hel : e < s.heap.objs.size := Heap.lt_size he
    have hil : it < s.heap.objs.size := by obtain ⟨_, q, _⟩ := hit; exact Heap.lt_size q
    refine wpAny_pyNext_enum_itemC (Draws.text (A := X.A.in1) (I.ok.hd hc) it z t) he hit hg hne (fun m => hne (List.mem_singleton.mp m)) fun x h' tk hx ho hit' hT hsz hk => ?_
    obtain ⟨c, u, hcx, rfl⟩ := hx
    refine ⟨_, rfl, wpAny_letOwnedTupleGo_enum (s := { s with heap := h', toks := tk + 1 }) ho fun h'' he' sb => ?_⟩
    have hT2 : h''.get? s.heap.objs.size = some { cls := .type "tuple", data := .seq #[.int i tk, .str ⟨#[c]⟩ u] } := (sb.2 _ (Nat.ne_of_gt hel)).trans hT
    have new : ObjOk X.prog X.w (upd H s.heap.objs.size (.tup [.int (i : Nat), .str ⟨#[c]⟩])) h'' s.heap.objs.size (.tup [.int (i : Nat), .str ⟨#[c]⟩]) :=
      ⟨by show 2 ≤ sizeLine; decide, [.int i tk, .str ⟨#[c]⟩ u], .cons ⟨_, rfl⟩ (.cons ⟨_, rfl⟩ .nil), ⟨_, hT2, rfl, _, rfl⟩⟩
    have I1 : Inv X pins σ (upd H s.heap.objs.size (.tup [.int (i : Nat), .str ⟨#[c]⟩])) { s with heap := h'', toks := tk + 1 } :=
      I.turnedNew (ch := [e, it]) (fun b ob hb q => (sb.2 b (fun z => hb (by simp [z]))).trans (hk b ob (fun z => hb (by simp [z])) (fun z => hb (by simp [z])) q)) hf (Nat.le_refl _) new
    refine ⟨.ref s.heap.objs.size, _, I1, rfl, ⟨_, c, rfl, I.hok.fresh (Nat.le_refl _), hcx, rfl⟩, ⟨⟨⟨.str ⟨#[c]⟩ u, ?_⟩, ?_⟩, hg⟩, fun b hb => ?_⟩
    · have e1 : ((i + 1 : Nat) : Int) = (i : Int) + 1 := by omega
      rw [e1]; exact he'
    · obtain ⟨o, q, r⟩ := hit'
      exact ⟨o, (sb.2 it (Ne.symm hne)).trans q, r⟩
    · have hb' : b < s.heap.objs.size := by
        simp only [List.mem_cons, List.not_mem_nil, or_false] at hb
        rcases hb with rfl | rfl
        · exact hel
        · exact hil
      rw [upd_ne (Nat.ne_of_lt hb')]
      exact (hf b hb).1
  done := by
    rintro X rfl rfl rfl hc i pins s σ H E I hf ⟨⟨⟨old, he⟩, hit⟩, hle⟩ hg
    obtain ⟨f0, f1, f2, f3, f4, f5⟩ := hf it (by simp)
    have hg : i = z.cps.size := Nat.le_antisymm hle hg
    subst hg
    exact wpAny_pyNext_enum_endD (Draws.text (A := X.A.in1) (I.ok.hd hc) it z t) he hit fun h' eb => ⟨rfl, I.turned (t' := s.toks) (fun b o hb q => eb b o hb q) f0 f1 f3 f4 f5⟩
  self := fun A i s Q E st h => wpAny_pyIter_enum st.1.1.choose_spec h
def iEnumT (ta : TA) : TI := fun σ H R => ta σ H fun vs H1 => ∃ z, vs = [.str z] ∧ R (Ites z) H1
theorem pi_enumT {X : Cx} {e : Expr} {ta : TA} {p pos tpos : Pos} {elts : List Expr} {kk : Nat} (hg : Gl X "enumerate") (hm : X.mg "enumerate" = none) (ha : PA X [e] ta) (hs : starEach [e] X.env = [(false, eval e X.env)] := by rfl) :
    PI X (.Tuple elts kk tpos) (.Call (.Name "enumerate" p) [e] [] pos) (iEnumT ta) := by
  constructor
  intro pins s σ H R I h
  refine Call_ (ld_blt I hg hm boot_enumerate (PyProof.Rows.callWith_type1 (thn (ha.run pos pins s σ H _ I h) fun us s1 ⟨vs, H1, I1, r1, q1⟩ => ?_) hs rfl))
  obtain ⟨z, rfl, q⟩ := q1
  cases r1 with
  | cons r rr =>
    cases rr
    obtain ⟨t, rfl⟩ := r
    refine call_enumerate_str fun h' he hit hsz hk => wpAny_pyIter_enum he ?_
    refine ⟨s1.heap.objs.size + 1, [s1.heap.objs.size + 1, s1.heap.objs.size], _, _, H1, rfl, I1.kept (t' := s1.toks) hk, turn_enumT (Nat.succ_ne_self _), ⟨⟨⟨.none, he⟩, hit⟩, Nat.zero_le _⟩, fun b hb => ?_, q⟩
    have hle : s1.heap.objs.size ≤ b := by
      simp only [List.mem_cons, List.not_mem_nil, or_false] at hb
      rcases hb with z | z
      · rw [z]; exact Nat.le_add_right _ _
      · rw [z]; exact Nat.le_refl _
    exact I1.fpOk hle (I1.hok.fresh hle)
theorem it_enumT {z : Str} {F0 : Fz} : IterOk (Ites z) F0 (.lit (enumL 0 (z.cps.toList.map one))) := by
  intro F H cs x w _ ed i
  cases ed
  rw [enumL_len]
  refine ⟨fun hi => ⟨show i < z.cps.size by simpa using hi, ?_⟩, fun hi => show z.cps.size ≤ i by simpa using hi⟩
  · rintro y H' ⟨T, c, rfl, hT, hc, rfl⟩
    obtain ⟨w2, n2⟩ := w.tup (o := .tup [.int (i : Nat), .str ⟨#[c]⟩]) hT
    refine ⟨_, n2, w2, .tup [.int (i : Nat), one c], ?_, .tup up_same (.cons (.int _) (.cons (.str _) .nil))⟩
    rw [enumL_get, List.getElem?_map, Array.getElem?_toList, hc]
    simp
def enumT (fa : FA) : FI := fun sl cs => (fa sl cs).then fun a => match a.1 with
  | [.dat (.str z)] => .ok (.lit (enumL 0 (z.cps.toList.map one)), a.2)
  | _ => .bad
section
variable {X : Cx} {W : WX} {e : Expr} {fa : FA} {p pos tpos : Pos}
theorem di_enumT {elts : List Expr} {kk : Nat} (hg : Gl X "enumerate") (hm : X.mg "enumerate" = none) (ha : DA X W [e] fa) (hs : starEach [e] X.env = [(false, eval e X.env)] := by rfl) : DI X W (.Tuple elts kk tpos) (.Call (.Name "enumerate" p) [e] [] pos) (enumT fa) :=
  PI.imp (pi_enumT hg hm ha hs) fun σ H Rr q => by
    obtain ⟨F0, H0, F, sl, cs, R, o⟩ := q
    refine OutI.run_A R o fun rs c vs F' H' e1 n w k R' o1 => ?_
    dsimp only at o1
    split at o1
    · rename_i z
      cases k with
      | cons k1 k2 =>
        cases k2
        cases (show Den F' _ (.str z) from k1)
        exact ⟨z, rfl, o1 _ F' H' n w it_enumT⟩
    · exact o1.elim
end
end SL

/-! Sxi: the steps of Sxf, Sxg, Sxh; small facts for the printed walks. -/
namespace SL
open PySem PySem.Spec L2 GxR
theorem bt_sorted : bootBuiltins "sorted" = some (.builtin "sorted") := by decide +kernel
def cols6 : List Str := ["a", "b", "c", "d", "e", "f"]
theorem cols6_nd : cols6.Nodup := by decide +kernel
theorem cols6_st : PyProof.Rows.sortedS cols6 = true := by decide +kernel
/-- a generator's scope, as a test -/
def genSB (sc : Scope) (x : Str) : Bool := decide (sc.kind = .function) && (!sc.isCoroutine && (sc.names.all (fun y => decide (y.2 ≠ .cell) && decide (y.2 ≠ .free)) && (decide (sc.names.lookup (".0" : Str) = some .local) && decide (sc.names.lookup x = some .local))))
theorem genS_by {env : Env} {sc : Scope} {x : Str} (h : genSB sc x = true) : GenS env sc x := by
  obtain ⟨h1, h⟩ := Bool.and_eq_true_iff.mp h
  obtain ⟨h2, h⟩ := Bool.and_eq_true_iff.mp h
  obtain ⟨h3, h⟩ := Bool.and_eq_true_iff.mp h
  obtain ⟨h4, h5⟩ := Bool.and_eq_true_iff.mp h
  have al := fun y hy => Bool.and_eq_true_iff.mp (List.all_eq_true.mp h3 y hy)
  exact ⟨of_decide_eq_true h1, by simpa using h2, fun y hy => of_decide_eq_true (al y hy).1, of_decide_eq_true h4, of_decide_eq_true h5, fun y hy e => absurd e (of_decide_eq_true (al y hy).2)⟩
def signB (sc : Scope) (x g : Str) : Bool := decide (sc.kind = .function) && (decide (sc.names.lookup x = some .local) && (decide (sc.names.lookup g = some .globalImplicit) && (!(x == ("__debug__" : Str)) && !(g == ("__debug__" : Str)))))
theorem signTest_by {X : Cx} {sc : Scope} {x g S : Str} {tk : Tok} {p1 p2 p3 : Pos} (h : signB sc x g = true) (hm : X.mg g = some (.str S tk)) : SignTest X sc x (.Compare (.Name x p1) [.In] [.Name g p2] p3) (fun c => decide (c ∈ S.cps.toList)) := by
  obtain ⟨h1, h⟩ := Bool.and_eq_true_iff.mp h
  obtain ⟨h2, h⟩ := Bool.and_eq_true_iff.mp h
  obtain ⟨h3, h⟩ := Bool.and_eq_true_iff.mp h
  obtain ⟨h4, h5⟩ := Bool.and_eq_true_iff.mp h
  exact signTest_in (of_decide_eq_true h1) (of_decide_eq_true h2) (of_decide_eq_true h3) hm (by simpa using h4) (by simpa using h5)
/-! ### steps -/
section
variable {fa fb f : FE} {ra : FA} {sl : List SV} {cs c : List CO} {r r' : RV} {z S : Str} {t : Nat} {G : Addr} {cols : List Str} {i j : Int} {ds : List D}
def ssO (cols : List Str) (c : List CO) : Option D → Res (RV × List CO)
  | some (.str x) => if (ST.signs x).all (fun y => decide (y ∈ cols)) = true ∧ cols.length < 64 then .ok (.new (.lst ((among cols x).map .str)), c) else .bad
  | _ => .bad
def kSS (cols : List Str) : RV × List CO → Res (RV × List CO) := fun a => ssO cols a.2 (a.1.view a.2)
theorem x_ss : dSortSet cols fa sl cs = (fa sl cs).then (kSS cols) := by
  unfold dSortSet kSS ssO
  congr 1
theorem x_ss1 : kSS cols (r, c) = ssO cols c (r.view c) := rfl
theorem x_ssO (h : (ST.signs z).all (fun y => decide (y ∈ cols)) = true ∧ cols.length < 64) : ssO cols c (some (.str z)) = .ok (.new (.lst ((among cols z).map .str)), c) := if_pos h
def allO (G : Addr) (S : Str) (c : List CO) : Option D → Option CO → Res (RV × List CO)
  | some (.str x), some (.tab P q) => if P = G ∧ q = "" then .ok (.dat (.bl (x.cps.toList.all fun y => decide (y ∈ S.cps.toList))), c) else .bad
  | _, _ => .bad
def kAll (t : Nat) (G : Addr) (S : Str) : RV × List CO → Res (RV × List CO) := fun a => allO G S a.2 (a.1.view a.2) (a.2[t]?)
theorem x_all : dAllS t G S fa sl cs = (fa sl cs).then (kAll t G S) := by
  unfold dAllS kAll allO
  congr 1
theorem x_all1 : kAll t G S (r, c) = allO G S c (r.view c) (c[t]?) := rfl
theorem x_allO : allO G S c (some (.str z)) (some (.tab G "")) = .ok (.dat (.bl (z.cps.toList.all fun y => decide (y ∈ S.cps.toList))), c) := if_pos ⟨rfl, rfl⟩
theorem x_mulX_i : gMulX (.int i) (.int j) = gMul (.int i) (.int j) := rfl
theorem x_mulX_l : gMulX (.lst ds) (.int j) = gMul (.lst ds) (.int j) := rfl
theorem x_mulX_s (h : -4611686018427387904 ≤ j ∧ j < 4611686018427387904 ∧ z.length * j.toNat ≤ 16777216) : gMulX (.str z) (.int j) = some (.dat (.str (repS z j.toNat))) := if_pos h
def inXO (z : Str) : List Nat → Option RV
  | [c] => some (.dat (.bl (decide (c ∈ z.cps.toList))))
  | _ => none
theorem x_inX_s : gInX (.str S) (.str z) = inXO z S.cps.toList := rfl
theorem x_inX_l : gInX (.str S) (.lst ds) = gIn (.str S) (.lst ds) := rfl
theorem x_inX_t : gInX (.str S) (.tup ds) = gIn (.str S) (.tup ds) := rfl
theorem x_inXO {n : Nat} : inXO z [n] = some (.dat (.bl (decide (n ∈ z.cps.toList)))) := rfl
def lrg1 (c : List CO) : RV → Res (RV × List CO)
  | .dat (.int j) => if -(2 ^ 62) ≤ j ∧ j ≤ 16777216 then .ok (.new (.lst (rngL 0 j.toNat)), c) else .bad
  | _ => .bad
def kLr1 : RV × List CO → Res (RV × List CO) := fun a => lrg1 a.2 a.1
theorem x_lr1 : dLRg1 fa sl cs = (fa sl cs).then kLr1 := by
  unfold dLRg1 kLr1 lrg1
  congr 1
theorem x_lr11 (h : -4611686018427387904 ≤ j ∧ j ≤ 16777216) : kLr1 (.dat (.int j), c) = .ok (.new (.lst (rngL 0 j.toNat)), c) := if_pos h
def kLr2 (g : FE) (sl : List SV) : RV × List CO → Res (RV × List CO) := fun a => (g sl a.2).then fun b => lrg2 a.1 b.1 b.2
def kLr3 (r : RV) : RV × List CO → Res (RV × List CO) := fun b => lrg2 r b.1 b.2
theorem x_lr2 : dLRg2 fa fb sl cs = (fa sl cs).then (kLr2 fb sl) := rfl
theorem x_lr21 : kLr2 fb sl (r, c) = (fb sl c).then (kLr3 r) := rfl
theorem x_lr22 (h : 0 ≤ i ∧ i ≤ 16777216 ∧ 0 ≤ j ∧ j ≤ 16777216) : kLr3 (.dat (.int i)) (.dat (.int j), c) = .ok (.new (.lst (rngL i (j - i).toNat)), c) := if_pos h
def kEnT : List RV × List CO → Res (Src × List CO) := fun a => match a.1 with
  | [.dat (.str z)] => .ok (.lit (enumL 0 (z.cps.toList.map one)), a.2)
  | _ => .bad
theorem x_enT : enumT ra sl cs = (ra sl cs).then kEnT := rfl
theorem x_enT1 : kEnT ([.dat (.str z)], c) = .ok (.lit (enumL 0 (z.cps.toList.map one)), c) := rfl
end
section
variable {fv fk : FE} {sl : List SV} {cs c : List CO} {i : Nat} {d x : D} {k : Key} {kvs : List (Key × D)} {z : Str} {j : Int}
def kSKI2 (i : Nat) (sl : List SV) (d : D) : RV × List CO → Flw := fun b => match b.1 with
  | .dat x => putKS i sl b.2 d (keyD x) (dctOf (getO i sl b.2))
  | _ => .bad
def skiO (i : Nat) (fk : FE) (sl : List SV) (c : List CO) (d : D) : Option CO → Flw
  | some _ => Res.toF sl (fk sl c) (kSKI2 i sl d)
  | none => .bad
def kSKI (i : Nat) (fk : FE) (sl : List SV) : RV × List CO → Flw := fun a => match a.1 with
  | .dat d => skiO i fk sl a.2 d (getO i sl a.2)
  | _ => .bad
theorem x_setKI : dSetKI i fv fk sl cs = Res.toF sl (dFrz fv sl cs) (kSKI i fk sl) := by
  unfold dSetKI kSKI skiO kSKI2
  congr 1
theorem x_setKI1 : kSKI i fk sl (.dat d, c) = skiO i fk sl c d (getO i sl c) := rfl
theorem x_setKI2 {o : CO} : skiO i fk sl c d (some o) = Res.toF sl (fk sl c) (kSKI2 i sl d) := rfl
theorem x_setKI3 : kSKI2 i sl d (.dat x, c) = putKS i sl c d (keyD x) (dctOf (getO i sl c)) := rfl
theorem x_putKS (h : kvs.length < 16777216) : putKS i sl c d (some k) (some kvs) = putO i (.dct (putD kvs k d)) sl c := if_pos h
theorem x_cutS_to (h : 0 ≤ j) : cutS z none (some j) = ⟨(z.cps.toList.take j.toNat).toArray⟩ := by
  obtain ⟨n, rfl⟩ := Int.eq_ofNat_of_zero_le h
  have e : z.length = z.cps.toList.length := by simp [Str.length]
  unfold cutS
  rw [HT.sIx_none, HT.sIx_nat, Int.toNat_natCast, List.drop_zero, Nat.sub_zero, e]
  rcases Nat.le_total n z.cps.toList.length with l | l
  · rw [Nat.min_eq_left l]
  · rw [Nat.min_eq_right l, List.take_of_length_le (Nat.le_refl _), List.take_of_length_le l]
theorem x_cutS_from (h : 0 ≤ j) : cutS z (some j) none = ⟨(z.cps.toList.drop j.toNat).toArray⟩ := by
  obtain ⟨n, rfl⟩ := Int.eq_ofNat_of_zero_le h
  have e : z.length = z.cps.toList.length := by simp [Str.length]
  unfold cutS
  rw [HT.sIx_none, HT.sIx_nat, Int.toNat_natCast, e]
  rcases Nat.le_total n z.cps.toList.length with l | l
  · rw [Nat.min_eq_left l, List.take_of_length_le (by rw [List.length_drop]; omega)]
  · rw [Nat.min_eq_right l, List.drop_eq_nil_of_le (Nat.le_refl _), List.drop_eq_nil_of_le l, List.take_nil]
end
/-! ### comprehensions and loops -/
theorem lcF_filter {t : FG} {ft : FT} {fe : FE} {sl : List SV} {cs : List CO} (P : D → Bool) (f : D → D) : ∀ (ds acc : List D), (∀ d ∈ ds, ∃ s1, t d sl = some s1 ∧ ft s1 cs = .ok (P d, cs) ∧ (P d = true → dFrz fe s1 cs = .ok (.dat (f d), cs))) → acc.length + ds.length ≤ 16777216 →
    lcF t ft fe sl ds acc cs = .ok (acc ++ (ds.filter P).map f, cs)
  | [], acc, _, _ => by simp [lcF]
  | d :: ds, acc, h, hl => by
    obtain ⟨s1, e1, e2, e3⟩ := h d List.mem_cons_self
    have hl' : acc.length + ds.length + 1 ≤ 16777216 := by rw [List.length_cons] at hl; omega
    unfold lcF
    rw [e1]; dsimp only; rw [e2]
    cases hp : P d with
    | false =>
      dsimp only
      rw [lcF_filter P f ds acc (fun d hd => h d (List.mem_cons_of_mem _ hd)) (by omega), List.filter_cons_of_neg (by simp [hp])]
    | true =>
      dsimp only
      rw [e3 hp]; dsimp only
      rw [if_pos (show acc.length < sizeLine by show acc.length < 16777216; omega), lcF_filter P f ds (acc ++ [f d]) (fun d hd => h d (List.mem_cons_of_mem _ hd)) (by rw [List.length_append]; simp; omega), List.filter_cons_of_pos hp, List.map_cons, List.append_assoc]
      rfl
/-- a loop that only adds to a list -/
theorem loop_app {t : FG} {body : FS} {cs : List CO} (I : List D → List SV → Prop) (f : D → List D) (N : Nat) : ∀ (ds acc : List D) (sl : List SV), I acc sl → acc.length + (ds.flatMap f).length ≤ N →
    (∀ d ∈ ds, ∀ acc sl, I acc sl → acc.length + (f d).length ≤ N → ∃ s1 s2, t d sl = some s1 ∧ body s1 cs = .nx s2 cs ∧ I (acc ++ f d) s2) → ∃ s2, loopF t body ds sl cs = .nx s2 cs ∧ I (acc ++ ds.flatMap f) s2
  | [], acc, sl, h, _, _ => ⟨sl, rfl, by simpa using h⟩
  | d :: ds, acc, sl, h, hl, step => by
    rw [List.flatMap_cons, List.length_append] at hl
    obtain ⟨s1, s2, e1, e2, h2⟩ := step d List.mem_cons_self acc sl h (by omega)
    obtain ⟨s3, e3, h3⟩ := loop_app I f N ds (acc ++ f d) s2 h2 (by rw [List.length_append]; omega) (fun d hd => step d (List.mem_cons_of_mem _ hd))
    exact ⟨s3, by rw [loopF_nx e1 e2]; exact e3, by rw [List.flatMap_cons, ← List.append_assoc]; exact h3⟩
/-- a loop that carries a state -/
theorem loop_fold {α : Type} {t : FG} {body : FS} {cs : List CO} (I : α → List SV → Prop) (g : α → D → α) : ∀ (ds : List D) (a : α) (sl : List SV), I a sl →
    (∀ pre d post, ds = pre ++ d :: post → ∀ sl, I (pre.foldl g a) sl → ∃ s1 s2, t d sl = some s1 ∧ body s1 cs = .nx s2 cs ∧ I (g (pre.foldl g a) d) s2) → ∃ s2, loopF t body ds sl cs = .nx s2 cs ∧ I (ds.foldl g a) s2
  | [], a, sl, h, _ => ⟨sl, rfl, h⟩
  | d :: ds, a, sl, h, step => by
    obtain ⟨s1, s2, e1, e2, h2⟩ := step [] d ds rfl sl h
    obtain ⟨s3, e3, h3⟩ := loop_fold I g ds (g a d) s2 h2 (fun pre x post e sl hs => step (d :: pre) x post (by rw [e]; rfl) sl hs)
    exact ⟨s3, by rw [loopF_nx e1 e2]; exact e3, h3⟩
end SL

/-! Sxj: != of two alike dicts of whole numbers. -/
namespace SL
open PySem PySem.Spec L2
def kvI : List (Key × D) → Option (List (Key × Int))
  | [] => some []
  | (k, .int i) :: r => (kvI r).map fun l => (k, i) :: l
  | _ => none
def neKO : Option (List (Key × Int)) → Option (List (Key × Int)) → Option RV
  | some x, some y => if x = y ∧ (x.map (·.1)).Nodup then some (.dat (.bl false)) else none
  | _, _ => none
def gNeK : G2 := fun a b => match a, b with
  | .dct ks, .dct ls => neKO (kvI ks) (kvI ls)
  | a, b => gNe a b
theorem DenKv.ints {F : Fz} : ∀ {ks : List (Key × D)} {vs : List (Key × V)} {x : List (Key × Int)}, DenKv F vs ks → kvI ks = some x → vs = x.map fun p => (p.1, V.int p.2)
  | [], _, _, h, e => by cases h; cases e; rfl
  | (k, d) :: ks, _, x, h, e => by
    cases h with
    | cons h t =>
      cases d with
      | int i =>
        unfold kvI at e
        cases q : kvI ks with
        | none => rw [q] at e; cases e
        | some l =>
          rw [q] at e; cases e
          cases h
          rw [DenKv.ints t q]; rfl
      | _ => cases e
theorem valV_ints : ∀ (x : List (Key × Int)), (x.map (·.1)).Nodup → ∀ p ∈ x, valV (x.map fun p => (p.1, V.int p.2)) p.1 = some (V.int p.2)
  | [], _, p, hp => by cases hp
  | q :: x, nd, p, hp => by
    obtain ⟨n1, n2⟩ := List.nodup_cons.mp nd
    unfold valV
    rw [List.map_cons, List.find?_cons]
    rcases List.mem_cons.mp hp with rfl | hp
    · simp
    · have ne : q.1 ≠ p.1 := fun z => n1 (by show q.1 ∈ _; rw [z]; exact List.mem_map_of_mem (f := (·.1)) hp)
      rw [decide_eq_false (show ¬ (q.1 = p.1) from ne)]
      exact valV_ints x n2 p hp
theorem o_neK {X : Cx} (hu : X.A.units + 64 < cLine) : OpD X (compareOp .NotEq) gNeK := OpR.imp (OpR.or (op_ne_dictA (by omega)) (o_ne hu)) fun x y H Q ⟨F, cs, a, b, r, w, va, vb, e, k⟩ => by
  unfold gNeK at e
  split at e
  · rename_i ks ls
    unfold neKO at e
    split at e
    · rename_i x1 y1 ex ey
      split at e
      · rename_i hc
        cases e
        obtain ⟨p, vs, rfl, hp, d1⟩ := va.dct w.ex
        obtain ⟨q, ws, rfl, hq, d2⟩ := vb.dct w.ex
        have f1 := d1.ints ex
        have f2 := d2.ints ey
        rw [← hc.1] at f2
        subst f1; subst f2
        refine .inl ⟨p, q, _, _, rfl, rfl, hp, hq, rfl, fun z hz => ?_, k.bl w⟩
        obtain ⟨t, ht, rfl⟩ := List.mem_map.mp hz
        exact ⟨valV_ints _ hc.2 t ht, rfl⟩
      · cases e
    · cases e
  · exact .inr ⟨F, cs, a, b, r, w, va, vb, e, k⟩
section
variable {ks ls : List (Key × D)} {x : List (Key × Int)}
theorem x_neK : gNeK (.dct ks) (.dct ls) = neKO (kvI ks) (kvI ls) := rfl
theorem x_neKO (h : (x.map (·.1)).Nodup) : neKO (some x) (some x) = some (.dat (.bl false)) := if_pos ⟨rfl, h⟩
theorem x_neK_s {a b : Str} : gNeK (.str a) (.str b) = gNe (.str a) (.str b) := rfl
theorem x_neK_l {a b : List D} : gNeK (.lst a) (.lst b) = gNe (.lst a) (.lst b) := rfl
theorem x_neK_i {a b : Int} : gNeK (.int a) (.int b) = gNe (.int a) (.int b) := rfl
end
end SL

/-! Sxk: a tuple in a list of tuples. -/
namespace SL
open PySem PySem.Spec L2
def inDO (a : D) (ds : List D) : Option RV := if (a.plain && (D.lst ds).plain) && (SeqAt.shaped a.py && SeqAt.shaped (D.lst ds).py) then some (.dat (.bl (ds.any fun z => PyData.eqv z.py a.py))) else none
def gInD : G2 := fun a b => match a, b with
  | .tup xs, .lst ds => inDO (.tup xs) ds
  | a, b => gInX a b
theorem pyAll_map : ∀ ds : List D, pyAll ds = ds.map D.py
  | [] => rfl
  | d :: ds => by rw [pyAll, pyAll_map ds]; rfl
theorem o_inD {X : Cx} (hu : X.A.units + 65 < cLine) : OpD X (compareOp .In) gInD := OpR.imp (OpR.or (op_inD hu) o_inX) fun x y H Q ⟨F, cs, a, b, r, w, va, vb, e, k⟩ => by
  unfold gInD at e
  split at e
  · rename_i xs ds
    unfold inDO at e
    split at e
    · rename_i hc
      cases e
      obtain ⟨h1, h2⟩ := Bool.and_eq_true_iff.mp hc
      obtain ⟨p1, p2⟩ := Bool.and_eq_true_iff.mp h1
      obtain ⟨s1, s2⟩ := Bool.and_eq_true_iff.mp h2
      refine .inl ⟨(D.tup xs).py, pyAll ds, va.dp w.ex p1, vb.dp w.ex p2, s1, s2, ?_⟩
      rw [pyAll_map, List.any_map]
      exact k.bl w
    · cases e
  · exact .inr ⟨F, cs, a, b, r, w, va, vb, e, k⟩
theorem room65 {k : Nat} {A : Around} (r : Room k A) : A.units + 65 < cLine := by have := r.un; omega
section
variable {xs ds : List D} {z : Str}
theorem x_inD_t : gInD (.tup xs) (.lst ds) = inDO (.tup xs) ds := rfl
theorem x_inD_s {y : Str} : gInD (.str y) (.str z) = gInX (.str y) (.str z) := rfl
theorem x_inD_l {y : Str} : gInD (.str y) (.lst ds) = gInX (.str y) (.lst ds) := rfl
end
end SL

/-! Sxl: [d[x] for x in d]; ints in a list; shifts and bits; join of texts. -/
namespace SL
open PySem PySem.Spec PyProof.Rows L2
theorem valV_get : ∀ {kvs : List (Key × V)} {i : Nat} {k : Key} {v : V}, (kvs.map (·.1)).Nodup → kvs[i]? = some (k, v) → valV kvs k = some v
  | [], i, k, v, _, h => by simp at h
  | (k0, v0) :: kvs, 0, k, v, _, h => by
    simp only [List.getElem?_cons_zero, Option.some.injEq, Prod.mk.injEq] at h
    obtain ⟨rfl, rfl⟩ := h
    unfold valV
    rw [List.find?_cons, decide_eq_true rfl]; rfl
  | (k0, v0) :: kvs, i + 1, k, v, nd, h => by
    obtain ⟨n1, n2⟩ := List.nodup_cons.mp nd
    simp only [List.getElem?_cons_succ] at h
    have ne : k0 ≠ k := fun z => n1 (List.mem_map.mpr ⟨(k, v), List.mem_of_getElem? h, z.symm⟩)
    have ih := valV_get n2 h
    unfold valV at ih ⊢
    rw [List.find?_cons, decide_eq_false (show ¬ ((k0, v0).1 = k) from ne)]
    exact ih
/-- the values of the dict in slot i, one by one under its keys -/
def tDV (i j : Nat) : TE := fun σ H Q => ∃ d kvs, σ[i]? = some (some (.ref d)) ∧ H d = some (.dK kvs) ∧ (kvs.map (·.1)).Nodup ∧ kvs.length < sizeLine ∧ j < σ.length ∧ i ≠ j ∧ ∀ D, H D = none → Q (.ref D) (upd H D (.lst (kvs.map (·.2))))
theorem tDV_lock {i j : Nat} {σ : L2.St} {H : Hp} {Q : VK} (q : tDV i j σ H Q) : tLockE (tLc (iKeys (tVar i)) (gName j) tYes (tDGet (tVar i) (tVar j)) [j]) σ H Q := by
  obtain ⟨d, kvs, hs, hd, nd, hz, hj, hij, q⟩ := q
  refine ⟨d, .dK kvs, hd, trivial, fun od => ⟨.ref d, hs, d, od, rfl, .inl ⟨kvs, upd_same, fun D hD => ?_⟩⟩⟩
  have nDd : D ≠ d := fun z => by rw [z, upd_same] at hD; cases hD
  have hD0 : H D = none := by rw [upd_ne nDd] at hD; exact hD
  refine ⟨fun n m Hx => m = kvs.length - n ∧ n ≤ kvs.length ∧ Hx = upd (upd H d (.frz od (.dK kvs))) D (.lst ((kvs.map (·.2)).take n)), ⟨kvs.length, by simp, Nat.zero_le _, rfl⟩, ?_⟩
  rintro n m Hx ⟨rfl, hn, rfl⟩
  have at_d : ∀ xs, upd (upd H d (.frz od (.dK kvs))) D (.lst xs) d = some (.frz od (.dK kvs)) := fun xs => by rw [upd_ne (Ne.symm nDd), upd_same]
  by_cases h : n < kvs.length
  · refine .inr ⟨⟨at_d _, h⟩, fun H' => kvs.length - n ≥ 1 ∧ H' = upd (upd H d (.frz od (.dK kvs))) D (.lst ((kvs.map (·.2)).take (n + 1))), ?_, ?_⟩
    · rintro H' ⟨h1, rfl⟩
      exact ⟨kvs.length - (n + 1), by omega, rfl, h, rfl⟩
    · rintro x H' ⟨rfl, k, v, hk, rfl⟩
      have h1 : (wipe σ [j]).length = σ.length := wipe_length σ [j]
      refine ⟨?_, .ref d, ?_, kV k, ?_, d, v, rfl, .inl ⟨kvs, k, .inr ⟨od, at_d _⟩, rfl, (valV_get nd hk).symm⟩, _, upd_same, ?_, by omega, ?_⟩
      · show ((σ.set j none).set j (some (kV k))).set j none = σ.set j none
        rw [List.set_set, List.set_set]
      · show ((σ.set j none).set j (some (kV k)))[i]? = _
        rw [List.getElem?_set_ne (Ne.symm hij), List.getElem?_set_ne (Ne.symm hij)]
        exact hs
      · show ((σ.set j none).set j (some (kV k)))[j]? = _
        rw [List.set_set, List.getElem?_set_self hj]
      · rw [List.length_take, List.length_map]; omega
      · rw [upd_upd]
        congr 2
        rw [List.take_add_one, List.getElem?_map, hk]; rfl
  · have e : n = kvs.length := by omega
    subst e
    refine .inl ⟨⟨at_d _, Nat.le_refl _⟩, at_d _, ?_⟩
    have e2 : upd (upd (upd H d (.frz od (.dK kvs))) D (.lst ((kvs.map (·.2)).take kvs.length))) d (.dK kvs) = upd H D (.lst (kvs.map (·.2))) := by
      funext b
      by_cases hb : b = d
      · subst hb
        rw [upd_same, upd_ne (Ne.symm nDd), hd]
      · rw [upd_ne hb]
        by_cases hb2 : b = D
        · subst hb2
          rw [upd_same, upd_same, List.take_of_length_le (by simp)]
        · rw [upd_ne hb2, upd_ne hb2, upd_ne hb]
    rw [e2]
    exact q D hD0
theorem DenKv.vals {F : Fz} : ∀ {xs : List (Key × V)} {ds : List (Key × D)}, DenKv F xs ds → DenAll F (xs.map (·.2)) (ds.map (·.2)) ∧ xs.map (·.1) = ds.map (·.1)
  | _, _, .nil => ⟨.nil, rfl⟩
  | _, _, .cons h t => ⟨.cons h (DenKv.vals t).1, by rw [List.map_cons, List.map_cons, (DenKv.vals t).2]⟩
def dDVals (i j : Nat) : FE := fun sl cs => match sl[i]? with
  | some (.dat (.dct kvs)) => if (kvs.map (·.1)).Nodup ∧ kvs.length < sizeLine ∧ j < sl.length ∧ i ≠ j then .ok (.new (.lst (kvs.map (·.2))), cs) else .bad
  | _ => .bad
section
variable {X : Cx} {W : WX} {e : Expr} {i j : Nat}
theorem de_dvals (h : PE X e (tLockE (tLc (iKeys (tVar i)) (gName j) tYes (tDGet (tVar i) (tVar j)) [j]))) : DE X W e (dDVals i j) := PE.imp h fun σ H Q q => by
  obtain ⟨F0, H0, F, sl, cs, R, o⟩ := q
  unfold dDVals at o
  split at o
  · rename_i kvs es
    split at o
    · rename_i hc
      obtain ⟨v, hv, dn⟩ := R.at_ i _ es
      cases dn with
      | @dct a xs _ ha hk =>
        obtain ⟨d1, d2⟩ := hk.vals
        refine tDV_lock ⟨a, xs, hv, R.w.ex _ _ ha, by rw [d2]; exact hc.1, ?_, by rw [R.len]; exact hc.2.2.1, hc.2.2.2, fun D hD => ?_⟩
        · have := congrArg List.length d2
          rw [List.length_map, List.length_map] at this
          omega
        · have af : Aft X.K F H cs Q (.new (.lst (kvs.map (·.2)))) := o
          have d3 : COk F (.lst (xs.map (·.2))) (.lst (kvs.map (·.2))) := d1
          exact af.new R.w hD d3
    · exact o.elim
  · exact o.elim
end
end SL

/-! Sxm: a whole number in a list; shifts, the lowest bit; join of texts. -/
namespace SL
open PySem PySem.Spec PyProof.Rows L2
/-! ### a whole number in a list -/
def inIO (i : Int) : Option (List Int) → Option RV
  | some ns => some (.dat (.bl (decide (i ∈ ns))))
  | none => none
def gInI : G2 := fun a b => match a, b with
  | .int i, .lst ds => inIO i (intsOf ds)
  | a, b => gInX a b
theorem inV_ints (z : Int) : ∀ zs : List Int, inV (.int z) (zs.map V.int) = decide (z ∈ zs)
  | [] => by simp [inV]
  | y :: zs => by
    have ih := inV_ints z zs
    unfold inV at ih ⊢
    rw [List.map_cons, List.any_cons, ih]
    have e : eqV (.int y) (.int z) = decide (y = z) := by
      show (y == z) = _
      by_cases h : y = z
      · subst h; simp
      · rw [decide_eq_false h]; exact beq_eq_false_iff_ne.mpr h
    rw [e]
    by_cases h : y = z
    · subst h; simp
    · have h' : ¬ z = y := fun e => h e.symm
      simp [h, h']
section
variable {X : Cx}
theorem o_inI : OpD X (compareOp .In) gInI := OpR.imp (OpR.or op_in_seq o_inX) fun x y H Q ⟨F, cs, a, b, r, w, va, vb, e, k⟩ => by
  unfold gInI at e
  split at e
  · rename_i i ds
    cases es : intsOf ds with
    | none => rw [es] at e; cases e
    | some ns =>
      rw [es] at e; cases e
      obtain rfl := va.int
      obtain ⟨p, vs, rfl, hp, dn⟩ := vb.lst w.ex
      obtain rfl := dn.ints es
      refine .inl ⟨p, _, rfl, .inl (SqL.of hp), rfl, ?_, ?_⟩
      · rw [List.all_eq_true]; intro v hv; obtain ⟨q, _, rfl⟩ := List.mem_map.mp hv; rfl
      · show Q (.bl (inV (.int i) (ns.map V.int))) H
        rw [inV_ints]
        exact k.bl w
  · exact .inr ⟨F, cs, a, b, r, w, va, vb, e, k⟩
/-! ### bits -/
def gShl : G2 := gI2 (fun i j => decide (0 ≤ j) && (decide (j ≤ 1000000) && decide (i.natAbs < 2 ^ 64))) fun i j => .int (i * 2 ^ j.toNat)
def gShr : G2 := gI2 (fun _ j => decide (0 ≤ j)) fun i j => .int (i / 2 ^ j.toNat)
theorem o_shl : OpD X (binaryOp .LShift) gShl := opI op_shl (fun i j h => by have q := Bool.and_eq_true_iff.mp h; have q2 := Bool.and_eq_true_iff.mp q.2; exact ⟨of_decide_eq_true q.1, of_decide_eq_true q2.1, of_decide_eq_true q2.2⟩) fun _ _ _ => .int _
theorem o_shr : OpD X (binaryOp .RShift) gShr := opI op_shr (fun i j h => of_decide_eq_true h) fun _ _ _ => .int _
/-- n & 1 -/
def gOdd : G2 := fun a b => match a, b with
  | .int i, .int 1 => some (.dat (.int (i % 2)))
  | _, _ => none
theorem o_odd : OpD X (binaryOp .BitAnd) gOdd := OpR.imp op_andM fun x y H Q ⟨F, cs, a, b, r, w, va, vb, e, k⟩ => by
  unfold gOdd at e
  split at e
  · cases e
    refine ⟨_, 1, va.int, vb.int, ?_⟩
    exact k.int w
  · cases e
end
/-! ### z.join(list of texts) -/
def joinO (z : Str) : Option (List Str) → Option RV
  | some ys => if (ys.map (·.length)).sum + ys.length * z.length ≤ 16777216 then some (.dat (.str (Txt.join z ys))) else none
  | none => none
def gJoin (z : Str) : G1 := fun a => match a with
  | .lst ds => joinO z (strsOf ds)
  | _ => none
section
variable {X : Cx} {W : WX} {e : Expr} {f : FE} {z : Str}
theorem de_join {apos pos p1 : Pos} {j1 : Nat} (h : DE X W e f) (hs : starEach [e] X.env = [(false, eval e X.env)] := by rfl) (hbase : attributeBase (.Constant (.str z) j1 p1) "join" X.env (eval (.Constant (.str z) j1 p1) X.env) = eval (.Constant (.str z) j1 p1) X.env := by rfl) (hline : (apos.endLine == pos.line) = true := by rfl) : DE X W (.Call (.Attribute (.Constant (.str z) j1 p1) "join" apos) [e] [] pos) (dUn (gJoin z) f) :=
  PE.imp (pe_join pe_str h hs hbase hline) fun σ H Q q => by
    obtain ⟨F0, H0, F, sl, cs, R, o⟩ := q
    refine ⟨⟨z, rfl⟩, ?_⟩
    refine OutE.then_run R o fun r c v F1 H1 e n w k fv R1 o1 => ?_
    dsimp only at o1
    split at o1
    · rename_i x ex
      obtain ⟨y, ez, az⟩ := OutE.aft o1
      unfold gJoin at ez
      split at ez
      · rename_i ds
        cases es : strsOf ds with
        | none => rw [es] at ez; cases ez
        | some ys =>
          rw [es] at ez
          unfold joinO at ez
          split at ez
          · rename_i _ ys2 e2
            cases e2
            split at ez
            · rename_i hl
              cases ez
              obtain ⟨p, vs, rfl, hp, dn⟩ := (k.vw w ex).lst w.ex
              obtain rfl := dn.strs es
              exact ⟨z, p, ys, rfl, rfl, .inl (SqL.of hp), hl, az.str w⟩
            · cases ez
          · cases ez
      · cases ez
    · exact o1.elim
end
/-- name = [..], the name read within a comprehension: no swap -/
theorem sw_false {elt : Expr} {gs : List Comprehension} {scope : Scope} {pos py : Pos} {y : Str} {l : Nat} {env : Env} (hy : env.scope.names.lookup y = some .cell) : swapsWith (.ListComp elt gs scope pos) (some (.Name y py)) l env = pure false := by
  have ky : env.kindOf y = some .cell := hy
  have kn : (some NameKind.cell == some NameKind.local) = false := by rfl
  unfold swapsWith
  simp only [ky, kn, Bool.and_false, Bool.false_and]
/-! ### steps -/
section
variable {sl : List SV} {cs c : List CO} {i j n : Nat} {x y : Int} {ds : List D} {ns : List Int} {z S : Str} {ys : List Str} {kvs : List (Key × D)}
theorem x_inI_i : gInI (.int x) (.lst ds) = inIO x (intsOf ds) := rfl
theorem x_inI_s : gInI (.str S) (.str z) = gInX (.str S) (.str z) := rfl
theorem x_inI_l : gInI (.str S) (.lst ds) = gInX (.str S) (.lst ds) := rfl
theorem x_inIO : inIO x (some ns) = some (.dat (.bl (decide (x ∈ ns)))) := rfl
theorem x_gShl (h0 : 0 ≤ y) (h1 : y ≤ 1000000) (h2 : x.natAbs < 18446744073709551616) : gShl (.int x) (.int y) = some (.dat (.int (x * 2 ^ y.toNat))) := by show (if (decide (0 ≤ y) && (decide (y ≤ 1000000) && decide (x.natAbs < 2 ^ 64))) = true then _ else _) = _; rw [decide_eq_true h0, decide_eq_true h1, decide_eq_true (show x.natAbs < 2 ^ 64 from h2)]; rfl
theorem x_gShr (h0 : 0 ≤ y) : gShr (.int x) (.int y) = some (.dat (.int (x / 2 ^ y.toNat))) := by show (if (decide (0 ≤ y)) = true then _ else _) = _; rw [decide_eq_true h0]; rfl
theorem x_gOdd : gOdd (.int x) (.int 1) = some (.dat (.int (x % 2))) := rfl
theorem x_gJoin : gJoin z (.lst ds) = joinO z (strsOf ds) := rfl
theorem x_joinO (h : (ys.map (·.length)).sum + ys.length * z.length ≤ 16777216) : joinO z (some ys) = some (.dat (.str (Txt.join z ys))) := if_pos h
def dvO (n i j : Nat) (c : List CO) : Option SV → Res (RV × List CO)
  | some (.dat (.dct kvs)) => if (kvs.map (·.1)).Nodup ∧ kvs.length < sizeLine ∧ j < n ∧ i ≠ j then .ok (.new (.lst (kvs.map (·.2))), c) else .bad
  | _ => .bad
theorem x_dvals : dDVals i j sl cs = dvO sl.length i j cs (sl[i]?) := by
  unfold dDVals dvO
  cases sl[i]? with
  | none => rfl
  | some s => cases s with
    | dat d => cases d <;> rfl
    | _ => rfl
theorem x_dvals1 (h1 : (kvs.map (·.1)).Nodup) (h2 : kvs.length < 16777216) (h3 : (decide (j < n) && !decide (i = j)) = true) : dvO n i j c (some (.dat (.dct kvs))) = .ok (.new (.lst (kvs.map (·.2))), c) := if_pos ⟨h1, h2, by have := Bool.and_eq_true_iff.mp h3; exact ⟨of_decide_eq_true this.1, by simpa using this.2⟩⟩
end
end SL

/-! Sxn: for a, b in d.items(): if ..: raise C(d). -/
namespace SL
open PySem PySem.Spec PyProof.Rows L2
/-! ### a lock that an exception releases -/
def lockW (d : Addr) (od : Obj) (u : HO) (W : WX) : WX := fun c x σ H => H d = some (.frz od u) ∧ W c x σ (upd H d u)
theorem takes_lock {X : Cx} {W : WX} {d : Addr} {od : Obj} {u : HO} (tk : Takes X W) (hn : ∀ o' u', X.H_0 d ≠ some (.frz o' u')) : Takes X (lockW d od u W) := by
  rintro v s' ⟨a, B, sI, pins, σ, H, cls, x, e, I, nb, up, sky, na, os, ag, hd, w⟩
  refine tk v s' ⟨a, B, sI, pins, σ, upd H d u, cls, x, e, I.unlock hd hn, nb, up, sky, ?_, os, ag, w⟩
  rw [upd_ne (fun z => by rw [z, hd] at na; cases na)]
  exact na
def tLockX (t : WX → TS) (W : WX) : TS := fun D σ H => ∃ d u, H d = some u ∧ Mut (some u) ∧ ∀ od, t (lockW d od u W) ⟨fun σ' H' => H' d = some (.frz od u) ∧ D.nx σ' (upd H' d u), fun v H' => H' d = some (.frz od u) ∧ D.rt v (upd H' d u), fun σ' H' => H' d = some (.frz od u) ∧ D.bk σ' (upd H' d u), fun σ' H' => H' d = some (.frz od u) ∧ D.ct σ' (upd H' d u)⟩ σ (upd H d (.frz od u))
theorem ps_lockX {X : Cx} {W : WX} {st : Stmt} {t : WX → TS} (tk : Takes X W) (h : ∀ W', Takes X W' → PS X st (t W')) : PS X st (tLockX t W) := by
  refine ⟨fun pins s σ H D I hw => ?_⟩
  obtain ⟨d, u, hd, mu, hw⟩ := hw
  have hn := I.nofrz hd mu
  obtain ⟨od, I1⟩ := I.lock hd mu
  refine thn ((h _ (takes_lock tk hn)).run pins s σ _ _ I1 (hw od)) fun f s1 q => ?_
  cases f with
  | next => obtain ⟨σ', H', I2, e, q⟩ := q; exact ⟨σ', _, I2.unlock e hn, q⟩
  | brk => obtain ⟨σ', H', I2, e, q⟩ := q; exact ⟨σ', _, I2.unlock e hn, q⟩
  | cont => obtain ⟨σ', H', I2, e, q⟩ := q; exact ⟨σ', _, I2.unlock e hn, q⟩
  | ret v => obtain ⟨x, σ', H', I2, r, e, q⟩ := q; exact ⟨x, σ', _, I2.unlock e hn, r, q⟩
/-! ### the loop -/
def kyD : Key → D
  | .inl i => .int i
  | .inr z => .str z
def flatD : D → Bool
  | .non => true
  | .bl _ => true
  | .int _ => true
  | .str _ => true
  | _ => false
theorem kyD_den {F : Fz} (k : Key) : Den F (kV k) (kyD k) := by cases k with
  | inl i => exact .int i
  | inr z => exact .str z
theorem flatD_den {F F' : Fz} {v : V} {d : D} (h : Den F v d) (f : flatD d = true) : Den F' v d := by
  cases h with
  | non => exact .non
  | bl b => exact .bl b
  | int i => exact .int i
  | str z => exact .str z
  | _ => exact absurd (show false = true from f) Bool.false_ne_true
def blank (n a b : Nat) (x y : D) : List SV := ((List.replicate n SV.un).set a (.dat x)).set b (.dat y)
def itemsF (ft : FT) (n a b : Nat) : List (Key × D) → Option Bool
  | [] => some false
  | (k, v) :: r => if flatD v = true then match ft (blank n a b (kyD k) v) [] with
      | .ok (true, []) => some true
      | .ok (false, []) => itemsF ft n a b r
      | _ => none
    else none
def dctOfO : Option D → Option (List (Key × D))
  | some (.dct kvs) => some kvs
  | _ => none
def itemsX (c : Nat) (f : Str) (d : D) (sl : List SV) (cs : List CO) : Option Bool → Flw
  | some true => .exc c [(f, d)] sl cs
  | some false => .nx sl cs
  | none => .bad
def itemsO (i a b : Nat) (ft : FT) (c : Nat) (f : Str) (sl : List SV) (cs : List CO) : Option SV → Flw
  | some (.dat d) => match dctOfO (d.vw cs) with
    | some kvs => if (decide (a < sl.length) && (decide (b < sl.length) && (!decide (a = i) && (!decide (b = i) && !decide (a = b))))) = true then itemsX c f d ((sl.set a .un).set b .un) cs (itemsF ft sl.length a b kvs) else .bad
    | none => .bad
  | _ => .bad
def dItems (i a b : Nat) (ft : FT) (c : Nat) (f : Str) : FS := fun sl cs => itemsO i a b ft c f sl cs (sl[i]?)
/-- nothing frozen, no cells -/
def Fz.nil : Fz := ⟨fun _ => none, []⟩
theorem Wok.nil {H : Hp} : Wok Fz.nil H [] := ⟨fun _ _ h => (by cases h), rfl, fun _ _ _ h => (by cases h), fun _ _ _ h => (by cases h)⟩
theorem Rel.blank {K : PySem.W.Frag} {H : Hp} {σ : L2.St} {n a b : Nat} {x y : D} {u v : V} (hl : σ.length = n) (ha : a < n) (hb : b < n) (hab : a ≠ b) (ea : σ[a]? = some (some u)) (eb : σ[b]? = some (some v)) (hx : Den Fz.nil u x) (hy : Den Fz.nil v y) : Rel K Fz.nil H Fz.nil H (SL.blank n a b x y) [] σ where
  w := .nil
  fr := .refl
  len := by rw [hl]; simp [SL.blank]
  at_ := fun j sv e => by
    unfold SL.blank at e
    by_cases h1 : j = b
    · subst h1
      rw [List.getElem?_set_self (by simpa using hb)] at e
      cases e
      exact ⟨v, eb, hy⟩
    · rw [List.getElem?_set_ne (Ne.symm h1)] at e
      by_cases h2 : j = a
      · subst h2
        rw [List.getElem?_set_self (by simpa using ha)] at e
        cases e
        exact ⟨u, ea, hx⟩
      · rw [List.getElem?_set_ne (Ne.symm h2)] at e
        rw [List.getElem?_replicate] at e
        split at e
        · cases e; trivial
        · cases e
  ds := fun j j' c d p e _ _ _ => by
    exfalso
    unfold SL.blank at e
    by_cases h1 : j = b
    · subst h1
      rw [List.getElem?_set_self (by simpa using hb)] at e
      cases e
    · rw [List.getElem?_set_ne (Ne.symm h1)] at e
      by_cases h2 : j = a
      · subst h2
        rw [List.getElem?_set_self (by simpa using ha)] at e
        cases e
      · rw [List.getElem?_set_ne (Ne.symm h2)] at e
        rw [List.getElem?_replicate] at e
        split at e <;> cases e
theorem Rel.unset2 {K : PySem.W.Frag} {F0 F : Fz} {H0 H : Hp} {sl : List SV} {cs : List CO} {σ σ' : L2.St} {a b : Nat} (R : Rel K F0 H0 F H sl cs σ) (hl : σ'.length = σ.length) (h : ∀ j, j ≠ a → j ≠ b → σ'[j]? = σ[j]?) : Rel K F0 H0 F H ((sl.set a .un).set b .un) cs σ' := by
  have get : ∀ (j : Nat) (sv : SV), ((sl.set a .un).set b .un)[j]? = some sv → sv = .un ∨ (sl[j]? = some sv ∧ j ≠ a ∧ j ≠ b) := fun j sv e => by
    by_cases h1 : j = b
    · subst h1
      by_cases hb : j < (sl.set a SV.un).length
      · rw [List.getElem?_set_self hb] at e; cases e; exact .inl rfl
      · rw [List.getElem?_eq_none (by rw [List.length_set]; omega)] at e; cases e
    · rw [List.getElem?_set_ne (Ne.symm h1)] at e
      by_cases h2 : j = a
      · subst h2
        by_cases ha : j < sl.length
        · rw [List.getElem?_set_self ha] at e; cases e; exact .inl rfl
        · rw [List.getElem?_eq_none (by rw [List.length_set]; omega)] at e; cases e
      · rw [List.getElem?_set_ne (Ne.symm h2)] at e
        exact .inr ⟨e, h2, h1⟩
  refine ⟨R.w, R.fr, by rw [hl, R.len]; simp, fun j sv e => ?_, fun j j' c d p e1 e2 e3 e4 => ?_⟩
  · rcases get j sv e with rfl | ⟨e1, h1, h2⟩
    · trivial
    · rw [h j h1 h2]; exact R.at_ j sv e1
  · rcases get j _ e1 with z | ⟨f1, h1, h2⟩
    · cases z
    · rcases get j' _ e2 with z | ⟨f2, h3, h4⟩
      · cases z
      · rw [h j h1 h2] at e3
        rw [h j' h3 h4] at e4
        exact R.ds j j' c d p f1 f2 e3 e4
/-- a heap that holds more -/
theorem Rel.more {K : PySem.W.Frag} {F0 F : Fz} {H0 H H' : Hp} {sl : List SV} {cs : List CO} {σ : L2.St} (R : Rel K F0 H0 F H sl cs σ) (h : ∀ b o, H b = some o → H' b = some o) : Rel K F0 H0 F H' sl cs σ :=
  R.step ⟨.refl _, fun _ h => .inl h, fun _ _ h => .inl h, fun b o e _ => h b o e⟩ ⟨fun a o e => h a o (R.w.ex a o e), R.w.len, R.w.nd, fun i p c h1 h2 => by
    obtain ⟨a1, o, b1, d1⟩ := R.w.at_ i p c h1 h2
    exact ⟨a1, o, h _ _ b1, d1⟩⟩
theorem DenKv.at {F : Fz} : ∀ {xs : List (Key × V)} {ds : List (Key × D)} {n : Nat} {k : Key} {v : V}, DenKv F xs ds → xs[n]? = some (k, v) → ∃ d, ds[n]? = some (k, d) ∧ Den F v d
  | _, _, n, k, v, .nil, h => by simp at h
  | _, _, 0, k, v, .cons a r, h => by
    simp only [List.getElem?_cons_zero, Option.some.injEq, Prod.mk.injEq] at h
    obtain ⟨rfl, rfl⟩ := h
    exact ⟨_, rfl, a⟩
  | _, _, n + 1, k, v, .cons a r, h => by
    obtain ⟨d, e, dn⟩ := DenKv.at r (n := n) (by simpa using h)
    exact ⟨d, by simpa using e, dn⟩
theorem DenKv.len {F : Fz} : ∀ {xs : List (Key × V)} {ds : List (Key × D)}, DenKv F xs ds → xs.length = ds.length
  | _, _, .nil => rfl
  | _, _, .cons a r => by rw [List.length_cons, List.length_cons, DenKv.len r]
theorem ds_items {X : Cx} {W : WX} {i a b c kk : Nat} {f x nm : Str} {T : Expr} {elts : List Expr} {ft : FT} {q1 q2 tpos apos cpos p p2 rpos ipos fpos : Pos}
    (hc : X.calm = true) (tk : Takes X W) (own : PassesOwn (model X.prog X.w) X.A X.env X.xe) (E : Err1 X.prog X.w X.K X.mg X.base c f) (hx : clsNm c = x) (hgl : Gl X x) (hr : Room 2 X.A) (hp : Passes (L2.CX X.prog X.w) X (fun _ _ _ => False))
    (p1 : PE X (.Name nm q1) (tVar i)) (p3 : PE X (.Name nm q2) (tVar i)) (hg : PG X (.Tuple elts kk tpos) (gTup X.K 2 (gAll [a, b]))) (hT : ∀ W', Takes X W' → DT X W' T ft)
    (hbase : attributeBase (.Name nm q1) "items" X.env (eval (.Name nm q1) X.env) = eval (.Name nm q1) X.env := by rfl) (hline : (apos.endLine == cpos.line) = true := by rfl)
    (hs : ∀ x, foldedSetIterable (.Call (.Attribute (.Name nm q1) "items" apos) [] [] cpos) X.env x = pure x := by intro _; rfl)
    (hdb : (x == ("__debug__" : Str)) = false := by decide) (he : starEach [.Name nm q2] X.env = (false, eval (.Name nm q2) X.env) :: starEach [] X.env := by rfl) (hpl : (backTo p2 (starEach [] X.env)).any (·.1) = false := by rfl) :
    DS X W (.For (.Tuple elts kk tpos) (.Call (.Attribute (.Name nm q1) "items" apos) [] [] cpos) [.If T [.Raise (some (.Call (.Name x p) [.Name nm q2] [] p2)) none rpos] [] ipos] [] fpos) (dItems i a b ft c f) := by
  subst hx
  obtain ⟨fd, ps, Fk, B⟩ := E.ok
  refine PS.imp (ps_lockX tk fun W' tk' => ps_for own hc (pi_items p1 hbase hline) hg (pss_one (ps_if (hT W' tk') (pss_one (ps_raise hc tk' (pmk_oex E.oex E.init E.fn Fk hr B .nil hp hgl E.glob (pa_cons p3 pa_nil he) hdb he hpl))) pss_nil)) hs) fun D σ H q => ?_
  obtain ⟨F0, H0, F, sl, cs, R, o⟩ := q
  unfold dItems at o
  cases es : sl[i]? with
  | none => rw [es] at o; exact o.elim
  | some sv =>
    rw [es] at o
    cases sv with
    | dat d =>
      unfold itemsO at o
      dsimp only at o
      split at o
      · rename_i kvs ek
        split at o
        · rename_i hcond
          obtain ⟨ha, h1⟩ := Bool.and_eq_true_iff.mp hcond
          obtain ⟨hb, h1⟩ := Bool.and_eq_true_iff.mp h1
          obtain ⟨hai, h1⟩ := Bool.and_eq_true_iff.mp h1
          obtain ⟨hbi, hab⟩ := Bool.and_eq_true_iff.mp h1
          have ha := of_decide_eq_true ha
          have hb := of_decide_eq_true hb
          have hai : a ≠ i := by simpa using hai
          have hbi : b ≠ i := by simpa using hbi
          have hab : a ≠ b := by simpa using hab
          obtain ⟨v, ev, dn⟩ := R.at_ i _ es
          have evw : d.vw cs = some (.dct kvs) := by
            unfold dctOfO at ek
            split at ek
            · rename_i k2 e2; cases ek; exact e2
            · cases ek
          obtain ⟨dd, xs, rfl, hd, dk⟩ := (dn.vw R.w evw).dct R.w.ex
          have hlen := dk.len
          refine ⟨dd, .dK xs, hd, trivial, fun od => ⟨.ref dd, ev, dd, od, xs, rfl, upd_same, ?_⟩⟩
          refine ⟨fun n m σ' H' => m = xs.length - n ∧ n ≤ xs.length ∧ σ'.length = σ.length ∧ (∀ j, j ≠ a → j ≠ b → σ'[j]? = σ[j]?) ∧ (∀ q w, upd H dd (.frz od (.dK xs)) q = some w → H' q = some w) ∧ OutS X.K W F0 H0 D (itemsX c f d ((sl.set a .un).set b .un) cs (itemsF ft sl.length a b (kvs.drop n))), ⟨xs.length, by simp, Nat.zero_le _, rfl, fun _ _ _ => rfl, fun _ _ h => h, by rw [List.drop_zero]; exact o⟩, ?_⟩
          rintro n m σ' Hx ⟨rfl, hn, hl, hσ, hH, o⟩
          have at_d : Hx dd = some (.frz od (.dK xs)) := hH dd _ upd_same
          have back : ∀ H3 : Hp, (∀ q w, upd H dd (.frz od (.dK xs)) q = some w → H3 q = some w) → ∀ q w, H q = some w → upd H3 dd (.dK xs) q = some w := fun H3 h3 q w hq => by
            by_cases z : q = dd
            · subst z; rw [upd_same]; rw [hd] at hq; exact hq
            · rw [upd_ne z]; exact h3 q w (by rw [upd_ne z]; exact hq)
          by_cases h : n < xs.length
          · refine .inr ⟨⟨at_d, h⟩, fun σ2 H2 => n + 1 ≤ xs.length ∧ σ2.length = σ.length ∧ (∀ j, j ≠ a → j ≠ b → σ2[j]? = σ[j]?) ∧ (∀ q w, upd H dd (.frz od (.dK xs)) q = some w → H2 q = some w) ∧ OutS X.K W F0 H0 D (itemsX c f d ((sl.set a .un).set b .un) cs (itemsF ft sl.length a b (kvs.drop (n + 1)))), fun σ2 H2 w => ⟨xs.length - (n + 1), by omega, rfl, w⟩, ?_⟩
            rintro x H' ⟨T, k, v, hk, rfl, hTn, rfl⟩
            obtain ⟨vd, hvd, dv⟩ := dk.at hk
            have hdrop : kvs.drop n = (k, vd) :: kvs.drop (n + 1) := by
              have hn2 : n < kvs.length := by omega
              rw [List.drop_eq_getElem_cons hn2]
              rw [List.getElem?_eq_getElem hn2] at hvd
              rw [Option.some.inj hvd]
            rw [hdrop] at o
            unfold itemsF at o
            split at o
            · rename_i hf
              refine ⟨T, [kV k, v], rfl, SqT.of upd_same, rfl, ⟨kV k, [v], rfl, v, [], rfl, rfl, ?_⟩⟩
              have hla : a < σ'.length := by rw [hl, R.len]; exact ha
              have hlb : b < (σ'.set a (some (kV k))).length := by rw [List.length_set, hl, R.len]; exact hb
              have hl2 : ((σ'.set a (some (kV k))).set b (some v)).length = σ.length := by rw [List.length_set, List.length_set, hl]
              have hσ2 : ∀ j, j ≠ a → j ≠ b → ((σ'.set a (some (kV k))).set b (some v))[j]? = σ[j]? := fun j h1 h2 => by
                rw [List.getElem?_set_ne (Ne.symm h2), List.getElem?_set_ne (Ne.symm h1)]; exact hσ j h1 h2
              have hH2 : ∀ q w, upd H dd (.frz od (.dK xs)) q = some w → upd Hx T (.tup [kV k, v]) q = some w := fun q w hq => by
                rw [upd_ne (ne_of_none (hH q w hq) hTn)]; exact hH q w hq
              refine ⟨Fz.nil, _, Fz.nil, blank sl.length a b (kyD k) vd, [], Rel.blank (u := kV k) (v := v) (by rw [hl2, R.len]) ha hb hab (by rw [List.getElem?_set_ne (Ne.symm hab), List.getElem?_set_self hla]) (List.getElem?_set_self hlb) (kyD_den k) (flatD_den dv hf), ?_⟩
              split at o
              · rename_i e3
                rw [e3]
                intro F3 H3 n3 w3
                have hH3 : ∀ q w, upd H dd (.frz od (.dK xs)) q = some w → H3 q = some w := fun q w hq => n3.st q w (hH2 q w hq) (fun z => by cases z)
                show (if true = true then _ else _)
                rw [if_pos rfl]
                refine ⟨.ref dd, by rw [hσ2 i (Ne.symm hai) (Ne.symm hbi)]; exact ev, Nat.le_of_ble_eq_true rfl, fun a' ha' => ⟨a', .ref dd, rfl, E.oex, E.nof, upd_same, fun dx hdx ne => ⟨rfl, dx, [(f, .ref dd)], upd_same, ?_, ?_, ?_⟩⟩⟩
                · rw [upd_ne ne, upd_same]
                · rw [upd_ne ne] at hdx; exact hdx
                · have hd' : H3 dx = none := by rw [upd_ne ne] at hdx; exact hdx
                  have eu : upd (del (upd (upd (upd H3 a' (exo a' (He.ga X.K (clsNm c)) none)) dx (exd dx [(f, .ref dd)])) a' (exo a' (He.ga X.K (clsNm c)) (some dx))) a') dx (.xd [(f, .ref dd)]) = upd H3 dx (.xd [(f, .ref dd)]) := by
                    funext q
                    by_cases hb : q = dx
                    · subst hb; rw [upd_same, upd_same]
                    · rw [upd_ne hb, upd_ne hb]
                      by_cases hba : q = a'
                      · subst hba; rw [del_same, ha']
                      · rw [del_ne hba, upd_ne hba, upd_ne hb, upd_ne hba]
                  rw [eu]
                  have h3d : H3 dd = some (.frz od (.dK xs)) := hH3 dd _ upd_same
                  have hne : dx ≠ dd := fun z => by rw [z, h3d] at hd'; cases hd'
                  refine ⟨by rw [upd_ne (Ne.symm hne)]; exact h3d, ?_⟩
                  have Rf : Rel X.K F0 H0 F (upd (upd H3 dx (.xd [(f, .ref dd)])) dd (.dK xs)) ((sl.set a .un).set b .un) cs ((σ'.set a (some (kV k))).set b (some v)) := (R.unset2 hl2 hσ2).more (back _ fun q w hq => by
                    rw [upd_ne (ne_of_none (hH3 q w hq) hd')]; exact hH3 q w hq)
                  exact o _ F _ dx [(f, .ref dd)] Rf (by rw [upd_ne hne, upd_same]) (.cons dn .nil)
              · rename_i e3
                rw [e3]
                intro F3 H3 n3 w3
                have hH3 : ∀ q w, upd H dd (.frz od (.dK xs)) q = some w → H3 q = some w := fun q w hq => n3.st q w (hH2 q w hq) (fun z => by cases z)
                show (if false = true then _ else _)
                rw [if_neg Bool.false_ne_true]
                exact ⟨by omega, hl2, hσ2, hH3, o⟩
              · exact o.elim
            · exact o.elim
          · have en : n = xs.length := by omega
            have hz : kvs.drop n = [] := List.drop_eq_nil_of_le (by omega)
            rw [hz] at o
            refine .inl ⟨⟨at_d, by omega⟩, at_d, ?_⟩
            exact o _ F _ ((R.unset2 hl hσ).more (back _ hH))
        · exact o.elim
      · exact o.elim
    | _ => exact o.elim
end SL

/-! Sxo: x not in a dict; not in a written dict; n += e; a written dict of a negative number. -/
namespace SL
open PySem PySem.Spec PyProof.Rows L2
/-! ### not in a dict -/
def notKO (kvs : List (Key × D)) : Option Key → Option RV
  | some k => some (.dat (.bl (!kvs.any fun p => decide (p.1 = k))))
  | none => none
def gNotK : G2 := fun a b => match b with
  | .dct kvs => notKO kvs (keyD a)
  | _ => none
theorem valV_some : ∀ {kvs : List (Key × V)} {k : Key}, (valV kvs k).isSome = kvs.any fun p => decide (p.1 = k)
  | [], k => rfl
  | (k0, v0) :: r, k => by
    have ih := valV_some (kvs := r) (k := k)
    unfold valV at ih ⊢
    rw [List.find?_cons, List.any_cons, ← ih]
    by_cases h : k0 = k
    · rw [decide_eq_true (show (k0, v0).1 = k from h)]; rfl
    · rw [decide_eq_false (show ¬ (k0, v0).1 = k from h), Bool.false_or]
theorem DenKv.anyK {F : Fz} {k : Key} : ∀ {xs : List (Key × V)} {ds : List (Key × D)}, DenKv F xs ds → (xs.any fun p => decide (p.1 = k)) = ds.any fun p => decide (p.1 = k)
  | _, _, .nil => rfl
  | _, _, .cons a r => by rw [List.any_cons, List.any_cons, DenKv.anyK r]
section
variable {X : Cx}
theorem op_notK (hu : X.A.units + 1 < cLine) : OpR X (compareOp .NotIn) (fun x y H Q => ∃ a o, y = .ref a ∧ DGet H a x o ∧ Q (.bl (!o.isSome)) H) := by
  intro pins s σ H x y v u Q I rx ry h
  obtain ⟨a, o, rfl, g, q⟩ := h
  obtain rfl : u = Value.ref a := ry
  exact d_notIn hu I g rx fun s3 I3 => ⟨.bl (!o.isSome), H, I3, rfl, q⟩
theorem o_notK (hu : X.A.units + 64 < cLine) : OpD X (compareOp .NotIn) gNotK := OpR.imp (op_notK (by omega)) fun x y H Q ⟨F, cs, a, b, r, w, va, vb, e, k⟩ => by
  unfold gNotK at e
  split at e
  · rename_i kvs
    cases hk : keyD a with
    | none => rw [hk] at e; cases e
    | some key =>
      rw [hk] at e
      cases e
      obtain ⟨p, vs, rfl, hp, dk⟩ := vb.dct w.ex
      have ek : x = kV key := by
        cases a with
        | int i => cases hk; exact va.int
        | str z => cases hk; exact va.str
        | _ => cases hk
      subst ek
      refine ⟨p, _, rfl, DGet.k hp, ?_⟩
      rw [valV_some, dk.anyK]
      exact k.bl w
  · cases e
end
/-! ### not in a written dict -/
def notTO (rows : Row) (c : List CO) : Option D → Res (RV × List CO)
  | some (.str z) => .ok (.dat (.bl (!decide (z ∈ rows.map (·.1)))), c)
  | _ => .bad
def dNotInT (rows : Row) (f : FE) : FE := fun sl cs => (f sl cs).then fun a => notTO rows a.2 (a.1.view a.2)
section
variable {X : Cx} {W : WX} {x : Str} {rows : Row} {e : Expr} {f : FE} {p1 pos : Pos}
theorem notInT_run {σ : L2.St} {H : Hp} {Q : VK} (T : TabF X.K X.w X.mg x rows) {es : List (Str × Value)} (q : rdE X.K W (dNotInT rows f) σ H Q) : rdE X.K W f σ H fun v H1 => ∃ (z : Str) (r : Option Value), v = .str z ∧ PySem.W.nsIn X.K (He.ga X.K x) z = some r ∧ Q (.bl (!r.isSome)) H1 := by
  obtain ⟨F0, H0, F, sl, cs, R, o⟩ := q
  refine OutE.then_run R o fun r c v F1 H1 e1 n1 w1 k1 fv R1 o1 => ?_
  dsimp only at o1
  cases ev : r.view c with
  | none => rw [ev] at o1; exact o1.elim
  | some d =>
    rw [ev] at o1
    cases d with
    | str z =>
      have vw := (k1.vw w1 ev).str
      subst vw
      obtain ⟨rr, a1, a2⟩ := T.ns z
      refine ⟨z, rr, rfl, a1, ?_⟩
      rw [a2]
      exact o1 _ F1 H1 .refl w1 (.bl _) trivial
    | _ => exact o1.elim
theorem rdE.imp {σ : L2.St} {H : Hp} {Q Q' : VK} (q : rdE X.K W f σ H Q) (h : ∀ v H1, Q v H1 → Q' v H1) : rdE X.K W f σ H Q' := by
  obtain ⟨F0, H0, F, sl, cs, R, o⟩ := q
  refine ⟨F0, H0, F, sl, cs, R, ?_⟩
  cases e : f sl cs with
  | ok a => obtain ⟨r, c⟩ := a; rw [e] at o; exact fun v F' H' n w k fv => h _ _ (o v F' H' n w k fv)
  | exc C fs c => rw [e] at o; exact o
  | bad => rw [e] at o; exact o.elim
theorem de_notInT (T : TabF X.K X.w X.mg x rows) (hg : Gl X x) (h : DE X W e f) (hd : (x == ("__debug__" : Str)) = false := by decide) : DE X W (.Compare e [.NotIn] [.Name x p1] pos) (dNotInT rows f) := by
  obtain ⟨es, n, kd⟩ := T.kd
  refine PE.imp (pe_cmpR (op_notIn_kd kd) h (pe_glob (v := .ref (He.ga X.K x)) hg T.at_ rfl hd) (by rfl)) fun σ H Q q => ?_
  exact rdE.imp (notInT_run T (es := []) q) fun v H1 ⟨z, r, a, b, c⟩ => ⟨z, r, a, rfl, b, c⟩
theorem dt_notInT (T : TabF X.K X.w X.mg x rows) (hg : Gl X x) (h : DE X W e f) (hd : (x == ("__debug__" : Str)) = false := by decide) : DT X W (.Compare e [.NotIn] [.Name x p1] pos) (toT (dNotInT rows f)) := by
  obtain ⟨es, n, kd⟩ := T.kd
  refine PT.imp (pt_cmpR (op_notIn_kd kd) h (pe_glob (v := .ref (He.ga X.K x)) hg T.at_ rfl hd) (by rfl)) fun σ H Q q => ?_
  exact rdE.imp (notInT_run T (es := []) (toT_run q)) fun v H1 ⟨z, r, a, b, c⟩ => ⟨z, r, a, rfl, b, c⟩
end
/-! ### n += e, whole numbers -/
def augO (i : Nat) (x : Int) (sl : List SV) (c : List CO) : Option D → Flw
  | some (.int y) => .nx (sl.set i (.dat (.int (x + y)))) c
  | _ => .bad
def augS (i : Nat) (fe : FE) (sl : List SV) (cs : List CO) : Option SV → Flw
  | some (.dat (.int x)) => Res.toF sl (fe sl cs) fun a => augO i x sl a.2 (a.1.view a.2)
  | _ => .bad
def dAug (i : Nat) (fe : FE) : FS := fun sl cs => augS i fe sl cs (sl[i]?)
def tiAdd : TIp := rI0 fun i j => .int (i + j)
theorem pip_add {X : Cx} : PIp X .Add tiAdd := fun pins s σ H x y v u Q I rx ry q => iop_add pins s σ H x y v u Q I rx ry q
theorem ds_aug {X : Cx} {W : WX} {st : Stmt} {i : Nat} {fe : FE} (h : PS X st (tAug i (rdE X.K W fe) tiAdd)) : DS X W st (dAug i fe) := PS.imp h fun D σ H q => by
  obtain ⟨F0, H0, F, sl, cs, R, o⟩ := q
  unfold dAug at o
  cases es : sl[i]? with
  | none => rw [es] at o; exact o.elim
  | some sv =>
    rw [es] at o
    unfold augS at o
    split at o
    · rename_i x ex
      cases ex
      obtain ⟨v, ev, dn⟩ := R.at_ i _ es
      cases dn
      refine ⟨.int x, ev, ?_⟩
      refine OutS.run_E R o fun r c v F' H' e n w k fv R' o' => ?_
      dsimp only at o'
      cases ew : r.view c with
      | none => rw [ew] at o'; exact o'.elim
      | some d =>
        rw [ew] at o'
        cases d with
        | int y =>
          have vy := (k.vw w ew).int
          subst vy
          refine ⟨x, y, rfl, rfl, ?_⟩
          have z : SL.setS i (.dat (.int (x + y))) sl = some (sl.set i (.dat (.int (x + y)))) := by
            have hi := (List.getElem?_eq_some_iff.mp es).1
            unfold SL.setS
            rw [if_pos hi]
          exact o' _ F' H' (Rel.setS (r := .dat (.int (x + y))) (Hb := H) R' (show Den F' _ _ from .int (x + y)) (fun c ec p ep => by cases ec) z)
        | _ => exact o'.elim
    · exact o.elim
/-! ### a constant with a sign -/
theorem pe_negC {X : Cx} {i : Int} {j : Nat} {p1 pos : Pos} : PE X (.UnaryOp .USub (.Constant (.int i) j p1) pos) (tC (.int (-i))) := PE.imp (pe_un un_neg pe_int) fun σ H Q q => ⟨i, rfl, q⟩
/-! ### steps -/
section
variable {fa : FE} {sl : List SV} {cs c : List CO} {r : RV} {i : Nat} {x y : Int} {z : Str} {kvs : List (Key × D)} {k : Key} {rows : Row} {a : D}
theorem x_notK : gNotK a (.dct kvs) = notKO kvs (keyD a) := rfl
theorem x_notKO : notKO kvs (some k) = some (.dat (.bl (!kvs.any fun p => decide (p.1 = k)))) := rfl
def kNotT (rows : Row) : RV × List CO → Res (RV × List CO) := fun a => notTO rows a.2 (a.1.view a.2)
theorem x_notT : dNotInT rows fa sl cs = (fa sl cs).then (kNotT rows) := rfl
theorem x_notT1 : kNotT rows (r, c) = notTO rows c (r.view c) := rfl
theorem x_notTO : notTO rows c (some (.str z)) = .ok (.dat (.bl (!decide (z ∈ rows.map (·.1)))), c) := rfl
def kAug (i : Nat) (x : Int) (sl : List SV) : RV × List CO → Flw := fun a => augO i x sl a.2 (a.1.view a.2)
theorem x_aug : dAug i fa sl cs = augS i fa sl cs (sl[i]?) := rfl
theorem x_aug1 : augS i fa sl cs (some (.dat (.int x))) = Res.toF sl (fa sl cs) (kAug i x sl) := rfl
theorem x_aug2 : kAug i x sl (r, c) = augO i x sl c (r.view c) := rfl
theorem x_augO : augO i x sl c (some (.int y)) = .nx (sl.set i (.dat (.int (x + y)))) c := rfl
end
end SL

/-! Sxp: all(xs[at] == xs[at - k] for at in range(k, len(xs))), xs and k names of the def. -/
namespace SL
open PySem PySem.Spec PyProof.Rows L2 GxR
/-- the texts at the place lo + j and k places ahead of it are alike -/
def alikeAt (zs : List Str) (lo k : Int) (j : Nat) : Bool := match zs[(lo + j).toNat]?, zs[(lo + j - k).toNat]? with
  | some a, some b => a.cps.toList == b.cps.toList
  | _, _ => false
section
variable {prog : Program} {w : World} {A : Around} {E : Value → Shared → Prop} {s : Shared} {cenv : Env} {x L K : Str} {m : Str → Option Value} {p1 p2 p3 p4 p5 p6 p7 p8 p9 : Pos} {al cL cK : Addr} {items : Array Value} {i k : Int} {t tk u1 u2 : Tok} {z1 z2 : Str}
theorem ev_free {v : Value} {Q : Value → Shared → Prop} (hk : cenv.scope.kind = .function) (hl : cenv.scope.names.lookup L = some .free) (hc : cenv.cells.lookup L = some cL) (hv : s.heap.IsCell cL (some v)) (hn : (L == ("__classdict__" : Str)) = false) (hd : (L == ("__debug__" : Str)) = false) (h : Q v s) :
    wpAny (model prog w) A (eval (.Name L p1) cenv) Q E s :=
  wpAny_Name (wpAny_loadName_free hk hl hc hv h hn) hd
theorem ev_loc {v : Value} {Q : Value → Shared → Prop} (hk : cenv.scope.kind = .function) (hl : cenv.scope.names.lookup x = some .local) (hn : s.heap.Ns cenv.locals m) (hm : m x = some v) (hd : (x == ("__debug__" : Str)) = false) (h : Q v s) :
    wpAny (model prog w) A (eval (.Name x p1) cenv) Q E s :=
  wpAny_Name (wpAny_loadName_local hk hl hn hm h) hd
theorem elt_pair (hkind : cenv.scope.kind = .function) (hx : cenv.scope.names.lookup x = some .local) (hn : s.heap.Ns cenv.locals m) (hm : m x = some (.int i t))
    (hL : cenv.scope.names.lookup L = some .free) (eL : cenv.cells.lookup L = some cL) (vL : s.heap.IsCell cL (some (.ref al))) (hK : cenv.scope.names.lookup K = some .free) (eK : cenv.cells.lookup K = some cK) (vK : s.heap.IsCell cK (some (.int k tk)))
    (hl : s.heap.IsList al items) (h0 : 0 ≤ i) (h1 : i < 2 ^ 62) (hk0 : 0 ≤ k) (hik : 0 ≤ i - k) (i1 : items[i.toNat]? = some (.str z1 u1)) (i2 : items[(i - k).toNat]? = some (.str z2 u2))
    (hdx : (x == ("__debug__" : Str)) = false) (hdL : (L == ("__debug__" : Str)) = false) (hdK : (K == ("__debug__" : Str)) = false) (hcL : (L == ("__classdict__" : Str)) = false) (hcK : (K == ("__classdict__" : Str)) = false) :
    wpAny (model prog w) A (eval (.Compare (.Subscript (.Name L p1) (.Name x p2) p3) [.Eq] [.Subscript (.Name L p4) (.BinOp (.Name x p5) .Sub (.Name K p6) p7) p8] p9) cenv) (fun y s3 => y = .bool (z1.cps.toList == z2.cps.toList) ∧ Keeps s s3) E s := by
  refine wpAny_Compare1 ?_ (by rfl)
  refine wpAny_Subscript_Name F.slot_list_getitem.lookup (ev_free hkind hL eL vL hcL hdL (ev_loc hkind hx hn hm hdx ⟨hl.typeIs, wpAny_getItem_list hl h0 (by omega) i1 ?_⟩))
  refine wpAny_Subscript_BinOp_late (ev_free hkind hL eL vL hcL hdL ?_)
  refine wpAny_BinOp (ev_loc hkind hx hn hm hdx (ev_free hkind hK eK vK hcK hdK (PyProof.Rows.sub_int ?_)))
  refine ⟨"list", _, F.slot_list_getitem.lookup, hl.typeIs, wpAny_getItem_list hl hik (by omega) i2 ?_⟩
  exact PySem.P.eq_str ⟨rfl, keeps_tok _ _⟩
end
theorem Walks.rangeB {prog : Program} {w : World} {A : Around} (hh : A.handled = none) (I : Addr) (a c : Int) (n : Nat) :
    Walks prog w A I [I] [I] n (fun i v => i < n ∧ ∃ t, v = .int (a + i * c) t) (fun i h => IsRangeIter h I (a + (i : Nat) * c) ((n : Int) - (i : Nat)) c) where
  sub := (Walks.range (prog := prog) (w := w) hh I a c n).sub
  frame := (Walks.range (prog := prog) (w := w) hh I a c n).frame
  item := fun i s Q E hi st hQ => (Walks.range (prog := prog) (w := w) hh I a c n).item i s Q E hi st fun v h' tk hv => hQ v h' tk ⟨hi, hv⟩
  done := (Walks.range (prog := prog) (w := w) hh I a c n).done
  self := (Walks.range (prog := prog) (w := w) hh I a c n).self
/-- what is asked of the names: of the generator's scope sc in the def's scope esc -/
def allPB (sc esc : Scope) (x L K : Str) : Bool :=
  decide (sc.kind = .function) && (!sc.isCoroutine && ((sc.names.all fun y => decide (y.2 ≠ .cell) && (!decide (y.2 = .free) || decide (esc.names.lookup y.1 = some .cell))) && (decide (sc.names.lookup (".0" : Str) = some .local) && (decide (sc.names.lookup x = some .local) &&
    (decide (esc.names.lookup L = some .cell) && (decide (esc.names.lookup K = some .cell) && (decide ((L, NameKind.free) ∈ sc.names) && (decide ((K, NameKind.free) ∈ sc.names) && (decide (sc.names.lookup L = some .free) && (decide (sc.names.lookup K = some .free) &&
    (!(x == ("__debug__" : Str)) && (!(L == ("__debug__" : Str)) && (!(K == ("__debug__" : Str)) && (!(L == ("__classdict__" : Str)) && !(K == ("__classdict__" : Str))))))))))))))))
structure AllP (X : Cx) (sc : Scope) (x L K : Str) : Prop where
  kind : sc.kind = .function
  co : sc.isCoroutine = false
  cell : ∀ y ∈ sc.names, y.2 ≠ .cell
  fr : ∀ y ∈ sc.names, y.2 = .free → X.env.kindOf y.1 = some .cell
  dot : sc.names.lookup (".0" : Str) = some NameKind.local
  loc : sc.names.lookup x = some .local
  kL : X.env.kindOf L = some .cell
  kK : X.env.kindOf K = some .cell
  fL : (L, NameKind.free) ∈ sc.names
  fK : (K, NameKind.free) ∈ sc.names
  lL : sc.names.lookup L = some .free
  lK : sc.names.lookup K = some .free
  hdx : (x == ("__debug__" : Str)) = false
  hdL : (L == ("__debug__" : Str)) = false
  hdK : (K == ("__debug__" : Str)) = false
  hcL : (L == ("__classdict__" : Str)) = false
  hcK : (K == ("__classdict__" : Str)) = false
theorem allP_by {X : Cx} {sc : Scope} {x L K : Str} (h : allPB sc X.env.scope x L K = true) : AllP X sc x L K := by
  unfold allPB at h
  simp only [Bool.and_eq_true, decide_eq_true_eq, Bool.not_eq_true', List.all_eq_true, Bool.or_eq_true, decide_eq_false_iff_not] at h
  obtain ⟨a1, a2, a3, a4, a5, a6, a7, a8, a9, a10, a11, a12, a13, a14, a15, a16⟩ := h
  exact ⟨a1, a2, fun y hy => (a3 y hy).1, fun y hy e => ((a3 y hy).2).resolve_left fun n => n e, a4, a5, a6, a7, a8, a9, a10, a11, a12, a13, a14, a15, a16⟩
theorem AllP.gen {X : Cx} {sc : Scope} {x L K : Str} (h : AllP X sc x L K) (o : X.Ok) : GenS X.env sc x := ⟨h.kind, h.co, h.cell, h.dot, h.loc, fun y hy e => o.has _ (.inl (h.fr y hy e))⟩
/-- are all texts from place k on like those k places ahead -/
def allEq (zs : List Str) (k : Int) : Bool := (List.range ((zs.length : Int) - k).toNat).all (alikeAt zs k k)
section
variable {X : Cx} {pins : List (Addr × Obj)} {σ : L2.St} {H : Hp} {s : Shared}
/-- the generator, made: it walks the places -/
def ReadyR (X : Cx) (pins : List (Addr × Obj)) (σ : L2.St) (H1 : Hp) (P : Addr) (n : Nat) (tr : Nat → Bool) (g : Addr) (s5 : Shared) : Prop :=
  ∃ (fp wr : List Addr) (G : Array GenState → Array GenState → Prop) (F : Nat → Value → Prop) (St : Nat → Shared → Prop),
    WalksS X.prog X.w X.A.in1 g fp wr G n F St ∧ St 0 s5 ∧ TruthOf X.prog X.w X.A.in1 F tr ∧
    ∀ s', Moved wr G s5 s' → ∃ H2, Tabbed P H1 H2 ∧ Inv X pins σ H2 s'
theorem cell_of {i : Nat} {x : Str} {v : V} (I : Inv X pins σ H s) (hN : X.N[i]? = some x) (hσ : σ[i]? = some (some v)) (hk : X.env.kindOf x = some .cell) : ∃ u c, RelV v u ∧ X.env.cells.lookup x = some c ∧ s.heap.IsCell c (some u) := by
  obtain ⟨m, hn, hl⟩ := I.loc
  obtain ⟨u, r, l⟩ := hl i x v hN hσ (.inr (.inl hk))
  rcases l with ⟨l, _⟩ | ⟨_, c, e1, e2⟩
  · rw [hk] at l; cases l
  · exact ⟨u, c, r, e1, e2⟩
theorem all_pairs_run {c P : Addr} {ea eb : Expr} {x L K : Str} {iL iK : Nat} {px gpos rp rpos p1 p2 p3 p4 p5 p6 p7 p8 p9 : Pos} {scope : Scope} {ta : TA} {k : Nat} {Q : VK}
    (hr : Room k X.A) (TB : TabB X.base X.mg c P) (hcode : X.env.code = .ref c) (hS : AllP X scope x L K) (hgr : Gl X "range") (hmr : X.mg "range" = none) (hi : PA X [ea, eb] ta)
    (hNL : X.N[iL]? = some L)
    (hNK : X.N[iK]? = some K)
    (hs : ∀ v, genFold (.Call (.Name "range" rp) [ea, eb] [] rpos) X.env v = pure v)
    (hs2 : starEach [ea, eb] X.env = [(false, eval ea X.env), (false, eval eb X.env)]) (hs3 : starEach [eb] X.env = [(false, eval eb X.env)]) (I : Inv X pins σ H s)
    (h : ta σ H fun vs H1 => ∃ (al : Addr) (zs : List Str) (kk : Int), vs = [.int kk, .int (zs.length : Nat)] ∧ σ[iL]? = some (some (.ref al)) ∧ σ[iK]? = some (some (.int kk)) ∧ H1 al = some (.lst (zs.map V.str)) ∧ 0 ≤ kk ∧ kk < 2 ^ 62 ∧ TabG H1 P ∧ ∀ H2, Tabbed P H1 H2 → Q (.bl (allEq zs kk)) H2)
    {Q' : Value → Shared → Prop} (hQ : ∀ n tr H1 g s5, (∀ H2, Tabbed P H1 H2 → Q (.bl ((List.range n).all tr)) H2) → ReadyR X pins σ H1 P n tr g s5 → Q' (.ref g) s5) :
    wpAny (model X.prog X.w) X.A (eval (.GeneratorExp (.Compare (.Subscript (.Name L p1) (.Name x p2) p3) [.Eq] [.Subscript (.Name L p4) (.BinOp (.Name x p5) .Sub (.Name K p6) p7) p8] p9) [⟨.Name x px, .Call (.Name "range" rp) [ea, eb] [] rpos, [], 0⟩] scope gpos) X.env) Q' X.xe s := by
  have S := hS.gen I.ok
  obtain ⟨_, _, _, _, _, _, kL, kK, fL, fK, lL, lK, hdx, hdL, hdK, hcL, hcK⟩ := hS
  apply wpAny_GeneratorExp_walksQ hr.hd S.co (closure_ok S.free) S.cell S.dot S.loc S.kind (by have := hr.dp; omega) _ hs
  refine Call_ (ld_blt I hgr hmr boot_range (PyProof.Rows.callWith_type1 (thn (hi.run rpos pins s σ H _ I h) fun us s1 ⟨vs, H1, I1, r1, q1⟩ => ?_) (by rw [hs2, hs3]) (by rw [hs3]; rfl)))
  obtain ⟨al, zs, kk, rfl, hσL, hσK, hal, k0, k1, ⟨ps, hP, ht⟩, q1⟩ := q1
  cases r1 with
  | cons ra rr =>
  cases rr with
  | cons rb rr =>
  cases rr
  obtain ⟨ta1, rfl⟩ := ra
  obtain ⟨tb1, rfl⟩ := rb
  obtain ⟨hzl, its, nl, hvals, hal1⟩ : (zs.map V.str).length ≤ sizeLine ∧ ∃ (its : List Value) (n : Nat), Vals (zs.map V.str) its ∧ s1.heap.get? al = some { cls := .type "list", data := .seq its.toArray n } := I1.hok al _ hal
  rw [List.length_map] at hzl
  have hzl2 : zs.length ≤ 16777216 := hzl
  obtain ⟨uL, cL, rL, eL, vL⟩ := cell_of I1 hNL hσL kL
  obtain ⟨uK, cK, rK, eK, vK⟩ := cell_of I1 hNK hσK kK
  obtain rfl : uL = .ref al := rL
  obtain ⟨tK, rfl⟩ : ∃ t, uK = .int kk t := rK
  have tab1 : s1.heap.get? P = some { cls := .none, data := .fields ps } := I1.hok P _ hP
  have alP : al ≠ P := by rintro rfl; rw [hal] at hP; cases hP
  have cP : ∀ {c : Addr} {v : Option Value}, s1.heap.IsCell c v → c ≠ P := by
    rintro c v ⟨o, ho, hd⟩ rfl
    rw [tab1] at ho; cases ho; cases hd
  refine call_range_2 ?_
  refine wpAny_pyIter_range (IsRange.new ..) (small_one (by omega) (by omega) (by omega) (by omega)) ?_
  have hn0 : ((((zs.length : Nat) : Int) - kk).toNat : Nat) - ((0 : Nat) : Int) = Builtin.Range.rangeSize kk (zs.length : Nat) 1 := by rw [rangeSize_one]; split <;> omega
  generalize hn : (((zs.length : Nat) : Int) - kk).toNat = n at *
  have szI : ((s1.heap.push { cls := .type "range", data := .fields #[.int kk ta1, .int (zs.length : Nat) tb1, .int 1 s1.toks] }).objs.size) = s1.heap.objs.size + 1 := Heap.size_push ..
  have itI : IsRangeIter ((s1.heap.push { cls := .type "range", data := .fields #[.int kk ta1, .int (zs.length : Nat) tb1, .int 1 s1.toks] }).push { cls := .type "range_iterator", data := .fields #[rawInt kk, rawInt (Builtin.Range.rangeSize kk (zs.length : Nat) 1), rawInt 1] }) (s1.heap.objs.size + 1) (kk + ((0 : Nat) : Int) * 1) ((n : Int) - ((0 : Nat) : Int)) 1 := by
    rw [hn0, ← szI]
    have e1 : kk + ((0 : Nat) : Int) * 1 = kk := by simp
    rw [e1]
    exact Heap.get?_push_size _ rfl
  have keep2 : ∀ b u, s1.heap.get? b = some u → ((s1.heap.push { cls := .type "range", data := .fields #[.int kk ta1, .int (zs.length : Nat) tb1, .int 1 s1.toks] }).push { cls := .type "range_iterator", data := .fields #[rawInt kk, rawInt (Builtin.Range.rangeSize kk (zs.length : Nat) 1), rawInt 1] }).get? b = some u :=
    fun b u e => Heap.get?_push_of_some _ (Heap.get?_push_of_some _ e)
  have lim2 := (I1.nolimit.push { cls := .type "range", data := .fields #[.int kk ta1, .int (zs.length : Nat) tb1, .int 1 s1.toks] }).push { cls := .type "range_iterator", data := .fields #[rawInt kk, rawInt (Builtin.Range.rangeSize kk (zs.length : Nat) 1), rawInt 1] }
  have sz2 : (((s1.heap.push { cls := .type "range", data := .fields #[.int kk ta1, .int (zs.length : Nat) tb1, .int 1 s1.toks] }).push { cls := .type "range_iterator", data := .fields #[rawInt kk, rawInt (Builtin.Range.rangeSize kk (zs.length : Nat) 1), rawInt 1] }).objs.size) = s1.heap.objs.size + 2 := by rw [Heap.size_push, szI]
  dsimp only
  generalize (s1.heap.push { cls := .type "range", data := .fields #[.int kk ta1, .int (zs.length : Nat) tb1, .int 1 s1.toks] }).push { cls := .type "range_iterator", data := .fields #[rawInt kk, rawInt (Builtin.Range.rangeSize kk (zs.length : Nat) 1), rawInt 1] } = h2 at *
  rw [szI]
  have tab2 : h2.get? P = some { cls := .none, data := .fields ps } := keep2 _ _ tab1
  have hcP : cStatics ≠ P := by
    intro e
    obtain ⟨_, ⟨o', es, ep, ho, hd, _⟩, _⟩ := I1.nolimit
    rw [e, tab1] at ho
    cases ho; cases hd
  have hcl : cStatics < s1.heap.objs.size := by obtain ⟨_, z, _⟩ := I1.nolimit; exact z.lt
  have cd : PySem.W.CodeHd h2 c P := TB.code.keeps fun b u e => keep2 _ _ (I1.bk b u e)
  have go : ∀ (code : Value) (h3 : Heap) (tk : Nat) (more : Array Value), Heap.ExtBut P h2 h3 → h2.objs.size ≤ h3.objs.size → h3.get? P = some { cls := .none, data := .fields (ps ++ more) } → TriplesOk (ps ++ more).toList →
      wpAny (model X.prog X.w) X.A (builtinsFor X.env.globals X.env.builtins) (fun bi s₄ =>
        ∃ Ia fp wr n₀ Pf St₀ pz F, Value.ref (s1.heap.objs.size + 1) = .ref Ia ∧ (∀ A' : Around, A'.handled = none → Walks X.prog X.w A' Ia fp wr n₀ Pf St₀) ∧ St₀ 0 s₄.heap ∧ (∀ b ∈ fp, b < s₄.heap.objs.size) ∧ s₄.heap.NoLimit ∧ cStatics ∉ wr ∧
          (∀ href : Heap, (∀ b o, s₄.heap.get? b = some o → href.get? b = some o) →
            QuietGen X.prog X.w (genEnv scope (cloFrom X.env.cells scope.names []) s₄.heap.objs.size code bi X.env) x [] (.Compare (.Subscript (.Name L p1) (.Name x p2) p3) [.Eq] [.Subscript (.Name L p4) (.BinOp (.Name x p5) .Sub (.Name K p6) p7) p8] p9) (List.range s₄.heap.objs.size) wr Pf pz F href) ∧
          (∀ a h₅ tk gs, gs.bare = true → s₄.heap.objs.size < a → h₅.objs.size = a + 1 → (∀ b o, s₄.heap.get? b = some o → h₅.get? b = some o) →
            WalksS X.prog X.w X.A.in4 a (a :: s₄.heap.objs.size :: List.range s₄.heap.objs.size) (s₄.heap.objs.size :: wr) (GenOnlyQ s₄.gens.size) (passing pz n₀ 0).length
              (fun j y => ∃ i, (passing pz n₀ 0)[j]? = some i ∧ F i y) (GenAt X.prog X.w X.A.in4 a s₄.gens.size s₄.heap.objs.size (List.range s₄.heap.objs.size) wr pz n₀ F) →
            GenAt X.prog X.w X.A.in4 a s₄.gens.size s₄.heap.objs.size (List.range s₄.heap.objs.size) wr pz n₀ F 0 { s₄ with gens := s₄.gens.push gs, toks := tk, heap := h₅ } →
            Q' (.ref a) { s₄ with gens := s₄.gens.push gs, toks := tk, heap := h₅ })) X.xe { s1 with heap := h3, toks := tk } := by
    intro code h3 tk more hx hsz hP3 ht3
    obtain ⟨bm, ob, e1, e2, e3, e4, e5, e6, e7, e8⟩ := TB.bm
    have keep3 : ∀ b u, b ≠ P → s1.heap.get? b = some u → h3.get? b = some u := fun b u hb e => hx b u hb (keep2 _ _ e)
    have itP : s1.heap.objs.size + 1 ≠ P := fun e => by
      rw [← e] at tab1
      exact absurd (show s1.heap.objs.size + 1 < s1.heap.objs.size from Heap.lt_size tab1) (by omega)
    have ns3 : h3.Ns X.env.globals X.mg := by
      rw [I1.ok.glob]
      exact (I1.mod.glob.keeps I1.bk).at fun o e => keep3 _ o TB.gP e
    refine wpAny_builtinsFor (m := X.mg) ns3 e1 e2 (keep3 _ _ e4 (I1.bk _ _ e5)) e6 e7 e8 ?_
    refine ⟨s1.heap.objs.size + 1, [s1.heap.objs.size + 1], [s1.heap.objs.size + 1], n, _, _, (fun _ => true), (fun i y => y = .bool (alikeAt zs kk kk i)), rfl, fun A' hA => Walks.rangeB hA (s1.heap.objs.size + 1) kk 1 n, ?_, ?_, lim2.extBut hx hcP, ?_, ?_, ?_⟩
    · exact hx _ _ itP itI
    · intro b hb
      obtain rfl := List.mem_singleton.mp hb
      show s1.heap.objs.size + 1 < h3.objs.size
      omega
    · intro z
      have z := List.mem_singleton.mp z
      rw [z] at hcl
      exact absurd (show s1.heap.objs.size + 1 < s1.heap.objs.size from hcl) (by omega)
    · intro href hhref
      constructor
      · intro A' E' i v s₂ m₂ hA hPv hn hm hk
        simp only [List.forIn_nil]
        exact wpAny_pure ⟨rfl, keeps_refl _⟩
      · intro A' E' i v s₂ m₂ hA hPv hp hn hm hk
        obtain ⟨hin, u, rfl⟩ := hPv
        have keepA : ∀ b u, b ≠ P → s1.heap.get? b = some u → s₂.heap.get? b = some u := fun b u hb e => by
          refine hk b (List.mem_range.mpr (Heap.lt_size (keep3 b u hb e))) (fun z => ?_) u (hhref _ _ (keep3 b u hb e))
          have z := List.mem_singleton.mp z
          rw [z] at e
          exact absurd (show s1.heap.objs.size + 1 < s1.heap.objs.size from Heap.lt_size e) (by omega)
        have vL2 : s₂.heap.IsCell cL (some (.ref al)) := by
          obtain ⟨o, ho, hd⟩ := id vL
          exact ⟨o, keepA _ _ (cP vL) ho, hd⟩
        have vK2 : s₂.heap.IsCell cK (some (.int kk tK)) := by
          obtain ⟨o, ho, hd⟩ := id vK
          exact ⟨o, keepA _ _ (cP vK) ho, hd⟩
        have hl2 : s₂.heap.IsList al its.toArray := ⟨_, keepA _ _ alP hal1, rfl, _, rfl⟩
        have b1 : (kk + (i : Int) * 1).toNat < zs.length := by omega
        have b2 : (kk + (i : Int) * 1 - kk).toNat < zs.length := by omega
        obtain ⟨w1, f1, r1⟩ := Vals.get hvals (i := (kk + (i : Int) * 1).toNat) (x := .str zs[(kk + (i : Int) * 1).toNat]) (by rw [List.getElem?_map, List.getElem?_eq_getElem b1]; rfl)
        obtain ⟨w2, f2, r2⟩ := Vals.get hvals (i := (kk + (i : Int) * 1 - kk).toNat) (x := .str zs[(kk + (i : Int) * 1 - kk).toNat]) (by rw [List.getElem?_map, List.getElem?_eq_getElem b2]; rfl)
        obtain ⟨tw1, rfl⟩ := r1
        obtain ⟨tw2, rfl⟩ := r2
        refine wpAny_mono (elt_pair (items := its.toArray) (cenv := genEnv scope (cloFrom X.env.cells scope.names []) h3.objs.size code _ X.env) S.kind S.loc hn hm lL (NdefX.clo_has S.free fL eL) vL2 lK (NdefX.clo_has S.free fK eK) vK2 hl2 (by omega) (by omega) k0 (by omega) (by simpa using f1) (by simpa using f2) hdx hdL hdK hcL hcK) (fun y s3 r => ⟨?_, r.2⟩) fun _ _ e => e
        rw [r.1]
        have a1 : (kk + (i : Int)).toNat < zs.length := by omega
        have a2 : (kk + (i : Int) - kk).toNat < zs.length := by omega
        have : alikeAt zs kk kk i = (zs[(kk + (i : Int)).toNat].cps.toList == zs[(kk + (i : Int) - kk).toNat].cps.toList) := by
          unfold alikeAt
          rw [List.getElem?_eq_getElem a1, List.getElem?_eq_getElem a2]
        rw [this]
    · intro g h5 tk5 gs hgb hag hsz5 hk5 W5 hat
      simp only [GxR.passing_true, List.length_range] at W5
      refine hQ n (alikeAt zs kk kk) H1 g _ (fun H2 hT => ?_) ⟨_, _, _, _, _, W5.in4_1, hat, ?_, fun s' hm => ?_⟩
      · have := q1 H2 hT
        unfold allEq at this
        rw [hn] at this
        exact this
      · rintro j y sj Qj Ej ⟨i, hij, rfl⟩ hQj
        obtain ⟨hj, ej⟩ := List.getElem?_eq_some_iff.mp hij
        rw [List.getElem_range] at ej
        subst ej
        exact wpAny_truthy_bool hQj
      · have nwr : ∀ b u, s1.heap.get? b = some u → b ∉ h3.objs.size :: [s1.heap.objs.size + 1] := by
          intro b u e hb
          have hl := Heap.lt_size e
          simp only [List.mem_cons, List.not_mem_nil, or_false] at hb
          rcases hb with z | z
          · subst z
            have hl : h3.objs.size < s1.heap.objs.size := hl
            omega
          · rw [z] at hl
            exact absurd (show s1.heap.objs.size + 1 < s1.heap.objs.size from hl) (by omega)
        have J := inv_tab (more := more) (h' := s'.heap) (g' := s'.gens) (d' := s'.drawn) (t' := s'.toks) I1 hP (fun b u hb e => hm.heap b u (nwr b u e) (hk5 b u (keep3 b u hb e)))
          (hm.heap P _ (nwr P _ tab1) (hk5 P _ hP3)) (AllBare.movedS (I1.bare.push hgb) hm)
        rw [sh_eta s1 s' hm.os] at J
        exact ⟨upd H1 P (.tbl (ps ++ more)), ⟨⟨ps ++ more, upd_same, ht3⟩, fun b hb => upd_ne hb⟩, J⟩
  refine ⟨lim2, ?_⟩
  cases hf : codeAmong gpos ps.toList with
  | none =>
    refine wpAny_genexprCodeX hcode (cd.code tab2 ht) (cd.tab tab2) hf fun c' h' tk hx hge hlt hco' _ htab' _ => ?_
    obtain ⟨o1, vs, f1, tf, fl, tg, inF, tx, tt, op, _, _, _, _, _, _, _, _, _, htr, _⟩ := hco'
    exact go _ h' tk _ hx (Nat.le_trans hge (Nat.le_of_lt hlt)) htab'.2 htr
  | some cv =>
    refine wpAny_genexprCode_hit hcode (cd.code tab2 ht) hf ?_
    exact go cv h2 _ #[] (Heap.ExtBut.refl _ _) (Nat.le_refl _) (by simpa using tab2) (by simpa using ht)
theorem pe_allP {c P : Addr} {ea eb : Expr} {x L K : Str} {iL iK : Nat} {px p pos gpos rp rpos p1 p2 p3 p4 p5 p6 p7 p8 p9 : Pos} {scope : Scope} {ta : TA} {k : Nat}
    (hr : Room k X.A) (hg : Gl X "all") (hm : X.mg "all" = none) (TB : TabB X.base X.mg c P) (hcode : X.env.code = .ref c) (hS : AllP X scope x L K) (hgr : Gl X "range") (hmr : X.mg "range" = none) (hi : PA X [ea, eb] ta)
    (hNL : X.N[iL]? = some L)
    (hNK : X.N[iK]? = some K)
    (hs : ∀ v, genFold (.Call (.Name "range" rp) [ea, eb] [] rpos) X.env v = pure v)
    (hs2 : starEach [ea, eb] X.env = [(false, eval ea X.env), (false, eval eb X.env)]) (hs3 : starEach [eb] X.env = [(false, eval eb X.env)])
    (he : starEach [.GeneratorExp (.Compare (.Subscript (.Name L p1) (.Name x p2) p3) [.Eq] [.Subscript (.Name L p4) (.BinOp (.Name x p5) .Sub (.Name K p6) p7) p8] p9) [⟨.Name x px, .Call (.Name "range" rp) [ea, eb] [] rpos, [], 0⟩] scope gpos] X.env
      = (false, eval (.GeneratorExp (.Compare (.Subscript (.Name L p1) (.Name x p2) p3) [.Eq] [.Subscript (.Name L p4) (.BinOp (.Name x p5) .Sub (.Name K p6) p7) p8] p9) [⟨.Name x px, .Call (.Name "range" rp) [ea, eb] [] rpos, [], 0⟩] scope gpos) X.env) :: starEach [] X.env := by rfl) :
    PE X (.Call (.Name "all" p) [.GeneratorExp (.Compare (.Subscript (.Name L p1) (.Name x p2) p3) [.Eq] [.Subscript (.Name L p4) (.BinOp (.Name x p5) .Sub (.Name K p6) p7) p8] p9) [⟨.Name x px, .Call (.Name "range" rp) [ea, eb] [] rpos, [], 0⟩] scope gpos] [] pos)
      (fun σ H Q => ta σ H fun vs H1 => ∃ (al : Addr) (zs : List Str) (kk : Int), vs = [.int kk, .int (zs.length : Nat)] ∧ σ[iL]? = some (some (.ref al)) ∧ σ[iK]? = some (some (.int kk)) ∧ H1 al = some (.lst (zs.map V.str)) ∧ 0 ≤ kk ∧ kk < 2 ^ 62 ∧ TabG H1 P ∧ ∀ H2, Tabbed P H1 H2 → Q (.bl (allEq zs kk)) H2) := by
  constructor
  intro pins s σ H Q I h
  refine wpAny_Call_Name_kw (ld_blt I hg hm (by decide +kernel : bootBuiltins "all" = some (.builtin "all")) (PyProof.Rows.callWith_builtin1 ?_ he (by rfl)))
  rw [he]
  show wpAny _ _ (spliced ((false, eval (.GeneratorExp _ [⟨.Name x px, _, [], 0⟩] scope gpos) X.env) :: backTo pos (starEach [] X.env))) _ _ s
  refine Calls.spliced_cons (all_pairs_run (Q := Q) hr TB hcode hS hgr hmr hi hNL hNK hs hs2 hs3 I h fun n tr H1 g s5 hR hG => Calls.spliced_nil ?_)
  obtain ⟨fp, wr, G, F, St, W, hst, htr, hI⟩ := hG
  refine call_all_walkS (W.self 0 _ _ _ hst ⟨g, fp, wr, G, _, F, St, _, rfl, W, hst, htr, fun s' hmv => ?_⟩)
  obtain ⟨H2, hT, J⟩ := hI s' hmv
  exact ⟨.bl _, H2, J, rfl, hR H2 hT⟩
end
def strsAt : Option SV → Option (List Str)
  | some (.dat (.lst ds)) => strsOf ds
  | _ => none
/-- all(xs[at] == xs[at - k] for at in range(k, len(xs))): xs in slot iL, k in slot iK; fa: the range's ends; t: the cell of the table of generators -/
def dAllP (t iL iK : Nat) (G : Addr) (fa : FA) : FE := fun sl cs => (fa sl cs).then fun a => match a.1, strsAt (sl[iL]?), sl[iK]?, a.2[t]? with
  | [.dat (.int k), .dat (.int n)], some zs, some (.dat (.int k')), some (.tab P q) => if k' = k ∧ n = (zs.length : Nat) ∧ 0 ≤ k ∧ k < 2 ^ 62 ∧ P = G ∧ q = "" then .ok (.dat (.bl (allEq zs k)), a.2) else .bad
  | _, _, _, _ => .bad
section
variable {X : Cx} {W : WX}
theorem de_allP {t k : Nat} {G c : Addr} {ea eb : Expr} {x L K : Str} {iL iK : Nat} {px p pos gpos rp rpos p1 p2 p3 p4 p5 p6 p7 p8 p9 : Pos} {scope : Scope} {fa : FA}
    (hr : Room k X.A) (hg : Gl X "all") (hm : X.mg "all" = none) (TB : LamX.TabB X.base X.mg c G) (hcode : X.env.code = .ref c) (hS : AllP X scope x L K) (hgr : Gl X "range") (hmr : X.mg "range" = none) (hi : DA X W [ea, eb] fa)
    (hNL : X.N[iL]? = some L)
    (hNK : X.N[iK]? = some K)
    (hs : ∀ v, genFold (.Call (.Name "range" rp) [ea, eb] [] rpos) X.env v = pure v := by intro v; rfl)
    (hs2 : starEach [ea, eb] X.env = [(false, eval ea X.env), (false, eval eb X.env)] := by rfl) (hs3 : starEach [eb] X.env = [(false, eval eb X.env)] := by rfl)
    (he : starEach [.GeneratorExp (.Compare (.Subscript (.Name L p1) (.Name x p2) p3) [.Eq] [.Subscript (.Name L p4) (.BinOp (.Name x p5) .Sub (.Name K p6) p7) p8] p9) [⟨.Name x px, .Call (.Name "range" rp) [ea, eb] [] rpos, [], 0⟩] scope gpos] X.env
      = (false, eval (.GeneratorExp (.Compare (.Subscript (.Name L p1) (.Name x p2) p3) [.Eq] [.Subscript (.Name L p4) (.BinOp (.Name x p5) .Sub (.Name K p6) p7) p8] p9) [⟨.Name x px, .Call (.Name "range" rp) [ea, eb] [] rpos, [], 0⟩] scope gpos) X.env) :: starEach [] X.env := by rfl) :
    DE X W (.Call (.Name "all" p) [.GeneratorExp (.Compare (.Subscript (.Name L p1) (.Name x p2) p3) [.Eq] [.Subscript (.Name L p4) (.BinOp (.Name x p5) .Sub (.Name K p6) p7) p8] p9) [⟨.Name x px, .Call (.Name "range" rp) [ea, eb] [] rpos, [], 0⟩] scope gpos] [] pos) (dAllP t iL iK G fa) :=
  PE.imp (pe_allP hr hg hm ⟨TB.code, TB.bm, TB.gP⟩ hcode hS hgr hmr hi hNL hNK hs hs2 hs3 he) fun σ H Q q => by
  obtain ⟨F0, H0, F, sl, cs, R, o⟩ := q
  refine OutA.run_E R o fun rs c v F1 H1 e1 n w k R1 o1 => ?_
  dsimp only at o1
  split at o1
  · rename_i kk nn zs k' P q es ek ec
    split at o1
    · rename_i hh
      obtain ⟨rfl, rfl, h0, h1, rfl, rfl⟩ := hh
      obtain ⟨ti, tl⟩ : ∃ h : t < F1.μ.length, F1.μ[t]? = some F1.μ[t] := ⟨by rw [w.len]; exact (List.getElem?_eq_some_iff.mp ec).1, List.getElem?_eq_getElem _⟩
      generalize F1.μ[t] = p0 at tl
      obtain ⟨Fp, ob, hob, ct⟩ := w.at_ t p0 _ tl ec
      obtain ⟨ds, hsl, hds⟩ : ∃ ds, sl[iL]? = some (.dat (.lst ds)) ∧ strsOf ds = some zs := by
        unfold strsAt at es
        split at es
        · rename_i ds hsl; exact ⟨ds, hsl, es⟩
        · cases es
      obtain ⟨vL, hvL, dL⟩ := R1.at_ iL _ hsl
      obtain ⟨vK, hvK, dK⟩ := R1.at_ iK _ ek
      cases dK
      cases dL with
      | @lst a xs _ ha hx =>
      obtain rfl := hx.strs hds
      cases k with
      | cons k1 kr =>
      cases kr with
      | cons k2 kr =>
      cases kr
      have k1' : Den F1 _ (.int k') := k1
      have k2' : Den F1 _ (.int (zs.length : Nat)) := k2
      cases k1'
      cases k2'
      rcases ct with ct | ⟨q1, ps, e1, e2, tr, _⟩
      · cases ob <;> exact ct.elim
      cases e1
      subst e2
      refine ⟨a, zs, k', rfl, hvL, hvK, w.ex _ _ ha, h0, h1, ⟨ps, hob, tr⟩, fun H2 ht => ?_⟩
      obtain ⟨⟨ps2, g1, g2⟩, oth⟩ := ht
      have nF : ∀ b o, F1 b = some o → b ≠ P := fun b o e z => by subst z; rw [Fp] at e; cases e
      have n2 : Nx F1 H1 F1 H2 := ⟨Ex.refl _, fun _ h => .inl h, fun b o e => .inl e, fun b o e hb => by rw [oth b (fun z => hb (z ▸ List.mem_of_getElem? tl))]; exact e⟩
      have w2 : Wok F1 H2 c := ⟨fun b o e => by rw [oth b (nF b o e)]; exact w.ex _ _ e, w.len, w.nd, fun i p c' e1 e2 => by
        obtain ⟨h1, o', h2, h3⟩ := w.at_ i p c' e1 e2
        refine ⟨h1, ?_⟩
        by_cases hp : p = P
        · subst hp
          obtain rfl := w.nd i t p e1 tl
          rw [ec] at e2; cases e2
          exact ⟨_, g1, .inr ⟨"", ps2, rfl, rfl, g2, .inl rfl⟩⟩
        · exact ⟨o', by rw [oth p hp]; exact h2, h3⟩⟩
      exact o1 _ F1 H2 n2 w2 (.bl _) trivial
    · exact o1.elim
  · exact o1.elim
end
/-! ### steps -/
section
variable {sl : List SV} {cs c : List CO} {t iL iK : Nat} {G : Addr} {fa : FA} {k : Int} {zs : List Str} {n : Int}
theorem allP_ok (e : fa sl cs = .ok ([.dat (.int k), .dat (.int n)], c)) (hn : n = (zs.length : Nat)) (hL : strsAt (sl[iL]?) = some zs) (hK : sl[iK]? = some (.dat (.int k))) (ht : c[t]? = some (.tab G "")) (h0 : 0 ≤ k) (h1 : k < 2 ^ 62) :
    dAllP t iL iK G fa sl cs = .ok (.dat (.bl (allEq zs k)), c) := by
  unfold dAllP
  rw [e]
  show (match [RV.dat (.int k), .dat (.int n)], strsAt (sl[iL]?), sl[iK]?, c[t]? with
    | [.dat (.int k), .dat (.int n)], some zs, some (.dat (.int k')), some (.tab P q) => if k' = k ∧ n = (zs.length : Nat) ∧ 0 ≤ k ∧ k < 2 ^ 62 ∧ P = G ∧ q = "" then Res.ok (RV.dat (.bl (allEq zs k)), c) else .bad
    | _, _, _, _ => .bad) = _
  rw [hL, hK, ht]
  exact if_pos ⟨rfl, hn, h0, h1, rfl, rfl⟩
end
end SL

/-! Sxq: texts with fields of two parts. -/
namespace SL
open PySem PySem.Spec PyProof.Rows L2
def gFmt : G1
  | .str y => if y.length ≤ 16777216 then some (.dat (.str y)) else none
  | .int i => if i.natAbs.log2 < 1920 then some (.dat (.str (toString i))) else none
  | _ => none
def kFS2 (x : Str) : RV × List CO → Res (RV × List CO) := fun b => match b.1 with
  | .dat (.str y) => if (x ++ y).length ≤ 16777216 then .ok (.dat (.str (x ++ y)), b.2) else .bad
  | _ => .bad
def kFS (g : FE) (sl : List SV) : RV × List CO → Res (RV × List CO) := fun a => match a.1 with
  | .dat (.str x) => if x.length ≤ 16777216 then (g sl a.2).then (kFS2 x) else .bad
  | _ => .bad
/-- a text of two parts -/
def dFS (f g : FE) : FE := fun sl cs => (f sl cs).then (kFS g sl)
theorem empty_app (y : Str) : Str.empty ++ y = y := by
  have : (Str.empty ++ y).cps = y.cps := by
    show (Str.empty.cps ++ y.cps) = y.cps
    simp [Str.empty]
  cases h : Str.empty ++ y
  rw [h] at this
  cases y
  cases this
  rfl
section
variable {X : Cx} {W : WX} {pos : Pos} {a b : Expr} {f g : FE}
theorem de_fmt (ha : DE X W a f) : DE X W (.FormattedValue a (-1) none pos) (dUn gFmt f) :=
  PE.imp (pe_fmt ha) fun σ H Q q => by
    refine rdE.imp (dUn_run q) fun x H1 q1 => ?_
    obtain ⟨F, cs, a', r, w, hv, hg, az⟩ := q1
    cases a' with
    | str y =>
      have hg : (if y.length ≤ 16777216 then some (RV.dat (.str y)) else none) = some r := hg
      split at hg
      · rename_i h
        cases hg
        have := hv.str
        subst this
        exact .inl ⟨y, rfl, h, az _ F H1 Nx.refl w (.str _) trivial⟩
      · cases hg
    | int i =>
      have hg : (if i.natAbs.log2 < 1920 then some (RV.dat (.str (toString i))) else none) = some r := hg
      split at hg
      · rename_i h
        cases hg
        have := hv.int
        subst this
        exact .inr ⟨i, rfl, h, az _ F H1 Nx.refl w (.str _) trivial⟩
      · cases hg
    | _ => cases hg
theorem de_fs (ha : DE X W a f) (hb : DE X W b g) : DE X W (.JoinedStr [a, b] pos) (dFS f g) :=
  PE.imp (pe_joined (.cons ha (.cons hb .nil))) fun σ H Q q => by
    obtain ⟨F0, H0, F, sl, cs, R, o⟩ := q
    refine OutE.then_run R o fun r c v F1 H1 e n w k fv R1 o1 => ?_
    unfold kFS at o1
    split at o1
    · rename_i x hr
      have hr : r = .dat (.str x) := hr
      subst hr
      split at o1
      · rename_i hx
        have k' : Den F1 v (.str x) := k
        cases k'
        refine ⟨x, rfl, by rw [empty_app]; exact hx, ?_⟩
        refine OutE.then_run R1 o1 fun r2 c2 v2 F2 H2 e2 n2 w2 k2 fv2 R2 o2 => ?_
        unfold kFS2 at o2
        split at o2
        · rename_i y hr
          have hr : r2 = .dat (.str y) := hr
          subst hr
          split at o2
          · rename_i hy
            have k' : Den F2 v2 (.str y) := k2
            cases k'
            refine ⟨y, rfl, by rw [empty_app]; exact hy, ?_⟩
            show Q _ H2
            rw [empty_app]
            exact o2 _ F2 H2 Nx.refl w2 (.str _) trivial
          · exact o2.elim
        · exact o2.elim
      · exact o1.elim
    · exact o1.elim
end
/-! ### steps -/
section
variable {sl : List SV} {cs c : List CO} {x y : Str} {i : Int} {f g : FE}
theorem x_fmt_s (h : y.length ≤ 16777216) : gFmt (.str y) = some (.dat (.str y)) := if_pos h
theorem x_fmt_i (h : i.natAbs.log2 < 1920) : gFmt (.int i) = some (.dat (.str (toString i))) := if_pos h
theorem x_fs : dFS f g sl cs = (f sl cs).then (kFS g sl) := rfl
theorem x_fs1 (h : x.length ≤ 16777216) : kFS g sl (.dat (.str x), c) = (g sl c).then (kFS2 x) := if_pos h
theorem x_fs2 (h : (x ++ y).length ≤ 16777216) : kFS2 x (.dat (.str y), c) = .ok (.dat (.str (x ++ y)), c) := if_pos h
end
end SL

/-! Sxr: dicts whose keys are pairs of places. -/
namespace SL
open PySem PySem.Spec PyProof.Rows L2
abbrev pairS (i j : Nat) : Str := ⟨#[i, j]⟩
theorem pairS_eq {i j i' j' : Nat} : pairS i j = pairS i' j' ↔ i = i' ∧ j = j' := by
  constructor
  · intro h
    have h : (#[i, j] : Array Nat) = #[i', j'] := Str.mk.inj h
    have h : [i, j] = [i', j'] := congrArg Array.toList h
    simp at h
    exact h
  · rintro ⟨rfl, rfl⟩; rfl
abbrev pairK (i j : Nat) : List Key := [.inl (i : Int), .inl (j : Int)]
theorem pairK_eq {i j i' j' : Nat} : pairK i j = pairK i' j' ↔ i = i' ∧ j = j' := by
  constructor
  · intro h
    unfold pairK at h
    simp only [List.cons.injEq, Sum.inl.injEq, and_true] at h
    omega
  · rintro ⟨rfl, rfl⟩; rfl
def getT (ds : List (Str × D)) (k : Str) : Option D := (ds.find? fun q => decide (q.1 = k)).map (·.2)
def putT (ds : List (Str × D)) (k : Str) (d : D) : List (Str × D) := if (ds.any fun q => decide (q.1 = k)) = true then ds.map (fun q => if q.1 = k then (q.1, d) else q) else ds ++ [(k, d)]
def keyT : D → Option (Nat × Nat)
  | .tup [.int i, .int j] => if 0 ≤ i ∧ 0 ≤ j then some (i.toNat, j.toNat) else none
  | _ => none
section
variable {F : Fz} {i j : Nat}
theorem dec_pair (i j i' j' : Nat) : decide (pairK i j = pairK i' j') = decide (pairS i j = pairS i' j') := by
  rw [decide_eq_decide, pairK_eq, pairS_eq]
theorem DenT.length : ∀ {vs : List (List Key × V)} {ds : List (Str × D)}, DenT F vs ds → vs.length = ds.length
  | _, _, .nil => rfl
  | _, _, .cons _ t => by simp [DenT.length t]
theorem DenT.append : ∀ {vs ws : List (List Key × V)} {ds es : List (Str × D)}, DenT F vs ds → DenT F ws es → DenT F (vs ++ ws) (ds ++ es)
  | _, _, _, _, .nil, k => k
  | _, _, _, _, .cons h t, k => .cons h (DenT.append t k)
theorem DenT.get : ∀ {ds : List (Str × D)} {vs : List (List Key × V)} {d : D}, DenT F vs ds → getT ds (pairS i j) = some d → ∃ v, valV vs (pairK i j) = some v ∧ Den F v d
  | [], _, _, h, e => by cases h; cases e
  | (_, d0) :: ds, _, d, @DenT.cons _ a b v vs _ _ h t, e => by
    unfold getT at e
    unfold valV
    rw [List.find?_cons] at e ⊢
    dsimp only at e ⊢
    have q := dec_pair a b i j
    by_cases hk : pairS a b = pairS i j
    · rw [decide_eq_true hk] at q e
      rw [q]
      cases e
      exact ⟨v, rfl, h⟩
    · rw [decide_eq_false hk] at q e
      rw [q]
      exact DenT.get t e
theorem DenT.any : ∀ {ds : List (Str × D)} {vs : List (List Key × V)}, DenT F vs ds → (vs.any fun q => decide (q.1 = pairK i j)) = (ds.any fun q => decide (q.1 = pairS i j))
  | [], _, .nil => rfl
  | (_, d0) :: ds, _, @DenT.cons _ a b v vs _ _ h t => by
    rw [List.any_cons, List.any_cons, DenT.any t]
    dsimp only
    rw [show decide ([Sum.inl (a : Int), Sum.inl (b : Int)] = pairK i j) = _ from dec_pair a b i j]
theorem DenT.mapPut {v : V} {d : D} (hd : Den F v d) : ∀ {ds : List (Str × D)} {vs : List (List Key × V)}, DenT F vs ds → DenT F (vs.map fun q => if q.1 = pairK i j then (q.1, v) else q) (ds.map fun q => if q.1 = pairS i j then (q.1, d) else q)
  | [], _, .nil => .nil
  | (_, d0) :: ds, _, @DenT.cons _ a b w vs _ _ h t => by
    rw [List.map_cons, List.map_cons]
    dsimp only
    by_cases hk : pairS a b = pairS i j
    · have hk2 : pairK a b = pairK i j := pairK_eq.mpr (pairS_eq.mp hk)
      rw [if_pos hk, if_pos hk2]
      exact .cons hd (DenT.mapPut hd t)
    · have hk2 : ¬ pairK a b = pairK i j := fun z => hk (pairS_eq.mpr (pairK_eq.mp z))
      rw [if_neg hk, if_neg hk2]
      exact .cons h (DenT.mapPut hd t)
theorem DenT.put {v : V} {d : D} {ds : List (Str × D)} {vs : List (List Key × V)} (h : DenT F vs ds) (hd : Den F v d) : DenT F (putK vs (pairK i j) v) (putT ds (pairS i j) d) := by
  unfold putK putT
  rw [h.any]
  split
  · exact DenT.mapPut hd h
  · exact h.append (.cons hd .nil)
/-- the key, a tuple of two places -/
theorem keyT_val {x : D} {v : V} (h : Den F v x) (e : keyT x = some (i, j)) : ∃ b, v = .ref b ∧ F b = some (.tup ((pairK i j).map kV)) := by
  unfold keyT at e
  split at e
  · rename_i a b
    split at e
    · rename_i hh
      cases e
      cases h with
      | @tup p xs _ hp hx =>
      cases hx with
      | cons h1 hx =>
      cases hx with
      | cons h2 hx =>
      cases hx
      cases h1
      cases h2
      refine ⟨p, rfl, ?_⟩
      rw [hp]
      show some (HO.tup [V.int a, V.int b]) = some (HO.tup [V.int ((a.toNat : Nat) : Int), V.int ((b.toNat : Nat) : Int)])
      rw [Int.toNat_of_nonneg hh.1, Int.toNat_of_nonneg hh.2]
    · cases e
  · cases e
theorem vw_tab {H : Hp} {v : V} {ds : List (Str × D)} (h : Vw F H v (.obj 0 ds)) (e : ExH F H) : ∃ p vs, v = .ref p ∧ H p = some (.dT vs) ∧ DenT F vs ds := by
  rcases h with h | ⟨p, o, c, rfl, h1, h2, e2⟩
  · generalize hz : D.obj 0 ds = z at h
    cases h with
    | dT a b => cases hz; exact ⟨_, _, rfl, e _ _ a, b⟩
    | @obj _ C _ _ _ a b => injection hz with h1 _; exact absurd h1 (Nat.succ_ne_zero C).symm
    | _ => cases hz
  · cases c with
    | obj C xs =>
      injection e2 with h3 h4
      subst h3 h4
      cases o <;> first | exact h2.elim | skip
      · exact ⟨_, _, rfl, h1, h2.2⟩
      · exact absurd h2.1 (Nat.succ_ne_zero _).symm
    | tab P q => exact absurd h2 (by cases o <;> exact fun z => z)
    | _ => cases e2
end
/-! ### {}, d[i, j], d[i, j] = v -/
def dDictT : FE := fun _ cs => .ok (.new (.obj 0 []), cs)
def tabOf : Option CO → Option (List (Str × D))
  | some (.obj 0 ds) => some ds
  | _ => none
def tgO (c : List CO) : Option D → Option D → Res (RV × List CO)
  | some (.obj 0 ds), some x => match keyT x with
    | some k => optE ((getT ds (pairS k.1 k.2)).map RV.dat) c
    | none => .bad
  | _, _ => .bad
def kTGet2 (a : RV) : RV × List CO → Res (RV × List CO) := fun b => tgO b.2 (a.view b.2) (b.1.view b.2)
def kTGet1 (fb : FE) (sl : List SV) : RV × List CO → Res (RV × List CO) := fun a => (fb sl a.2).then (kTGet2 a.1)
/-- d[k], d a dict of pairs -/
def dTGet (fa fb : FE) : FE := fun sl cs => (fa sl cs).then (kTGet1 fb sl)
def putTO (sl : List SV) (c : List CO) (k : Nat) (d : D) : Option (Nat × Nat) → Option (List (Str × D)) → Flw
  | some q, some ds => if ds.length < 16777216 then .nx sl (c.set k (.obj 0 (putT ds (pairS q.1 q.2) d))) else .bad
  | _, _ => .bad
def kSetKT2 (sl : List SV) (d : D) (k : Nat) : RV × List CO → Flw := fun c => match c.1 with
  | .dat x => putTO sl c.2 k d (keyT x) (tabOf (c.2[k]?))
  | _ => .bad
def kSetKT1 (sl : List SV) (fk : FE) (d : D) : RV × List CO → Flw := fun b => match b.1 with
  | .dat (.ref k) => Res.toF sl (fk sl b.2) (kSetKT2 sl d k)
  | _ => .bad
def kSetKT0 (sl : List SV) (fe fk : FE) : RV × List CO → Flw := fun a => match a.1 with
  | .dat d => Res.toF sl (fe sl a.2) (kSetKT1 sl fk d)
  | _ => .bad
/-- e[k] = v, e a cell's dict of pairs -/
def dSetKT (fv fe fk : FE) : FS := fun sl cs => Res.toF sl (dFrz fv sl cs) (kSetKT0 sl fe fk)
section
variable {F : Fz} {H : Hp} {cs : List CO}
theorem cell_tab (w : Wok F H cs) {k : Nat} {v : V} {xs : List (Str × D)} (h : Den F v (.ref k)) (e : tabOf (cs[k]?) = some xs) : ∃ p vs, v = .ref p ∧ F.μ[k]? = some p ∧ H p = some (.dT vs) ∧ DenT F vs xs := by
  cases h with
  | @ref p _ hp =>
    cases q : cs[k]? with
    | none => rw [q] at e; cases e
    | some c =>
      rw [q] at e
      cases c with
      | obj C ys =>
        cases C with
        | succ C => cases e
        | zero =>
        cases e
        obtain ⟨_, o, h1, h2⟩ := w.at_ k p _ hp q
        have h2 := h2.ok (fun P q z => by cases z)
        cases o <;> first | exact h2.elim | skip
        · exact ⟨p, _, rfl, hp, h1, h2.2⟩
        · exact absurd h2.1 (Nat.succ_ne_zero _).symm
      | _ => cases e
end
section
variable {X : Cx} {W : WX} {a b : Expr} {fa fb fe fk fv : FE} {pos : Pos} {st : Stmt}
theorem de_dictT : DE X W (.Dict [] [] pos) dDictT := PE.imp pe_dnewT fun σ H Q q => by
  obtain ⟨F0, H0, F, sl, cs, R, o⟩ := q
  intro p hp
  exact Aft.new (cs := cs) (c := .obj 0 []) o R.w hp ⟨rfl, .nil⟩
theorem de_tget (hu : X.A.units + 64 < cLine) (ha : DE X W a fa) (hb : DE X W b fb) (hs : NoSl b) : DE X W (.Subscript a b pos) (dTGet fa fb) := PE.imp (pe_dget (Nat.lt_of_le_of_lt (Nat.add_le_add_left (by decide) _) hu) ha hb hs) fun σ H Q q => by
  obtain ⟨F0, H0, F, sl, cs, R, o⟩ := q
  refine OutE.then_run R o fun r c v F1 H1 e n w k fv R1 o1 => ?_
  unfold kTGet1 at o1
  refine OutE.then_run R1 o1 fun r2 c2 v2 F2 H2 e2 n2 w2 k2 fv2 R2 o2 => ?_
  unfold kTGet2 at o2
  dsimp only at o2
  have k3 := RvOk.step k n2
  unfold tgO at o2
  split at o2
  · rename_i ds x ex ey
    cases hk : keyT x with
    | none => rw [hk] at o2; exact o2.elim
    | some key =>
      rw [hk] at o2
      dsimp only at o2
      cases hg : getT ds (pairS key.1 key.2) with
      | none => rw [hg] at o2; exact o2.elim
      | some d =>
        rw [hg] at o2
        obtain ⟨p, vs, rfl, hp, dk⟩ := vw_tab (k3.vw w2 ex) w2.ex
        obtain ⟨u, hu, du⟩ := dk.get hg
        obtain ⟨ds2, xs2, rfl⟩ : ∃ i j, x = .tup [.int i, .int j] := by
          unfold keyT at hk
          split at hk
          · exact ⟨_, _, rfl⟩
          · cases hk
        obtain ⟨q, vs2, rfl, hq, dq⟩ := (k2.vw w2 ey).tup w2.ex
        have hk0 := hk
        unfold keyT at hk
        dsimp only at hk
        split at hk
        · rename_i hh
          cases hk
          cases dq with
          | cons d1 dq =>
          cases dq with
          | cons d2 dq =>
          cases dq
          cases d1
          cases d2
          refine ⟨p, u, rfl, .inr ⟨vs, pairK ds2.toNat xs2.toNat, q, .inl hp, rfl, ?_, hu.symm⟩, o2 _ F2 H2 Nx.refl w2 du trivial⟩
          rw [hq]
          show some (HO.tup [V.int ds2, V.int xs2]) = some (HO.tup [V.int ((ds2.toNat : Nat) : Int), V.int ((xs2.toNat : Nat) : Int)])
          rw [Int.toNat_of_nonneg hh.1, Int.toNat_of_nonneg hh.2]
        · cases hk
  · exact o2.elim
theorem ds_setKT (h : PS X st (tAsg (rdE X.K W (dFrz fv)) (L2.gSub (rdE X.K W fe) (rdE X.K W fk) rSetD))) : DS X W st (dSetKT fv fe fk) := PS.imp h fun D σ H q => by
  obtain ⟨F0, H0, F, sl, cs, R, o⟩ := q
  refine OutS.run_E R o fun r c v F1 H1 e n w k fv R1 o1 => ?_
  unfold kSetKT0 at o1
  dsimp only at o1
  split at o1
  · rename_i d
    refine OutS.run_E R1 o1 fun r2 c2 v2 F2 H2 e2 n2 w2 k2 fv2 R2 o2 => ?_
    unfold kSetKT1 at o2
    dsimp only at o2
    split at o2
    · rename_i j
      refine OutS.run_E R2 o2 fun r3 c3 v3 F3 H3 e3 n3 w3 k3 fv3 R3 o3 => ?_
      unfold kSetKT2 at o3
      dsimp only at o3
      split at o3
      · rename_i x
        unfold putTO at o3
        split at o3
        · rename_i q ds eq ek
          split at o3
          · rename_i hl
            obtain ⟨p, vs, ep, hp, hH, dn⟩ := cell_tab w3 (RvOk.step (r := .dat (.ref j)) k2 n3) ek
            subst ep
            have k4 : Den F3 v d := (show Den F1 v d from k).mono (n2.ex.trans n3.ex)
            obtain ⟨q1, q2⟩ := q
            obtain ⟨b, rfl, hb⟩ := keyT_val (show Den F3 v3 x from k3) eq
            exact ⟨p, _, rfl, .inr ⟨vs, pairK q1 q2, b, hH, rfl, w3.ex _ _ hb, by rw [dn.length]; exact hl, rfl⟩, o3 σ F3 _ (R3.mutCell hp (.inl ⟨rfl, dn.put k4⟩))⟩
          · exact o3.elim
        · exact o3.elim
      · exact o3.elim
    · exact o2.elim
  · exact o1.elim
end
/-! ### steps -/
section
variable {sl : List SV} {cs c : List CO} {i j : Int} {k : Nat} {ds : List (Str × D)} {d x : D} {fa fb fe fk fv : FE} {r : RV} {p q : Nat}
theorem x_dictT : dDictT sl cs = .ok (.new (.obj 0 []), cs) := rfl
theorem x_tget : dTGet fa fb sl cs = (fa sl cs).then (kTGet1 fb sl) := rfl
theorem x_tget1 : kTGet1 fb sl (r, c) = (fb sl c).then (kTGet2 r) := rfl
theorem x_tget2 {r2 : RV} : kTGet2 r (r2, c) = tgO c (r.view c) (r2.view c) := rfl
def tgP (c : List CO) (ds : List (Str × D)) : Option (Nat × Nat) → Res (RV × List CO)
  | some k => optE ((getT ds (pairS k.1 k.2)).map RV.dat) c
  | none => .bad
theorem x_tgO : tgO c (some (.obj 0 ds)) (some x) = tgP c ds (keyT x) := by
  show (match keyT x with | some k => optE ((getT ds (pairS k.1 k.2)).map RV.dat) c | none => .bad) = _
  cases keyT x <;> rfl
theorem x_tgP : tgP c ds (some (p, q)) = optE ((getT ds (pairS p q)).map RV.dat) c := rfl
theorem x_keyT (h0 : 0 ≤ i) (h1 : 0 ≤ j) : keyT (.tup [.int i, .int j]) = some (i.toNat, j.toNat) := if_pos ⟨h0, h1⟩
theorem x_setKT : dSetKT fv fe fk sl cs = Res.toF sl (dFrz fv sl cs) (kSetKT0 sl fe fk) := rfl
theorem x_setKT0 : kSetKT0 sl fe fk (.dat d, c) = Res.toF sl (fe sl c) (kSetKT1 sl fk d) := rfl
theorem x_setKT1 : kSetKT1 sl fk d (.dat (.ref k), c) = Res.toF sl (fk sl c) (kSetKT2 sl d k) := rfl
theorem x_setKT2 : kSetKT2 sl d k (.dat x, c) = putTO sl c k d (keyT x) (tabOf (c[k]?)) := rfl
theorem x_putTO (h : ds.length < 16777216) : putTO sl c k d (some (p, q)) (some ds) = .nx sl (c.set k (.obj 0 (putT ds (pairS p q) d))) := if_pos h
theorem x_tabOf : tabOf (some (.obj 0 ds)) = some ds := rfl
end
end SL

namespace SL.Pk
open PySem L2 Pk
def rows_STITCHES : Row := [("k", [.int 1, .int 1, .str "p"]), ("p", [.int 1, .int 1, .str "k"]), ("sl", [.int 1, .int 1, .str "sl"]), ("yo", [.int 0, .int 1, .str "yo"]), ("m1", [.int 0, .int 1, .str "m1p"]), ("m1p", [.int 0, .int 1, .str "m1"]), ("kfb", [.int 1, .int 2, .str "pfb"]), ("pfb", [.int 1, .int 2, .str "kfb"]), ("k2tog", [.int 2, .int 1, .str "p2tog"]), ("p2tog", [.int 2, .int 1, .str "k2tog"]), ("ssk", [.int 2, .int 1, .str "ssp"]), ("ssp", [.int 2, .int 1, .str "ssk"]), ("cdd", [.int 3, .int 1, .str "cddp"]), ("cddp", [.int 3, .int 1, .str "cdd"]), ("bo", [.int 1, .int 0, .str "bo"])]
/-! _law_box -/
noncomputable def m__law_box : FS :=
    mBox
noncomputable def p__law_box : Phi := runB 0 m__law_box
/-! _law_table -/
noncomputable def m__law_table : FS :=
    (dSeq (dAsg 0 (dLst (dCons (dTup (dCons (dCon (.str "k")) (dCons (dCon (.int 1)) (dCons (dCon (.int 1)) (dCons (dCon (.str "p")) dNil))))) (dCons (dTup (dCons (dCon (.str "p")) (dCons (dCon (.int 1)) (dCons (dCon (.int 1)) (dCons (dCon (.str "k")) dNil))))) (dCons (dTup (dCons (dCon (.str "sl")) (dCons (dCon (.int 1)) (dCons (dCon (.int 1)) (dCons (dCon (.str "sl")) dNil))))) (dCons (dTup (dCons (dCon (.str "yo")) (dCons (dCon (.int 0)) (dCons (dCon (.int 1)) (dCons (dCon (.str "yo")) dNil))))) (dCons (dTup (dCons (dCon (.str "m1")) (dCons (dCon (.int 0)) (dCons (dCon (.int 1)) (dCons (dCon (.str "m1p")) dNil))))) (dCons (dTup (dCons (dCon (.str "m1p")) (dCons (dCon (.int 0)) (dCons (dCon (.int 1)) (dCons (dCon (.str "m1")) dNil))))) dNil))))))))
    (dSeq (dAsg 0 (dOp gAdd (dVar 0) (dLst (dCons (dTup (dCons (dCon (.str "kfb")) (dCons (dCon (.int 1)) (dCons (dCon (.int 2)) (dCons (dCon (.str "pfb")) dNil))))) (dCons (dTup (dCons (dCon (.str "pfb")) (dCons (dCon (.int 1)) (dCons (dCon (.int 2)) (dCons (dCon (.str "kfb")) dNil))))) (dCons (dTup (dCons (dCon (.str "k2tog")) (dCons (dCon (.int 2)) (dCons (dCon (.int 1)) (dCons (dCon (.str "p2tog")) dNil))))) (dCons (dTup (dCons (dCon (.str "p2tog")) (dCons (dCon (.int 2)) (dCons (dCon (.int 1)) (dCons (dCon (.str "k2tog")) dNil))))) dNil)))))))
    (dSeq (dAsg 0 (dOp gAdd (dVar 0) (dLst (dCons (dTup (dCons (dCon (.str "ssk")) (dCons (dCon (.int 2)) (dCons (dCon (.int 1)) (dCons (dCon (.str "ssp")) dNil))))) (dCons (dTup (dCons (dCon (.str "ssp")) (dCons (dCon (.int 2)) (dCons (dCon (.int 1)) (dCons (dCon (.str "ssk")) dNil))))) (dCons (dTup (dCons (dCon (.str "cdd")) (dCons (dCon (.int 3)) (dCons (dCon (.int 1)) (dCons (dCon (.str "cddp")) dNil))))) (dCons (dTup (dCons (dCon (.str "cddp")) (dCons (dCon (.int 3)) (dCons (dCon (.int 1)) (dCons (dCon (.str "cdd")) dNil))))) (dCons (dTup (dCons (dCon (.str "bo")) (dCons (dCon (.int 1)) (dCons (dCon (.int 0)) (dCons (dCon (.str "bo")) dNil))))) dNil))))))))
    (dRetV 0))))
noncomputable def p__law_table : Phi := runB 1 m__law_table
/-! _law_names -/
noncomputable def m__law_names : FS :=
    (dRet (dLc (itemsOf (dCall 0 p__law_table [] dNil)) (tgN 0) tYesD (dOp gIx (dVar 0) (dCon (.int 0))) [0]))
noncomputable def p__law_names : Phi := runB 1 m__law_names
/-! _law_same -/
noncomputable def m__law_same : FS :=
    (dSeq (dIfS (tOr' (toT (dOpX gNe (dCBX gLen (dConsV (dVar 0) dNil)) (dCBX gLen (dConsV (dVar 1) dNil)))) (toT (dOpX gNe (dOp gIx (dVar 0) (dCon (.int 0))) (dOp gIx (dVar 1) (dCon (.int 0))))))
    (dRet (dCon (.bl false)))
    dNx)
    (dSeq (dIfS (toT (dOpX gEq (dCBX gLen (dConsV (dVar 1) dNil)) (dCon (.int 1))))
    (dRet (dCon (.bl true)))
    dNx)
    (dSeq (dIfS (toTru (dIsi "list" (dOp gIx (dVar 1) (dCon (.int 1)))))
    (dAppE (dOp gIx (dVar 1) (dCon (.int 1))) (dCons (dCon (.str "more")) dNil))
    dNx)
    (dSeq (dIfS (toTru (dIsi "dict" (dOp gIx (dVar 1) (dCon (.int 1)))))
    (dSetKE (dCon (.int 7)) (dOp gIx (dVar 1) (dCon (.int 1))) (dCon (.str "more")))
    dNx)
    (dSeq (dAsg 2 (dAnd (dOpX gEq (dCBX gReprD (dConsV (dOp gIx (dVar 0) (dCon (.int 1))) dNil)) (dCBX gReprD (dConsV (dOp gIx (dVar 1) (dCon (.int 1))) dNil))) (dOpX gEq (dIsi "bool" (dOp gIx (dVar 0) (dCon (.int 1)))) (dIsi "bool" (dOp gIx (dVar 1) (dCon (.int 1)))))))
    (dSeq (dIfS (toTru (dIsi "list" (dOp gIx (dVar 1) (dCon (.int 1)))))
    (dPopE (dOp gIx (dVar 1) (dCon (.int 1))))
    dNx)
    (dSeq (dIfS (toTru (dIsi "dict" (dOp gIx (dVar 1) (dCon (.int 1)))))
    (dPopKE (dOp gIx (dVar 1) (dCon (.int 1))) (dCon (.str "more")))
    dNx)
    (dRetV 2))))))))
noncomputable def p__law_same : Phi := runB 1 m__law_same
/-! is_stitch -/
noncomputable def m_is_stitch : FS :=
    (dRet (dAnd (dIsi "str" (dVar 0)) (dInT rows_STITCHES (dVar 0))))
noncomputable def p_is_stitch : Phi := runB 0 m_is_stitch
/-! need_stitch -/
noncomputable def m_need_stitch : FS :=
    (dIfS (tNot' (toTru (dCall 1 p_is_stitch [] (dCons (dVar 0) dNil))))
    (dRaise 1 "value" (dVar 0))
    dNx)
noncomputable def p_need_stitch : Phi := runB 0 m_need_stitch
/-! need_stitches -/
noncomputable abbrev bd_need_stitches_1 : FS :=
    (dDrop (dCall 1 p_need_stitch [] (dCons (dVar 1) dNil)))
noncomputable def m_need_stitches : FS :=
    (dSeq (dIfS (tOr' (tNot' (toTru (dIsi2 "list" "tuple" (dVar 0)))) (toT (dOp gGt (dCB gLen (dConsV (dVar 0) dNil)) (dCon (.int 1200)))))
    (dRaise 2 "value" (dVar 0))
    dNx)
    (dFor (itemsOf (dVar 0)) (tgN 1)
    bd_need_stitches_1))
noncomputable def p_need_stitches : Phi := runB 1 m_need_stitches
/-! totals -/
noncomputable def m_totals : FS :=
    (dSeq (dDrop (dCall 1 p_need_stitches [] (dCons (dVar 0) dNil)))
    (dRet (dTup (dCons (dCB gSum (dConsV (dLc (itemsOf (dVar 0)) (tgN 1) tYesD (dTabI rows_STITCHES 0 (dVar 1)) [1]) dNil)) (dCons (dCB gSum (dConsV (dLc (itemsOf (dVar 0)) (tgN 1) tYesD (dTabI rows_STITCHES 1 (dVar 1)) [1]) dNil)) dNil)))))
noncomputable def p_totals : Phi := runB 1 m_totals
/-! _law_sums -/
noncomputable def m__law_sums : FS :=
    (dSeq (dAsg 1 (dCB gDict (dConsV (dLc (itemsOf (dCall 0 p__law_table [] dNil)) (tgN 2) tYesD (dTup (dCons (dOp gIx (dVar 2) (dCon (.int 0))) (dCons (dVar 2) dNil))) [2]) dNil)))
    (dRet (dLst (dCons (dCB gSum (dConsV (dLc (itemsOf (dVar 0)) (tgN 3) tYesD (dOp gIx (dDGet (dVar 1) (dVar 3)) (dCon (.int 1))) [3]) dNil)) (dCons (dCB gSum (dConsV (dLc (itemsOf (dVar 0)) (tgN 3) tYesD (dOp gIx (dDGet (dVar 1) (dVar 3)) (dCon (.int 2))) [3]) dNil)) dNil)))))
noncomputable def p__law_sums : Phi := runB 3 m__law_sums
end SL.Pk

local macro_rules | `(tactic| walk_at "dl") => `(tactic| simp only [
  SL.s_then_ok, SL.s_then_exc, SL.s_then_bad, SL.s_toF_ok, SL.s_toF_exc, SL.s_toF_bad, SL.s_var, SL.s_var_dat, SL.s_var_own, SL.s_var_scr, SL.s_con, SL.s_view_new, SL.s_view_own,
  SL.s_view_dat, SL.s_vwD_ref, SL.s_vw_lst, SL.s_vw_dct, SL.s_nt_lst, SL.s_nt_dct, SL.s_vwD_non, SL.s_vwD_bl, SL.s_vwD_int, SL.s_vwD_str, SL.s_vwD_lst, SL.s_vwD_tup, SL.s_vwD_dct,
  SL.s_vwD_obj, SL.s_vw_obj, SL.s_nt_obj, SL.s_D_lst, SL.s_D_dct, SL.s_D_obj, SL.s_optE_some, SL.s_optE_none, SL.s_vw2, SL.s_op, SL.s_op1, SL.s_op2, SL.s_vw1, SL.s_un, SL.s_un1,
  SL.s_toT, SL.s_toT1, SL.s_trO, SL.s_toTru, SL.s_toTru1, SL.s_and, SL.s_and_t, SL.s_and_f, SL.s_or, SL.s_or_t, SL.s_or_f, SL.s_not, SL.s_not1, SL.s_tand, SL.s_tand_t, SL.s_tand_f,
  SL.s_tor, SL.s_tor_t, SL.s_tor_f, SL.s_tnot, SL.s_tnot1, SL.s_if, SL.s_if_t, SL.s_if_f, SL.s_ch, SL.s_ch1, SL.s_ch2, SL.s_chA, SL.s_chB_t, SL.s_chB_f, SL.s_frz, SL.s_frz_dat,
  SL.s_cell, SL.s_cell_dat, SL.s_cell_new, SL.s_frz_scr, SL.s_frz_new, SL.s_nil, SL.s_cons, SL.s_consV, SL.s_cons1, SL.s_cons2, SL.s_datAll_nil, SL.s_datAll_cons, SL.s_tup, SL.s_lst,
  SL.s_tup1, SL.s_lst1, SL.s_tupO, SL.s_lstO, SL.s_cb, SL.s_cb1, SL.s_cbO, SL.s_va_nil, SL.s_va_cons, SL.s_consO, SL.s_call, SL.s_call1, SL.s_callK, SL.s_callK1, SL.s_callK2,
  SL.s_isi, SL.s_isi1, SL.s_isi_int_non, SL.s_isi_int_bl, SL.s_isi_int_int, SL.s_isi_int_str, SL.s_isi_int_lst, SL.s_isi_int_tup, SL.s_isi_int_dct, SL.s_isi_bool_non,
  SL.s_isi_bool_bl, SL.s_isi_bool_int, SL.s_isi_bool_str, SL.s_isi_bool_lst, SL.s_isi_bool_tup, SL.s_isi_bool_dct, SL.s_isi_str_non, SL.s_isi_str_bl, SL.s_isi_str_int,
  SL.s_isi_str_str, SL.s_isi_str_lst, SL.s_isi_str_tup, SL.s_isi_str_dct, SL.s_isi_list_non, SL.s_isi_list_bl, SL.s_isi_list_int, SL.s_isi_list_str, SL.s_isi_list_lst,
  SL.s_isi_list_tup, SL.s_isi_list_dct, SL.s_isi_tuple_non, SL.s_isi_tuple_bl, SL.s_isi_tuple_int, SL.s_isi_tuple_str, SL.s_isi_tuple_lst, SL.s_isi_tuple_tup, SL.s_isi_tuple_dct,
  SL.s_isi_dict_non, SL.s_isi_dict_bl, SL.s_isi_dict_int, SL.s_isi_dict_str, SL.s_isi_dict_lst, SL.s_isi_dict_tup, SL.s_isi_dict_dct, SL.s_seq, SL.s_seq_bk, SL.s_seq_ct, SL.s_seq_rt,
  SL.s_seq_exc, SL.s_seq_bad, SL.s_seq_nx, SL.s_nx, SL.s_bk, SL.s_ct, SL.s_badS, SL.s_drop, SL.s_drop1, SL.s_ret, SL.s_ret1, SL.s_retN, SL.s_retV, SL.s_retV_dat, SL.s_retV_own,
  SL.s_retV_scr, SL.s_ifS, SL.s_ifS_t, SL.s_ifS_f, SL.s_setS_dat, SL.s_setS_new, SL.s_setS_scr, SL.s_nxO, SL.s_asg, SL.s_asg1, SL.s_par, SL.s_par1, SL.s_parO, SL.s_fz, SL.s_frzS,
  SL.s_frzS_own, SL.s_frzS_dat, SL.s_frzS_un, SL.s_getO, SL.s_getO_own, SL.s_getO_cell, SL.s_putO, SL.s_putO_own, SL.s_putO_cell, SL.s_app, SL.s_appS, SL.s_app1, SL.s_appO, SL.s_sx,
  SL.s_sx1, SL.s_sxG, SL.s_sx2, SL.s_sxO, SL.s_sxP, SL.s_for, SL.s_for1, SL.s_for2, SL.s_tgN, SL.s_tgT, SL.s_tgAll_nil, SL.s_tgAll_cons, SL.s_tgA1, SL.s_unp, SL.s_unp1, SL.s_while,
  SL.s_items, SL.s_items_l, SL.s_items_t, SL.s_items_s, SL.s_items_r, SL.s_r1, SL.s_r11, SL.s_r2, SL.s_r21, SL.s_r3, SL.s_r31, SL.s_en, SL.s_en1, SL.s_zip, SL.s_zip1, SL.s_lc,
  SL.s_lc1, SL.s_lc2, SL.s_yes, SL.s_lenS, SL.s_lenO, SL.s_ixS, SL.s_ixSP, SL.s_ixS1, SL.s_ixSO, SL.s_pin, SL.s_pinO, SL.s_scope, SL.s_cut_nx, SL.s_cut_rt, SL.s_cutK, SL.s_und_tab,
  SL.s_runB, SL.s_runO, SL.s_run_nx, SL.s_run_dat, SL.s_run_new, SL.s_run_scr, SL.s_run_exc, SL.s_sv_nil, SL.s_sv_cons, SL.s_svC, SL.s_svO_dat, SL.s_svO_scr, SL.s_gSub, SL.s_gLt,
  SL.s_gLe, SL.s_gGt, SL.s_gGe, SL.s_gAdd, SL.s_gMul, SL.s_gFdiv, SL.s_gMod, SL.s_gPow, SL.s_gNeg, SL.s_gAddL, SL.s_gAddS, SL.s_gEq, SL.s_gNe, SL.s_eq_int, SL.s_eq_bl, SL.s_eq_str,
  SL.s_eq_nn, SL.s_eq_ni, SL.s_eq_in, SL.s_eq_ns, SL.s_eq_sn, SL.s_eq_si, SL.s_eq_is, SL.s_gIsN_non, SL.s_gIsN_int, SL.s_gIsN_bl, SL.s_gIsN_str, SL.s_gIsN_lst, SL.s_gIsN_tup,
  SL.s_gIsN_dct, SL.s_gNotN_non, SL.s_gNotN_int, SL.s_gNotN_bl, SL.s_gNotN_str, SL.s_gNotN_lst, SL.s_gNotN_tup, SL.s_gNotN_dct, SL.s_gIx_l, SL.s_gIx_t, SL.s_gIx_s, SL.s_gLen_l,
  SL.s_gLen_t, SL.s_gLen_s, SL.s_gMax, SL.s_gMin, SL.s_gAbs, SL.s_gInt, SL.s_gIntB, SL.s_gList_l, SL.s_gList_t, SL.s_gRepr, SL.s_tr_non, SL.s_tr_bl, SL.s_tr_int, SL.s_tr_lst,
  SL.s_tr_tup, SL.s_tr_str, SL.arr, SL.atI0, SL.atI1, SL.atI2, SL.atI3, SL.atI4, SL.atI5, SL.ixN_4_0, SL.ixN_4_3, SL.mulB_l, SL.mulB_r, List.getElem?_cons_zero,
  List.getElem?_cons_succ, List.set_cons_zero, List.set_cons_succ, List.length_cons, List.length_nil, List.cons_append, List.nil_append, List.append_nil, List.replicate_succ,
  List.replicate_zero, List.length_set, Option.map_some, Option.map_none, Option.bind_some, List.map_cons, List.map_nil, List.isEmpty_cons, List.isEmpty_nil, List.take_succ_cons,
  List.take_zero, List.drop_succ_cons, List.drop_zero, List.drop_nil, List.take_nil, ite_true, ite_false, Bool.true_and, Bool.and_true, Bool.true_or, Bool.or_true, Bool.false_or,
  Bool.or_false, Bool.false_and, Bool.and_false, Bool.not_true, Bool.not_false, Bool.false_eq_true, eq_self, decide_true, decide_false, Nat.lt_add_one, Nat.zero_lt_succ,
  Nat.reduceAdd, Nat.reduceLT, Nat.reduceLeDiff, Int.reduceLT, Int.reduceLE, Int.reducePow, Int.reduceToNat, Int.reduceNeg, Int.reduceAbs, Int.reduceMul, Int.reduceAdd,
  Int.reduceSub, Int.reduceGT, Int.reduceEq, Int.cast_ofNat_Int, and_self, true_and, and_true, SL.x_raise, SL.x_raise1, SL.x_caught, SL.x_caughtO, SL.x_caught_ok, SL.x_caught_exc,
  SL.x_kKn, SL.x_try, SL.x_try_nx, SL.x_try_rt, SL.x_try_exc, SL.x_kKnS, SL.x_cat_nil, SL.x_cat, SL.x_cat_t, SL.x_cat_f, SL.x_noExc_nx, SL.x_noExc_rt, SL.x_hBare, SL.x_hList,
  SL.x_hListO, SL.x_hVal, SL.x_hValO, SL.x_hi_nil, SL.x_hi_cons, SL.x_hiO, SL.x_hi_s, SL.x_hi_f, SL.x_hi_i, SL.x_lk_h, SL.x_retC, SL.x_isi2, SL.x_isi21, SL.x_isi_lt_non,
  SL.x_isi_lt_bl, SL.x_isi_lt_int, SL.x_isi_lt_str, SL.x_isi_lt_lst, SL.x_isi_lt_tup, SL.x_isi_lt_dct, SL.x_inT, SL.x_inT1, SL.x_inTO, SL.x_tab, SL.x_tab1, SL.x_tabO, SL.x_tabR,
  SL.x_dget, SL.x_dget1, SL.x_dget2, SL.x_dgO, SL.x_dict0, SL.x_dict1, SL.x_gSum, SL.x_gTuple_l, SL.x_gTuple_t, SL.x_gDict, SL.x_reprD_tup, SL.x_reprD_lst, SL.x_reprD_int,
  SL.x_reprD_str, SL.x_reprD_bl, SL.x_reprD_non, SL.x_gMulL, SL.x_opX, SL.x_opX1, SL.x_opX2, SL.x_deepO, SL.x_optF_non, SL.x_optF_bl, SL.x_optF_int, SL.x_optF_str, SL.x_deep_dat,
  SL.x_deep_newl, SL.x_deep_ownl, SL.x_deep_newd, SL.x_deep_ownd, SL.x_cbX, SL.x_cbX1, SL.x_cbXO, SL.x_deepAll_nil, SL.x_deepAll_cons, SL.x_appE, SL.x_appE1, SL.x_appEO, SL.x_appE3,
  SL.x_appE4, SL.x_lstOf, SL.x_popE, SL.x_popE1, SL.x_popEO, SL.x_setKE, SL.x_setKE0, SL.x_setKE1, SL.x_setKE2, SL.x_putKO, SL.x_dctOf, SL.x_key_s, SL.x_key_i, SL.x_popKE,
  SL.x_popKE1, SL.x_popKE2, SL.x_popKE3, SL.x_popKO, SL.x_sl, SL.x_sl1, SL.x_sl2, SL.x_sl3, SL.x_slO_l, SL.x_slO_s, SL.x_oNone, SL.x_oSome, SL.x_oS1, SL.x_cut_to, SL.x_cut_from,
  SL.x_ext, SL.x_extS, SL.x_ext1, SL.x_extO, SL.x_res8_l, SL.x_res8_t, SL.x_res8_str, SL.x_res8_int, SL.x_res8_bl, SL.x_res8_non, SL.x_res7_str, SL.x_res7_int, SL.x_res7_bl,
  SL.x_res7_non, SL.x_optAll_nil, SL.x_optAll_some, SL.x_idx, SL.x_idx1, SL.x_idxA, SL.x_idx2, SL.x_idxB, SL.x_idxR, SL.x_gMax1, SL.x_gMin1, SL.x_kget, SL.x_kget1, SL.x_kget2,
  SL.x_kgetO, SL.x_gUp, SL.x_gIn_l, SL.x_gIn_t, SL.x_ss, SL.x_ss1, SL.x_ssO, SL.x_all, SL.x_all1, SL.x_allO, SL.x_mulX_i, SL.x_mulX_l, SL.x_mulX_s, SL.x_inX_s, SL.x_inX_l,
  SL.x_inX_t, SL.x_inXO, SL.x_lr1, SL.x_lr11, SL.x_lr2, SL.x_lr21, SL.x_lr22, SL.x_enT, SL.x_enT1, SL.x_setKI, SL.x_setKI1, SL.x_setKI2, SL.x_setKI3, SL.x_putKS, SL.x_cutS_to,
  SL.x_cutS_from, SL.x_neK, SL.x_neKO, SL.x_neK_s, SL.x_neK_l, SL.x_neK_i, SL.x_inD_t, SL.x_inD_s, SL.x_inD_l, SL.x_inI_i, SL.x_inI_s, SL.x_inI_l, SL.x_inIO, SL.x_gShl, SL.x_gShr,
  SL.x_gOdd, SL.x_gJoin, SL.x_joinO, SL.x_dvals, SL.x_dvals1, SL.x_notK, SL.x_notKO, SL.x_notT, SL.x_notT1, SL.x_notTO, SL.x_aug, SL.x_aug1, SL.x_aug2, SL.x_augO, List.length_append,
  List.contains_cons, List.contains_nil, Nat.reduceBEq, Nat.reduceEqDiff, Option.bind_none, List.map_append, *])
/-! KQ: what the shared mirrors answer (SL): the box, is_stitch, need_stitch, the same error, the law's outer loop. -/
namespace SL.Pk
open PySem L2
def nms : List Str := ["k", "p", "sl", "yo", "m1", "m1p", "kfb", "pfb", "k2tog", "p2tog", "ssk", "ssp", "cdd", "cddp", "bo"]
theorem nms_eq : rows_STITCHES.map (·.1) = nms := rfl
/-- what is known of a thing's kind -/
def kd (d : D) : Bool := (kindS d).isSome
/-- is it a stitch -/
def isSt (d : D) : Bool := match d with
  | .str z => decide (z ∈ nms)
  | _ => false
abbrev q_law : Str := (("law" : Str) ++ ".<locals>.") ++ "<lambda>"
abbrev TB (P : Addr) : CO := .tab P q_law
theorem lbox_ok (c : Int) (cs : List CO) : ∃ b, p__law_box [.dat (.int c)] cs = .ok (.new b, cs) ∧ Bc b 0 := box_c c cs
theorem names_ok (cs : List CO) : p__law_names [] cs = .ok (.new (.lst (nms.map D.str)), cs) := by rfl
theorem is_stitch_ok {d x : D} {cs : List CO} (v : d.vw cs = some x) (h : kd x = true) : p_is_stitch [.dat d] cs = .ok (.dat (.bl (isSt x)), cs) := by
  have en := nms_eq
  unfold p_is_stitch m_is_stitch isSt
  unfold kd at h
  cases x with
  | non => walk_at "dl"
  | bl b => walk_at "dl"
  | int i => walk_at "dl"
  | str x => walk_at "dl"
  | lst xs => walk_at "dl"
  | tup xs => walk_at "dl"
  | dct xs => walk_at "dl"
  | obj C fs => cases h
  | ref k => cases h
theorem need_stitch_ok {d x : D} {cs : List CO} (v : d.vw cs = some x) (h : kd x = true) (h2 : isSt x = true) : p_need_stitch [.dat d] cs = .ok (.dat .non, cs) := by
  have e1 := is_stitch_ok v h
  unfold p_need_stitch m_need_stitch
  walk_at "dl"
theorem need_stitch_no {d x : D} {cs : List CO} (v : d.vw cs = some x) (h : kd x = true) (h2 : isSt x = false) : p_need_stitch [.dat d] cs = .exc 1 [("value", d)] cs := by
  have e1 := is_stitch_ok v h
  unfold p_need_stitch m_need_stitch
  walk_at "dl"
/-! ### the table's numbers -/
def cellI (z : Str) (j : Int) : Int := match (rowOf rows_STITCHES z).bind fun row => atI row j with
  | some (.int i) => i
  | _ => 0
def tkI (z : Str) : Int := cellI z 0
def mkI (z : Str) : Int := cellI z 1
def sideS (z : Str) : Str := match (rowOf rows_STITCHES z).bind fun row => atI row 2 with
  | some (.str i) => i
  | _ => ""
theorem all_nms {P : Str → Prop} (h : ∀ i : Fin 15, P (nms.get ⟨i.1, i.2⟩)) {z : Str} (hz : z ∈ nms) : P z := by
  obtain ⟨i, hi, rfl⟩ := List.mem_iff_getElem.mp hz
  exact h ⟨i, hi⟩
theorem tab_ok {z : Str} (h : z ∈ nms) : ((rowOf rows_STITCHES z).bind fun row => atI row 0) = some (.int (tkI z)) ∧ ((rowOf rows_STITCHES z).bind fun row => atI row 1) = some (.int (mkI z)) ∧ ((rowOf rows_STITCHES z).bind fun row => atI row 2) = some (.str (sideS z)) := by
  refine all_nms (P := fun z => ((rowOf rows_STITCHES z).bind fun row => atI row 0) = some (.int (tkI z)) ∧ ((rowOf rows_STITCHES z).bind fun row => atI row 1) = some (.int (mkI z)) ∧ ((rowOf rows_STITCHES z).bind fun row => atI row 2) = some (.str (sideS z))) ?_ h
  intro i
  match i with
  | 0 => exact ⟨rfl, rfl, rfl⟩
  | 1 => exact ⟨rfl, rfl, rfl⟩
  | 2 => exact ⟨rfl, rfl, rfl⟩
  | 3 => exact ⟨rfl, rfl, rfl⟩
  | 4 => exact ⟨rfl, rfl, rfl⟩
  | 5 => exact ⟨rfl, rfl, rfl⟩
  | 6 => exact ⟨rfl, rfl, rfl⟩
  | 7 => exact ⟨rfl, rfl, rfl⟩
  | 8 => exact ⟨rfl, rfl, rfl⟩
  | 9 => exact ⟨rfl, rfl, rfl⟩
  | 10 => exact ⟨rfl, rfl, rfl⟩
  | 11 => exact ⟨rfl, rfl, rfl⟩
  | 12 => exact ⟨rfl, rfl, rfl⟩
  | 13 => exact ⟨rfl, rfl, rfl⟩
  | 14 => exact ⟨rfl, rfl, rfl⟩
theorem small_ok {z : Str} (h : z ∈ nms) : 0 ≤ tkI z ∧ tkI z ≤ 3 ∧ 0 ≤ mkI z ∧ mkI z ≤ 2 ∧ z ≠ "" ∧ sideS z ∈ nms := by
  refine all_nms (P := fun z => 0 ≤ tkI z ∧ tkI z ≤ 3 ∧ 0 ≤ mkI z ∧ mkI z ≤ 2 ∧ z ≠ "" ∧ sideS z ∈ nms) ?_ h
  decide +kernel
/-! ### the same error with the very object -/
abbrev more : Str := "more"
inductive SameOk (cs : List CO) : D → Prop
  | l {k : Nat} {xs : List D} : cs[k]? = some (.lst xs) → pureAll xs = true → depAll xs ≤ 3 → reprOk (.lst (xs ++ [.str more])) = true → xs.length < 16777216 → SameOk cs (.ref k)
  | d {k : Nat} {kvs : List (Key × D)} {ps : List (PyData × PyData)} : cs[k]? = some (.dct kvs) → pureKv (kvs ++ [(.inr more, .int 7)]) = true → kvPy (kvs ++ [(.inr more, .int 7)]) = some ps → reprDOk ps = true → kvs.length < 16777216 → (∀ q ∈ kvs, q.1 ≠ .inr more) → SameOk cs (.ref k)
  | t {xs : List D} : pureAll xs = true → depAll xs ≤ 3 → reprOk (.tup xs) = true → SameOk cs (.tup xs)
  | non : SameOk cs .non
  | bl (b : Bool) : SameOk cs (.bl b)
  | int {i : Int} : reprOk (.int i) = true → SameOk cs (.int i)
  | str {z : Str} : reprOk (.str z) = true → SameOk cs (.str z)
theorem same_told {s : Str} {cs : List CO} : p__law_same [.dat (.lst [.str s]), .dat (.lst [.str s])] cs = .ok (.dat (.bl true), cs) := by
  unfold p__law_same m__law_same
  walk_at "dl"
theorem pureAll_append : ∀ {xs ys : List D}, pureAll xs = true → pureAll ys = true → pureAll (xs ++ ys) = true
  | [], _, _, h => h
  | x :: xs, ys, h, h2 => by
    have q := Bool.and_eq_true_iff.mp (show (D.pure x && pureAll xs) = true from h)
    show (D.pure x && pureAll (xs ++ ys)) = true
    rw [q.1, pureAll_append q.2 h2]; rfl
theorem depAll_append : ∀ xs ys : List D, depAll (xs ++ ys) = max (depAll xs) (depAll ys)
  | [], ys => by simp [depAll]
  | x :: xs, ys => by rw [List.cons_append, depAll, depAll, depAll_append xs ys, Nat.max_assoc]
theorem resD_ref {cs : List CO} {k n : Nat} {c : CO} {x : D} (h : cs[k]? = some c) (v : c.vw = some x) (p : x.pure = true) (hd : x.dep < n) : resD cs (n + 1) (.ref k) = some x := by
  show (cs[k]?.bind CO.vw).bind (resD cs n) = _
  rw [h]
  show (c.vw).bind _ = _
  rw [v]
  exact resD_pure x n p hd
theorem same_ok {s : Str} {o : D} {cs : List CO} (h : SameOk cs o) : p__law_same [.dat (.lst [.str s, o]), .dat (.lst [.str s, o])] cs = .ok (.dat (.bl true), cs) := by
  cases h with
  | @l k xs hc hp hd hr hl =>
    have r7 : resD cs 7 (.ref k) = some (.lst xs) := resD_ref hc rfl hp (show depAll xs + 1 < 6 by omega)
    have r8 : resD (cs.set k (.lst (xs ++ [.str more]))) 8 (.ref k) = some (.lst (xs ++ [.str more])) := resD_ref (set_at hc) rfl (pureAll_append hp rfl) (show depAll (xs ++ [.str more]) + 1 < 7 by rw [depAll_append]; have : depAll [D.str more] = 0 := rfl; omega)
    have a1 := set_at (y := .lst (xs ++ [.str more])) hc
    have a2 : (cs.set k (.lst (xs ++ [.str more]))).set k (.lst xs) = cs := by rw [List.set_set]; exact set_same hc
    unfold p__law_same m__law_same
    clear hp hd
    walk_at "dl"
  | @d k kvs ps hc hp hk hr hl hn =>
    have pk : pureKv kvs = true := by
      clear hk hn hr hl hc
      induction kvs with
      | nil => rfl
      | cons q r ih =>
        have q2 := Bool.and_eq_true_iff.mp (show (D.pure q.2 && pureKv (r ++ [(.inr more, .int 7)])) = true from hp)
        show (D.pure q.2 && pureKv r) = true
        rw [q2.1, ih q2.2]; rfl
    have r7 : resD cs 7 (.ref k) = some (.dct kvs) := resD_ref hc rfl pk (show 0 < 6 from Nat.zero_lt_succ _)
    have r8 : resD (cs.set k (.dct (kvs ++ [(.inr more, .int 7)]))) 8 (.ref k) = some (.dct (kvs ++ [(.inr more, .int 7)])) := resD_ref (set_at hc) rfl hp (show 0 < 7 from Nat.zero_lt_succ _)
    have a1 := set_at (y := .dct (kvs ++ [(.inr more, .int 7)])) hc
    have a2 : (cs.set k (.dct (kvs ++ [(.inr more, .int 7)]))).set k (.dct kvs) = cs := by rw [List.set_set]; exact set_same hc
    have g0 := putD_new (d := .int 7) hn
    have g1 : (getD (kvs ++ [(.inr more, .int 7)]) (.inr more)).isSome = true := by rw [getD_new hn]; rfl
    have g2 := dropD_new (d := .int 7) hn
    have g3 : gReprD [.dct (kvs ++ [(.inr more, .int 7)])] = some (.dat (.str (PyData.shown (.dict ps)))) := by
      show (match kvPy (kvs ++ [(.inr more, .int 7)]) with | some ps => if reprDOk ps = true then some (RV.dat (.str (PyData.shown (.dict ps)))) else none | none => none) = _
      rw [hk]; dsimp only; rw [if_pos hr]
    unfold p__law_same m__law_same
    clear hp hk hn pk hr
    walk_at "dl"
  | @t xs hp hd hr =>
    have r7 : resD cs 7 (.tup xs) = some (.tup xs) := resD_pure _ _ hp (show depAll xs + 1 < 7 by omega)
    have r8 : resD cs 8 (.tup xs) = some (.tup xs) := resD_pure _ _ hp (show depAll xs + 1 < 8 by omega)
    unfold p__law_same m__law_same
    walk_at "dl"
  | non =>
    have h0 : reprOk .non = true := reprOk_of rfl (by decide) (by decide)
    unfold p__law_same m__law_same
    walk_at "dl"
  | bl b =>
    have h0 : reprOk (.bl b) = true := reprOk_of rfl (Nat.le_of_ble_eq_true rfl) (Nat.le_of_ble_eq_true rfl)
    unfold p__law_same m__law_same
    walk_at "dl"
  | @int i h =>
    unfold p__law_same m__law_same
    walk_at "dl"
  | @str z h =>
    unfold p__law_same m__law_same
    walk_at "dl"
/-! ### the law's outer loop -/
def mLaw (M : Int) (B : FS) : FS :=
    (dSeq (dFor (rng1 (dConsV (dCB gMax (dConsV (dCon (.int 2)) (dConsV (dCB gMin (dConsV (dCon (.int M)) (dConsV (dLenS 0) dNil))) dNil))) dNil)) (tgN 1)
    (dScope B))
    (dRet (dCon (.bl true))))
/-- what a turn leaves: the script in slot 0, as many slots, the law's table in cell 0 -/
def OkT (P : Addr) (ns : List Int) (n : Nat) (r : Flw) : Prop := ∃ ys more, r = .nx (.scr ns :: ys) (TB P :: more) ∧ ys.length = n
theorem scope_ok {P : Addr} {ns : List Int} {n : Nat} {B : FS} {sl : List SV} (h : OkT P ns n (B sl [TB P])) : ∃ ys, dScope B sl [TB P] = .nx (.scr ns :: ys) [TB P] ∧ ys.length = n := by
  obtain ⟨ys, m, e, l⟩ := h
  refine ⟨ys.map (SV.cut 1), ?_, by rw [List.length_map]; exact l⟩
  rw [s_scope, e]
  show (if ((TB P :: m).take 1).all (CO.und 1) = true then Flw.nx ((SV.scr ns :: ys).map (SV.cut 1)) ((TB P :: m).take 1) else Flw.bad) = _
  rfl
theorem told_of {M : Int} (hM : 0 ≤ M ∧ M ≤ 100) {B : FS} {P : Addr} {n : Nat} {ns : List Int} (h : ∀ (k : Nat) (xs : List SV), xs.length = n → OkT P ns (n + 1) (B (.scr ns :: .dat (.int k) :: xs) [TB P])) : runB (n + 1) (mLaw M B) [.scr ns] [TB P] = .ok (.dat (.bl true), [TB P]) := by
  obtain ⟨m0, m1⟩ := hM
  obtain ⟨N, hN, hN'⟩ : ∃ N : Int, (if (if (ns.length : Int) < M then (ns.length : Int) else M) > 2 then (if (ns.length : Int) < M then (ns.length : Int) else M) else 2) = N ∧ 2 ≤ N ∧ N ≤ 100 := ⟨_, rfl, by split <;> omega, by split <;> (split <;> omega)⟩
  obtain ⟨n0, n1⟩ := hN'
  have lp := loop_inv (t := tgN 1) (body := dScope B) (fun _ sl c => c = [TB P] ∧ ∃ xs : List SV, sl = .scr ns :: xs ∧ xs.length = n + 1) (rngL 0 N.toNat) 0 (.scr ns :: List.replicate (n + 1) .un) [TB P] (by
    rintro i d sl c _ hd ⟨rfl, xs, rfl, hx⟩
    obtain ⟨hi, rfl⟩ := rngL_get hd
    obtain ⟨x, xs, rfl⟩ : ∃ x xs', xs = x :: xs' := by
      cases xs with
      | nil => cases hx
      | cons x xs => exact ⟨x, xs, rfl⟩
    obtain ⟨ys, e, l⟩ := scope_ok (h i xs (by simpa using hx))
    refine ⟨.scr ns :: .dat (.int i) :: xs, ?_, _, _, .inl e, rfl, ys, rfl, l⟩
    rw [show (0 : Int) + ((i - 0 : Nat) : Int) = (i : Int) by omega]
    unfold tgN setS
    rw [if_pos (by simp)]
    rfl) ⟨rfl, _, rfl, by simp⟩
  obtain ⟨s2, c2, e, rfl, -⟩ := lp
  have h0 : -4611686018427387904 ≤ N := by omega
  have h1 : N < 4611686018427387904 := by omega
  have e0 : (if M > (ns.length : Int) then (ns.length : Int) else M) = (if (ns.length : Int) < M then (ns.length : Int) else M) := rfl
  clear n0 n1 h m0 m1
  unfold mLaw
  rw [s_runB, s_sv_cons, s_sv_nil, s_svO_scr, s_svC, s_runO]
  generalize List.replicate (n + 1) SV.un = us at *
  walk_at "dl"
end SL.Pk

namespace SL.Pk
open PySem L2 Pk
/-! is_whole -/
noncomputable def m_is_whole : FS :=
    (dRet (dAnd (dIsi "int" (dVar 0)) (dAnd (dNot (dIsi "bool" (dVar 0))) (dChain gLe gLe (dVar 1) (dVar 0) (dVar 2)))))
noncomputable def p_is_whole : Phi := runB 0 m_is_whole
/-! is_count -/
noncomputable def m_is_count : FS :=
    (dRet (dCall 3 p_is_whole [] (dCons (dVar 0) (dCons (dCon (.int 0)) (dCons (dCon (.int 600)) dNil)))))
noncomputable def p_is_count : Phi := runB 0 m_is_count
/-! takes -/
noncomputable def m_takes : FS :=
    (dSeq (dDrop (dCall 1 p_need_stitch [] (dCons (dVar 0) dNil)))
    (dRet (dTabI rows_STITCHES 0 (dVar 0))))
noncomputable def p_takes : Phi := runB 0 m_takes
/-! need_size -/
noncomputable def m_need_size : FS :=
    (dIfS (tNot' (toTru (dCall 3 p_is_whole [] (dCons (dVar 0) (dCons (dVar 1) (dCons (dCon (.int 9999)) dNil))))))
    (dRaise 12 "value" (dVar 0))
    dNx)
noncomputable def p_need_size : Phi := runB 0 m_need_size
/-! spread -/
noncomputable abbrev bd_spread_1 : FS :=
    (dSeq (dAsg 6 (dOp gSub (dOp gFdiv (dOp gMul (dVar 3) (dOp gAdd (dVar 5) (dCon (.int 1)))) (dOp gAdd (dVar 1) (dCon (.int 1)))) (dOp gFdiv (dOp gMul (dVar 3) (dVar 5)) (dOp gAdd (dVar 1) (dCon (.int 1))))))
    (dSeq (dExt 4 (dCons (dOp gMul (dLst (dCons (dCon (.str "k")) dNil)) (dVar 6)) dNil))
    (dIfS (toT (dOp gLt (dVar 5) (dVar 1)))
    (dApp 4 (dCons (dVar 2) dNil))
    dNx)))
noncomputable def m_spread : FS :=
    (dSeq (dIfS (tNot' (toTru (dCall 1 p_is_count [] (dCons (dVar 0) dNil))))
    (dRaise 4 "value" (dVar 0))
    dNx)
    (dSeq (dIfS (tNot' (toTru (dCall 3 p_is_whole [] (dCons (dVar 1) (dCons (dCon (.int 0)) (dCons (dCon (.int 300)) dNil))))))
    (dRaise 11 "value" (dVar 1))
    dNx)
    (dSeq (dDrop (dCall 1 p_need_stitch [] (dCons (dVar 2) dNil)))
    (dSeq (dAsg 3 (dOp gSub (dVar 0) (dOp gMul (dVar 1) (dCall 1 p_takes [] (dCons (dVar 2) dNil)))))
    (dSeq (dIfS (toT (dOp gLt (dVar 3) (dCon (.int 0))))
    (dRaise 19 "lacking" (dOp gSub (dCon (.int 0)) (dVar 3)))
    dNx)
    (dSeq (dAsg 4 (dLst dNil))
    (dSeq (dFor (rng1 (dConsV (dOp gAdd (dVar 1) (dCon (.int 1))) dNil)) (tgN 5)
    bd_spread_1)
    (dRetV 4))))))))
noncomputable def p_spread : Phi := runB 4 m_spread
/-! width_of -/
noncomputable abbrev bd_width_of_1 : FS :=
    (dPar 5 6 (dCons (dVar 6) (dCons (dOp gMod (dVar 5) (dVar 6)) dNil)))
noncomputable def m_width_of : FS :=
    (dSeq (dIfS (tNot' (toTru (dCall 1 p_is_count [] (dCons (dVar 0) dNil))))
    (dRaise 4 "value" (dVar 0))
    dNx)
    (dSeq (dDrop (dCall 2 p_need_size [] (dCons (dVar 1) (dCons (dCon (.int 1)) dNil))))
    (dSeq (dDrop (dCall 2 p_need_size [] (dCons (dVar 2) (dCons (dCon (.int 1)) dNil))))
    (dSeq (dPar 3 4 (dCons (dOp gMul (dVar 0) (dVar 2)) (dCons (dVar 1) dNil)))
    (dSeq (dPar 5 6 (dCons (dVar 3) (dCons (dVar 4) dNil)))
    (dSeq (dWhile 10000 (toT (dOp gGt (dVar 6) (dCon (.int 0))))
    bd_width_of_1)
    (dRet (dTup (dCons (dOp gFdiv (dVar 3) (dVar 5)) (dCons (dOp gFdiv (dVar 4) (dVar 5)) dNil))))))))))
noncomputable def p_width_of : Phi := runB 4 m_width_of
/-! cast_on -/
noncomputable abbrev bd_cast_on_1 : FS :=
    (dSeq (dAsg 7 (dCB gAbs (dConsV (dOp gSub (dOp gMul (dVar 6) (dVar 2)) (dOp gMul (dVar 0) (dVar 1))) dNil)))
    (dIfS (tOr' (toT (dOp gIsN (dVar 5) (dCon .non))) (toT (dOp gLt (dVar 7) (dOp gIx (dVar 5) (dCon (.int 0))))))
    (dAsg 5 (dTup (dCons (dVar 7) (dCons (dVar 6) dNil))))
    dNx))
noncomputable def m_cast_on : FS :=
    (dSeq (dDrop (dCall 2 p_need_size [] (dCons (dVar 0) (dCons (dCon (.int 0)) dNil))))
    (dSeq (dDrop (dCall 2 p_need_size [] (dCons (dVar 1) (dCons (dCon (.int 1)) dNil))))
    (dSeq (dDrop (dCall 2 p_need_size [] (dCons (dVar 2) (dCons (dCon (.int 1)) dNil))))
    (dSeq (dDrop (dCall 2 p_need_size [] (dCons (dVar 3) (dCons (dCon (.int 1)) dNil))))
    (dSeq (dIfS (tNot' (toTru (dCall 3 p_is_whole [] (dCons (dVar 4) (dCons (dCon (.int 0)) (dCons (dOp gSub (dVar 3) (dCon (.int 1))) dNil))))))
    (dRaise 12 "value" (dVar 4))
    dNx)
    (dSeq (dAsg 5 (dCon .non))
    (dSeq (dFor (rng3 (dConsV (dVar 4) (dConsV (dCon (.int 601)) (dConsV (dVar 3) dNil)))) (tgN 6)
    bd_cast_on_1)
    (dRet (dIf (toT (dOp gIsN (dVar 5) (dCon .non))) (dCon .non) (dOp gIx (dVar 5) (dCon (.int 1))))))))))))
noncomputable def p_cast_on : Phi := runB 3 m_cast_on
end SL.Pk

/-! KQb: whole numbers, sizes; spread, width_of, cast_on. -/
namespace SL.Pk
open PySem L2
/-- a whole number within -/
def isWh (x : D) (lo hi : Int) : Bool := match x with
  | .int i => decide (lo ≤ i) && decide (i ≤ hi)
  | _ => false
theorem is_whole_ok {d x : D} {lo hi : Int} {cs : List CO} (v : d.vw cs = some x) (h : kd x = true) : p_is_whole [.dat d, .dat (.int lo), .dat (.int hi)] cs = .ok (.dat (.bl (isWh x lo hi)), cs) := by
  unfold p_is_whole m_is_whole isWh
  unfold kd at h
  cases x with
  | non => walk_at "dl"
  | bl b => walk_at "dl"
  | int i =>
    by_cases h1 : lo ≤ i
    · have h1 := decide_eq_true h1
      walk_at "dl"
    · have h1 := decide_eq_false h1
      walk_at "dl"
  | str x => walk_at "dl"
  | lst xs => walk_at "dl"
  | tup xs => walk_at "dl"
  | dct xs => walk_at "dl"
  | obj C fs => cases h
  | ref k => cases h
theorem is_count_ok {d x : D} {cs : List CO} (v : d.vw cs = some x) (h : kd x = true) : p_is_count [.dat d] cs = .ok (.dat (.bl (isWh x 0 600)), cs) := by
  have e := is_whole_ok (lo := 0) (hi := 600) v h
  unfold p_is_count m_is_count
  walk_at "dl"
theorem need_size_ok {d x : D} {lo : Int} {cs : List CO} (v : d.vw cs = some x) (h : kd x = true) (w : isWh x lo 9999 = true) : p_need_size [.dat d, .dat (.int lo)] cs = .ok (.dat .non, cs) := by
  have e := is_whole_ok (lo := lo) (hi := 9999) v h
  unfold p_need_size m_need_size
  walk_at "dl"
theorem need_size_no {d x : D} {lo : Int} {cs : List CO} (v : d.vw cs = some x) (h : kd x = true) (w : isWh x lo 9999 = false) : p_need_size [.dat d, .dat (.int lo)] cs = .exc 12 [("value", d)] cs := by
  have e := is_whole_ok (lo := lo) (hi := 9999) v h
  unfold p_need_size m_need_size
  walk_at "dl"
theorem need_size_i {i lo : Int} {cs : List CO} (h1 : lo ≤ i) (h2 : i ≤ 9999) : p_need_size [.dat (.int i), .dat (.int lo)] cs = .ok (.dat .non, cs) :=
  need_size_ok (x := .int i) rfl rfl (by show (decide _ && decide _) = true; rw [decide_eq_true h1, decide_eq_true h2]; rfl)
theorem takes_ok {z : Str} {cs : List CO} (h : z ∈ nms) : p_takes [.dat (.str z)] cs = .ok (.dat (.int (tkI z)), cs) := by
  have e := need_stitch_ok (d := .str z) (cs := cs) rfl rfl (decide_eq_true h)
  have t : ((rowOf rows_STITCHES z).bind fun row => row[0]?) = some (.int (tkI z)) := by
    have t := (tab_ok h).1
    simpa only [atI0] using t
  unfold p_takes m_takes
  walk_at "dl"
/-! ### spread -/
theorem spread_c {a b c : D} {x : D} {cs : List CO} (v : a.vw cs = some x) (h : kd x = true) (w : isWh x 0 600 = false) : p_spread [.dat a, .dat b, .dat c] cs = .exc 4 [("value", a)] cs := by
  have e := is_count_ok v h
  unfold p_spread m_spread
  walk_at "dl"
theorem spread_t {a b c : D} {x y : D} {cs : List CO} (v : a.vw cs = some x) (h : kd x = true) (w : isWh x 0 600 = true) (v2 : b.vw cs = some y) (h2 : kd y = true) (w2 : isWh y 0 300 = false) : p_spread [.dat a, .dat b, .dat c] cs = .exc 11 [("value", b)] cs := by
  have e := is_count_ok v h
  have e2 := is_whole_ok (lo := 0) (hi := 300) v2 h2
  unfold p_spread m_spread
  walk_at "dl"
theorem spread_s {a b c : D} {x y z : D} {cs : List CO} (v : a.vw cs = some x) (h : kd x = true) (w : isWh x 0 600 = true) (v2 : b.vw cs = some y) (h2 : kd y = true) (w2 : isWh y 0 300 = true) (v3 : c.vw cs = some z) (h3 : kd z = true) (w3 : isSt z = false) : p_spread [.dat a, .dat b, .dat c] cs = .exc 1 [("value", c)] cs := by
  have e := is_count_ok v h
  have e2 := is_whole_ok (lo := 0) (hi := 300) v2 h2
  have e3 := need_stitch_no v3 h3 w3
  unfold p_spread m_spread
  walk_at "dl"
theorem wh_i {i lo hi : Int} (h1 : lo ≤ i) (h2 : i ≤ hi) : isWh (.int i) lo hi = true := by
  show (decide _ && decide _) = true; rw [decide_eq_true h1, decide_eq_true h2]; rfl
theorem spread_l {c t : Int} {z : Str} {cs : List CO} (c0 : 0 ≤ c) (c1 : c ≤ 600) (t0 : 0 ≤ t) (t1 : t ≤ 300) (hz : z ∈ nms) (p : c - t * tkI z < 0) : p_spread [.dat (.int c), .dat (.int t), .dat (.str z)] cs = .exc 19 [("lacking", .int (0 - (c - t * tkI z)))] cs := by
  have e := is_count_ok (d := .int c) (cs := cs) rfl rfl
  have w := wh_i c0 c1
  have e2 := is_whole_ok (d := .int t) (lo := 0) (hi := 300) (cs := cs) rfl rfl
  have w2 := wh_i t0 t1
  have e3 := need_stitch_ok (d := .str z) (cs := cs) rfl rfl (decide_eq_true hz)
  have e4 := takes_ok (cs := cs) hz
  obtain ⟨k0, k1, _⟩ := small_ok hz
  have m1 : mulB t (tkI z) = true := mulB_l (by omega) (by omega)
  have lt := decide_eq_true p
  unfold p_spread m_spread
  clear hz
  walk_at "dl"
def gapI (p t : Int) (i : Nat) : Int := p * (i + 1) / (t + 1) - p * i / (t + 1)
def segL (p t : Int) (z : Str) (i : Nat) : List Str := List.replicate (gapI p t i).toNat ("k" : Str) ++ (if (i : Int) < t then [z] else [])
def sprL (p t : Int) (z : Str) : Nat → List Str
  | 0 => []
  | n + 1 => sprL p t z n ++ segL p t z n
theorem div_mono {a b n : Int} (h : a ≤ b) (hn : 0 < n) : a / n ≤ b / n := Int.ediv_le_ediv hn h
theorem gap_pos {p t : Int} (p0 : 0 ≤ p) (t0 : 0 ≤ t) (i : Nat) : 0 ≤ gapI p t i := by
  unfold gapI
  have := div_mono (a := p * i) (b := p * (i + 1)) (n := t + 1) (by rw [Int.mul_add]; omega) (by omega)
  omega
theorem sprL_len {p t : Int} {z : Str} (p0 : 0 ≤ p) (t0 : 0 ≤ t) : ∀ n : Nat, ((sprL p t z n).length : Int) ≤ p * n / (t + 1) + n
  | 0 => by simp [sprL]
  | n + 1 => by
    have ih := sprL_len (z := z) p0 t0 n
    have g := gap_pos p0 t0 n
    have e : gapI p t n = p * (n + 1) / (t + 1) - p * n / (t + 1) := rfl
    have l : ((segL p t z n).length : Int) ≤ gapI p t n + 1 := by
      unfold segL
      rw [List.length_append, List.length_replicate]
      split <;> simp <;> omega
    rw [sprL, List.length_append]
    push_cast
    omega
theorem spread_ok {c t : Int} {z : Str} {cs : List CO} (c0 : 0 ≤ c) (c1 : c ≤ 600) (t0 : 0 ≤ t) (t1 : t ≤ 300) (hz : z ∈ nms) (p0 : 0 ≤ c - t * tkI z) : p_spread [.dat (.int c), .dat (.int t), .dat (.str z)] cs = .ok (.new (.lst ((sprL (c - t * tkI z) t z (t + 1).toNat).map D.str)), cs) := by
  have e := is_count_ok (d := .int c) (cs := cs) rfl rfl
  have w := wh_i c0 c1
  have e2 := is_whole_ok (d := .int t) (lo := 0) (hi := 300) (cs := cs) rfl rfl
  have w2 := wh_i t0 t1
  have e3 := need_stitch_ok (d := .str z) (cs := cs) rfl rfl (decide_eq_true hz)
  have e4 := takes_ok (cs := cs) hz
  obtain ⟨k0, k1, _⟩ := small_ok hz
  have m1 : mulB t (tkI z) = true := mulB_l (by omega) (by omega)
  have lt := decide_eq_false (show ¬ c - t * tkI z < 0 by omega)
  have pl : c - t * tkI z ≤ 600 := by
    have := Int.mul_nonneg t0 k0
    omega
  generalize hp : c - t * tkI z = p at *
  have lp := loop_inv (t := tgN 5) (body := bd_spread_1) (fun i sl c2 => c2 = cs ∧ ∃ x5 x6, sl = [.dat (.int c), .dat (.int t), .dat (.str z), .dat (.int p), .own (.lst ((sprL p t z i).map D.str)), x5, x6]) (rngL 0 (t + 1).toNat) 0 [.dat (.int c), .dat (.int t), .dat (.str z), .dat (.int p), .own (.lst []), .un, .un] cs (by
    rintro i d sl c2 _ hd ⟨rfl, x5, x6, rfl⟩
    obtain ⟨hi, rfl⟩ := rngL_get hd
    rw [show (0 : Int) + ((i - 0 : Nat) : Int) = (i : Int) by omega]
    have i0 : (i : Int) ≤ t := by omega
    refine ⟨_, rfl, ?_⟩
    have g := gap_pos p0 t0 i
    have sl := sprL_len (z := z) p0 t0 i
    have u : ∀ j : Int, j ≤ t + 1 → p * j / (t + 1) ≤ p := fun j hj => by
      have := div_mono (a := p * j) (b := p * (t + 1)) (n := t + 1) (Int.mul_le_mul_of_nonneg_left hj p0) (by omega)
      rw [Int.mul_ediv_cancel _ (by omega)] at this
      exact this
    have u1 := u i (by omega)
    have u2 := u (i + 1) (by omega)
    have u3 : 0 ≤ p * (i : Int) / (t + 1) := Int.ediv_nonneg (Int.mul_nonneg p0 (by omega)) (by omega)
    have sn : (sprL p t z (i + 1)).map D.str = (sprL p t z i).map D.str ++ (List.replicate (gapI p t i).toNat [D.str "k"]).flatten ++ (if (i : Int) < t then [D.str z] else []) := by
      rw [sprL, segL, List.map_append, List.map_append, List.map_replicate, List.flatten_replicate_singleton, List.append_assoc]
      split <;> rfl
    have lR : (List.replicate (gapI p t i).toNat [D.str "k"]).flatten.length = (gapI p t i).toNat := by rw [List.flatten_replicate_singleton, List.length_replicate]
    have lA : ((sprL p t z i).map D.str).length = (sprL p t z i).length := List.length_map ..
    have eG : p * ((i : Int) + 1) / (t + 1) - p * (i : Int) / (t + 1) = gapI p t i := rfl
    have m1 : mulB p ((i : Int) + 1) = true := mulB_l (by omega) (by omega)
    have m2 : mulB p (i : Int) = true := mulB_l (by omega) (by omega)
    have n1 : 0 < t + 1 := by omega
    have n2 : t + 1 < 1073741824 := by omega
    have g1 : -9223372036854775808 ≤ gapI p t i := by omega
    have g2 : gapI p t i < 9223372036854775808 := by omega
    have g3 : 1 * (gapI p t i).toNat ≤ 16777216 := by omega
    rw [sn]
    generalize (sprL p t z i).map D.str = A at *
    generalize gapI p t i = G at *
    generalize hR : (List.replicate G.toNat [D.str "k"]).flatten = R at *
    have h1 : A.length + R.length ≤ 16777216 := by omega
    have h2 : A.length + R.length < 16777216 := by omega
    clear sn u lA lR sl hz e e2 e3 e4 w w2 u1 u2 u3 k0 k1
    by_cases hlt : (i : Int) < t
    · have hd := decide_eq_true hlt
      refine ⟨[.dat (.int c), .dat (.int t), .dat (.str z), .dat (.int p), .own (.lst (A ++ R ++ [.str z])), .dat (.int i), .dat (.int G)], c2, .inl ?_, rfl, _, _, by rw [if_pos hlt]⟩
      unfold bd_spread_1
      clear hlt
      walk_at "dl"
    · have hd := decide_eq_false hlt
      refine ⟨[.dat (.int c), .dat (.int t), .dat (.str z), .dat (.int p), .own (.lst (A ++ R)), .dat (.int i), .dat (.int G)], c2, .inl ?_, rfl, _, _, by rw [if_neg hlt, List.append_nil]⟩
      unfold bd_spread_1
      clear hlt
      walk_at "dl") ⟨rfl, _, _, rfl⟩
  obtain ⟨s2, c2, el, rfl, x5, x6, rfl⟩ := lp
  rw [rngL_length, Nat.zero_add] at el
  have b1 : -4611686018427387904 ≤ t + 1 := by omega
  have b2 : t + 1 < 4611686018427387904 := by omega
  unfold p_spread m_spread
  clear hz p0 pl c0 c1 t0 t1 k0 k1
  walk_at "dl"
/-! ### width_of, cast_on: what is refused -/
theorem width_c {a b c : D} {x : D} {cs : List CO} (v : a.vw cs = some x) (h : kd x = true) (w : isWh x 0 600 = false) : p_width_of [.dat a, .dat b, .dat c] cs = .exc 4 [("value", a)] cs := by
  have e := is_count_ok v h
  unfold p_width_of m_width_of
  walk_at "dl"
theorem width_g {a b c : D} {x y : D} {cs : List CO} (v : a.vw cs = some x) (h : kd x = true) (w : isWh x 0 600 = true) (v2 : b.vw cs = some y) (h2 : kd y = true) (w2 : isWh y 1 9999 = false) : p_width_of [.dat a, .dat b, .dat c] cs = .exc 12 [("value", b)] cs := by
  have e := is_count_ok v h
  have e2 := need_size_no v2 h2 w2
  unfold p_width_of m_width_of
  walk_at "dl"
theorem width_l {a b c : D} {x y z : D} {cs : List CO} (v : a.vw cs = some x) (h : kd x = true) (w : isWh x 0 600 = true) (v2 : b.vw cs = some y) (h2 : kd y = true) (w2 : isWh y 1 9999 = true) (v3 : c.vw cs = some z) (h3 : kd z = true) (w3 : isWh z 1 9999 = false) : p_width_of [.dat a, .dat b, .dat c] cs = .exc 12 [("value", c)] cs := by
  have e := is_count_ok v h
  have e2 := need_size_ok v2 h2 w2
  have e3 := need_size_no v3 h3 w3
  unfold p_width_of m_width_of
  walk_at "dl"
theorem width_1 (cs : List CO) : p_width_of [.dat (.int 600), .dat (.int 9999), .dat (.int 1)] cs = .ok (.dat (.tup [.int 200, .int 3333]), cs) := by kernel_rfl
/-- x is a size from lo on -/
structure Sz (cs : List CO) (d : D) (lo : Int) (b : Bool) : Prop where
  ex : ∃ x, d.vw cs = some x ∧ kd x = true ∧ isWh x lo 9999 = b
theorem Sz.ok {cs : List CO} {d : D} {lo : Int} (h : Sz cs d lo true) : p_need_size [.dat d, .dat (.int lo)] cs = .ok (.dat .non, cs) := by
  obtain ⟨x, a, b, c⟩ := h.ex; exact need_size_ok a b c
theorem Sz.no {cs : List CO} {d : D} {lo : Int} (h : Sz cs d lo false) : p_need_size [.dat d, .dat (.int lo)] cs = .exc 12 [("value", d)] cs := by
  obtain ⟨x, a, b, c⟩ := h.ex; exact need_size_no a b c
theorem Sz.i {cs : List CO} {i lo : Int} {b : Bool} (h : isWh (.int i) lo 9999 = b) : Sz cs (.int i) lo b := ⟨_, rfl, rfl, h⟩
theorem cast_0 {a b c m r : D} {cs : List CO} (h0 : Sz cs a 0 false) : p_cast_on [.dat a, .dat b, .dat c, .dat m, .dat r] cs = .exc 12 [("value", a)] cs := by
  have e0 := h0.no
  unfold p_cast_on m_cast_on
  walk_at "dl"
theorem cast_1 {a b c m r : D} {cs : List CO} (h0 : Sz cs a 0 true) (h1 : Sz cs b 1 false) : p_cast_on [.dat a, .dat b, .dat c, .dat m, .dat r] cs = .exc 12 [("value", b)] cs := by
  have e0 := h0.ok
  have e1 := h1.no
  unfold p_cast_on m_cast_on
  walk_at "dl"
theorem cast_2 {a b c m r : D} {cs : List CO} (h0 : Sz cs a 0 true) (h1 : Sz cs b 1 true) (h2 : Sz cs c 1 false) : p_cast_on [.dat a, .dat b, .dat c, .dat m, .dat r] cs = .exc 12 [("value", c)] cs := by
  have e0 := h0.ok
  have e1 := h1.ok
  have e2 := h2.no
  unfold p_cast_on m_cast_on
  walk_at "dl"
theorem cast_3 {a b c m r : D} {cs : List CO} (h0 : Sz cs a 0 true) (h1 : Sz cs b 1 true) (h2 : Sz cs c 1 true) (h3 : Sz cs m 1 false) : p_cast_on [.dat a, .dat b, .dat c, .dat m, .dat r] cs = .exc 12 [("value", m)] cs := by
  have e0 := h0.ok
  have e1 := h1.ok
  have e2 := h2.ok
  have e3 := h3.no
  unfold p_cast_on m_cast_on
  walk_at "dl"
theorem cast_4 {a b c r x : D} {m : Int} {cs : List CO} (h0 : Sz cs a 0 true) (h1 : Sz cs b 1 true) (h2 : Sz cs c 1 true) (h3 : Sz cs (.int m) 1 true) (v : r.vw cs = some x) (h : kd x = true) (w : isWh x 0 (m - 1) = false) : p_cast_on [.dat a, .dat b, .dat c, .dat (.int m), .dat r] cs = .exc 12 [("value", r)] cs := by
  have e0 := h0.ok
  have e1 := h1.ok
  have e2 := h2.ok
  have e3 := h3.ok
  have e4 := is_whole_ok (lo := 0) (hi := m - 1) v h
  unfold p_cast_on m_cast_on
  walk_at "dl"
theorem cast_t (cs : List CO) : p_cast_on [.dat (.int 0), .dat (.int 9999), .dat (.int 1), .dat (.int 4), .dat (.int 3)] cs = .ok (.dat (.int 3), cs) := by kernel_rfl
end SL.Pk

/-! KQc: the box in cell 0; the law's own table and sums; spread's sums and gaps. -/
namespace SL
open PySem L2
theorem take_0 {k1 k2 k3 : Int} (hk : 0 ≤ k1 ∧ k1 < 8192 ∧ 0 ≤ k2 ∧ k2 < 1000 ∧ 0 ≤ k3 ∧ k3 < 1000) {b : CO} {cs : List CO} {n m : Int} (h : Bc b n) (hn : n < 1048576) (hm0 : 0 < m) (hm1 : m < 1073741824) :
    ∃ d b', pTake k1 k2 k3 [.dat (.ref 0), .dat (.int m)] (b :: cs) = .ok (.dat (.int d), b' :: cs) ∧ 0 ≤ d ∧ d < m ∧ Bc b' (n + 1) := by
  obtain ⟨x0, x1, x2, t, rfl, p0, p1, p2, p3, p4, p5, p6⟩ := h.ex
  obtain ⟨k1a, k1b, k2a, k2b, k3a, k3b⟩ := hk
  by_cases hx : 0 < x0
  · refine ⟨x0 % m, .lst [.int (x0 / m), .int x1, .int x2, .int t], ?_, Int.emod_nonneg _ (by omega), Int.emod_lt_of_pos _ hm0, ⟨_, _, _, _, rfl, Int.ediv_nonneg p0 (by omega), p1, p2, p3, p4, p5, by omega⟩⟩
    unfold pTake mTake
    walk_at "dl"
  · have e1 := draw_small (x := x1) (t := t + 1) (c := k1) (k := k2) p1 (by omega) (by omega) (by omega) k1a k1b k2a k2b
    have q1 := Int.emod_nonneg ((x1 * (2 * (t + 1) + 3) + k1 * (t + 1) * (t + 1) + k2) ^ 5) (show (2147483647 : Int) ≠ 0 by decide)
    have q2 := Int.emod_lt_of_pos ((x1 * (2 * (t + 1) + 3) + k1 * (t + 1) * (t + 1) + k2) ^ 5) (show (0 : Int) < 2147483647 by decide)
    have e2 := draw_small2 (y := (x1 * (2 * (t + 1) + 3) + k1 * (t + 1) * (t + 1) + k2) ^ 5 % 2147483647) (x := x2) (t := t + 1) (k := k3) q1 (by omega) p3 (by omega) (by omega) (by omega) k3a k3b
    have z1 : mulB x1 (2 * (t + 1) + 3) = true := mulB_l (by omega) (by omega)
    have z2 : mulB k1 (t + 1) = true := mulB_l (by omega) (by omega)
    have z3 : mulB (k1 * (t + 1)) (t + 1) = true := mulB_r (by omega) (by omega)
    have z4 : mulB x2 (t + 1) = true := mulB_l (by omega) (by omega)
    have z5 : mulB 2 (t + 1) = true := mulB_l (by omega) (by omega)
    obtain ⟨e1, -⟩ := e1
    obtain ⟨e2, -⟩ := e2
    refine ⟨((x1 * (2 * (t + 1) + 3) + k1 * (t + 1) * (t + 1) + k2) ^ 5 % 2147483647 + x2 * (t + 1) + k3) ^ 3 % 2147483579 / 16 % m, .lst [.int x0, .int x1, .int x2, .int (t + 1)], ?_, Int.emod_nonneg _ (by omega), Int.emod_lt_of_pos _ hm0, ⟨_, _, _, _, rfl, p0, p1, p2, p3, p4, by omega, by omega⟩⟩
    clear q1 q2 p1 p2 p3 p4 p5 p6 k1a k1b k2a k2b k3a k3b
    unfold pTake mTake
    walk_at "dl"
end SL
namespace SL.Pk
open PySem L2
/-- what a turn leaves where there is no table: the script in slot 0, as many slots -/
def OkT0 (ns : List Int) (n : Nat) (r : Flw) : Prop := ∃ ys more, r = .nx (.scr ns :: ys) more ∧ ys.length = n
theorem scope_ok0 {ns : List Int} {n : Nat} {B : FS} {sl : List SV} (h : OkT0 ns n (B sl [])) : ∃ ys, dScope B sl [] = .nx (.scr ns :: ys) [] ∧ ys.length = n := by
  obtain ⟨ys, m, e, l⟩ := h
  refine ⟨ys.map (SV.cut 0), ?_, by rw [List.length_map]; exact l⟩
  rw [s_scope, e]
  show (if (m.take 0).all (CO.und 0) = true then Flw.nx ((SV.scr ns :: ys).map (SV.cut 0)) (m.take 0) else Flw.bad) = _
  rfl
theorem told_of0 {M : Int} (hM : 0 ≤ M ∧ M ≤ 100) {B : FS} {n : Nat} {ns : List Int} (h : ∀ (k : Nat) (xs : List SV), xs.length = n → OkT0 ns (n + 1) (B (.scr ns :: .dat (.int k) :: xs) [])) : runB (n + 1) (mLaw M B) [.scr ns] [] = .ok (.dat (.bl true), []) := by
  obtain ⟨m0, m1⟩ := hM
  obtain ⟨N, hN, hN'⟩ : ∃ N : Int, (if (if (ns.length : Int) < M then (ns.length : Int) else M) > 2 then (if (ns.length : Int) < M then (ns.length : Int) else M) else 2) = N ∧ 2 ≤ N ∧ N ≤ 100 := ⟨_, rfl, by split <;> omega, by split <;> (split <;> omega)⟩
  obtain ⟨n0, n1⟩ := hN'
  have lp := loop_inv (t := tgN 1) (body := dScope B) (fun _ sl c => c = [] ∧ ∃ xs : List SV, sl = .scr ns :: xs ∧ xs.length = n + 1) (rngL 0 N.toNat) 0 (.scr ns :: List.replicate (n + 1) .un) [] (by
    rintro i d sl c _ hd ⟨rfl, xs, rfl, hx⟩
    obtain ⟨hi, rfl⟩ := rngL_get hd
    obtain ⟨x, xs, rfl⟩ : ∃ x xs', xs = x :: xs' := by
      cases xs with
      | nil => cases hx
      | cons x xs => exact ⟨x, xs, rfl⟩
    obtain ⟨ys, e, l⟩ := scope_ok0 (h i xs (by simpa using hx))
    refine ⟨.scr ns :: .dat (.int i) :: xs, ?_, _, _, .inl e, rfl, ys, rfl, l⟩
    rw [show (0 : Int) + ((i - 0 : Nat) : Int) = (i : Int) by omega]
    unfold tgN setS
    rw [if_pos (by simp)]
    rfl) ⟨rfl, _, rfl, by simp⟩
  obtain ⟨s2, c2, e, rfl, -⟩ := lp
  have h0 : -4611686018427387904 ≤ N := by omega
  have h1 : N < 4611686018427387904 := by omega
  have e0 : (if M > (ns.length : Int) then (ns.length : Int) else M) = (if (ns.length : Int) < M then (ns.length : Int) else M) := rfl
  clear n0 n1 h m0 m1
  unfold mLaw
  rw [s_runB, s_sv_cons, s_sv_nil, s_svO_scr, s_svC, s_runO]
  generalize List.replicate (n + 1) SV.un = us at *
  walk_at "dl"
/-! ### the law's own table -/
def lawDict : List (Key × D) := rows_STITCHES.map fun r => (.inr r.1, .tup (.str r.1 :: r.2))
def lawTable : List D := rows_STITCHES.map fun r => .tup (.str r.1 :: r.2)
def lawPairs : List D := rows_STITCHES.map fun r => .tup [.str r.1, .tup (.str r.1 :: r.2)]
theorem pairs_ok : pairsD lawPairs = some lawDict := by rfl
theorem merge_ok : mergeD [] lawDict = lawDict := by rfl
theorem table_ok (cs : List CO) : p__law_table [] cs = .ok (.new (.lst lawTable), cs) := by rfl
abbrev rowD (z : Str) : D := .tup [.str z, .int (tkI z), .int (mkI z), .str (sideS z)]
theorem dict_ok {z : Str} (h : z ∈ nms) : getD lawDict (.inr z) = some (rowD z) := by
  refine all_nms (P := fun z => getD lawDict (.inr z) = some (rowD z)) ?_ h
  intro i
  match i with
  | 0 => rfl
  | 1 => rfl
  | 2 => rfl
  | 3 => rfl
  | 4 => rfl
  | 5 => rfl
  | 6 => rfl
  | 7 => rfl
  | 8 => rfl
  | 9 => rfl
  | 10 => rfl
  | 11 => rfl
  | 12 => rfl
  | 13 => rfl
  | 14 => rfl
theorem idx_ok {z : Str} (h : z ∈ nms) : ∃ i : Nat, idxO (nms.map D.str) z = some i ∧ atI lawTable (i : Int) = some (rowD z) := by
  refine all_nms (P := fun z => ∃ i : Nat, idxO (nms.map D.str) z = some i ∧ atI lawTable (i : Int) = some (rowD z)) ?_ h
  intro i
  match i with
  | 0 => exact ⟨0, rfl, rfl⟩
  | 1 => exact ⟨1, rfl, rfl⟩
  | 2 => exact ⟨2, rfl, rfl⟩
  | 3 => exact ⟨3, rfl, rfl⟩
  | 4 => exact ⟨4, rfl, rfl⟩
  | 5 => exact ⟨5, rfl, rfl⟩
  | 6 => exact ⟨6, rfl, rfl⟩
  | 7 => exact ⟨7, rfl, rfl⟩
  | 8 => exact ⟨8, rfl, rfl⟩
  | 9 => exact ⟨9, rfl, rfl⟩
  | 10 => exact ⟨10, rfl, rfl⟩
  | 11 => exact ⟨11, rfl, rfl⟩
  | 12 => exact ⟨12, rfl, rfl⟩
  | 13 => exact ⟨13, rfl, rfl⟩
  | 14 => exact ⟨14, rfl, rfl⟩
theorem row_at {d : Int} (h0 : 0 ≤ d) (h1 : d < 15) : ∃ z ∈ nms, atI lawTable d = some (rowD z) := by
  obtain ⟨x, e, z, hz, rfl⟩ := atI_all (P := fun x => ∃ z ∈ nms, x = rowD z) (xs := lawTable) (i := d) (fun x hx => by
    have e : lawTable = nms.map rowD := by rfl
    rw [e] at hx
    obtain ⟨z, hz, rfl⟩ := List.mem_map.mp hx
    exact ⟨z, hz, rfl⟩) h0 (by simpa [lawTable, rows_STITCHES] using h1)
  exact ⟨z, hz, e⟩
def strF (f : Str → D) : D → D
  | .str z => f z
  | d => d
theorem map_strF (f : Str → D) (zs : List Str) : (zs.map D.str).map (strF f) = zs.map f := by rw [List.map_map]; rfl
theorem ints_map (f : Str → Int) : ∀ zs : List Str, intsOf (zs.map fun z => D.int (f z)) = some (zs.map f)
  | [] => rfl
  | z :: zs => by simp only [List.map_cons, intsOf, ints_map f zs, Option.map_some]
/-- the law's sums of a cell's stitches -/
theorem sums_c {k : Nat} {zs : List Str} {cs : List CO} (h : cs[k]? = some (.lst (zs.map D.str))) (l : zs.length ≤ 10000) (a : ∀ z ∈ zs, z ∈ nms) : p__law_sums [.dat (.ref k)] cs = .ok (.new (.lst [.int (zs.map tkI).sum, .int (zs.map mkI).sum]), cs) := by
  have lc : ∀ (vs : List Nat) (tg : FG) (ft : FT) (fe : FE) (sl : List SV), kLc tg ft fe vs sl (.cel k, cs) = (lcS tg ft fe (wipeL vs sl) (.cel k) 100000 0 [] cs).then kLc2 := fun _ _ _ _ _ => rfl
  have e2 : kItems (.dat (.ref k), cs) = .ok (.cel k, cs) := s_items_r (by rw [h]; rfl)
  have e0 := table_ok cs
  have e3 : lcF (tgN 2) tYesD (dTup (dCons (dOp gIx (dVar 2) (dCon (.int 0))) (dCons (dVar 2) dNil))) (wipeL [2] [.dat (.ref k), .un, .un, .un]) lawTable [] cs = .ok (lawPairs, cs) := by rfl
  have e4 := pairs_ok
  have e5 := merge_ok
  have key : ∀ (j : Int) (f : Str → Int), (∀ z ∈ zs, atI [.str z, .int (tkI z), .int (mkI z), .str (sideS z)] j = some (D.int (f z))) → lcS (tgN 3) tYesD (dOp gIx (dDGet (dVar 1) (dVar 3)) (dCon (.int j))) (wipeL [3] [.dat (.ref k), .own (.dct lawDict), .un, .un]) (.cel k) 100000 0 [] cs = .ok (zs.map fun z => D.int (f z), cs) := by
    intro j f hf
    have := lcS_map (t := tgN 3) (fe := dOp gIx (dDGet (dVar 1) (dVar 3)) (dCon (.int j))) (sl := wipeL [3] [.dat (.ref k), .own (.dct lawDict), .un, .un]) (cs := cs) (k := k) (ds := zs.map D.str) (strF fun z => .int (f z)) h (fun d hd => by
      obtain ⟨z, hz, rfl⟩ := List.mem_map.mp hd
      have e := hf z hz
      have e6 := dict_ok (a z hz)
      refine ⟨[.dat (.ref k), .own (.dct lawDict), .un, .dat (.str z)], rfl, ?_⟩
      simp only [strF]
      clear e0 e2 e3 e4 e5 a lc hd hf
      walk_at "dl") (by rw [List.length_map]; omega) (zs.map D.str).length 0 100000 [] (by omega) (by omega) (by rw [List.length_map]; omega) rfl
    rw [List.drop_zero, map_strF, List.nil_append] at this
    exact this
  have k0 := key 1 tkI fun z hz => rfl
  have k1 := key 2 mkI fun z hz => rfl
  have i0 := ints_map tkI zs
  have i1 := ints_map mkI zs
  unfold p__law_sums m__law_sums
  clear a key l
  walk_at "dl"
end SL.Pk

namespace SL.Pk
open PySem L2 Pk
/-! need_colours -/
noncomputable def m_need_colours (G : Addr) : FS :=
    (dIfS (tOr' (tNot' (toTru (dIsi "str" (dVar 0)))) (tOr' (toT (dOp gGt (dCB gLen (dConsV (dVar 0) dNil)) (dCon (.int 600)))) (tNot' (toTru (dAllS 0 G "abcdef" (dVar 0))))))
    (dRaise 14 "value" (dVar 0))
    dNx)
noncomputable def p_need_colours (G : Addr) : Phi := runB 0 (m_need_colours G)
/-! gaps -/
noncomputable abbrev bd_gaps_1 : FS :=
    (dIfS (toT (dOp gGt (dVar 7) (dOp gAdd (dVar 6) (dCon (.int 1)))))
    (dApp 4 (dCons (dTup (dCons (dOp gAdd (dVar 6) (dCon (.int 1))) (dCons (dOp gSub (dOp gSub (dVar 7) (dVar 6)) (dCon (.int 1))) dNil))) dNil))
    dNx)
noncomputable def m_gaps : FS :=
    (dSeq (dAsg 3 (dLc (enumT (dCons (dVar 0) dNil)) (tgT [8, 9]) (toT (dOp gEq (dVar 9) (dVar 1))) (dVar 8) [8, 9]))
    (dFz 3 (dSeq (dAsg 4 (dLst dNil))
    (dSeq (dFor (zipF (dCons (dVar 3) (dCons (dSl (dVar 3) (oSome (dCon (.int 1))) oNone) dNil))) (tgT [6, 7])
    bd_gaps_1)
    (dSeq (dAsg 5 (dIf (toTru (dVar 3)) (dOp gAdd (dOp gSub (dOp gSub (dCB gLen (dConsV (dVar 0) dNil)) (dCon (.int 1))) (dOp gIx (dVar 3) (dUn gNeg (dCon (.int 1))))) (dOp gIx (dVar 3) (dCon (.int 0)))) (dCon (.int 0))))
    (dSeq (dIfS (tAnd' (toTru (dVar 2)) (toT (dOp gGt (dVar 5) (dCon (.int 0)))))
    (dApp 4 (dCons (dTup (dCons (dOp gMod (dOp gAdd (dOp gIx (dVar 3) (dUn gNeg (dCon (.int 1)))) (dCon (.int 1))) (dCB gLen (dConsV (dVar 0) dNil))) (dCons (dVar 5) dNil))) dNil))
    dNx)
    (dRetV 4)))))))
noncomputable def p_gaps : Phi := runB 7 m_gaps
/-! floats -/
noncomputable abbrev bd_floats_1 (G : Addr) : FS :=
    (dSetKI 2 (dCB gMax1 (dConsV (dOp gAdd (dLst (dCons (dCon (.int 0)) dNil)) (dLc (itemsOf (dCall 3 p_gaps [] (dCons (dVar 0) (dCons (dVar 3) (dCons (dVar 1) dNil))))) (tgT [4, 5]) tYesD (dVar 5) [4, 5])) dNil)) (dVar 3))
noncomputable def m_floats (G : Addr) : FS :=
    (dSeq (dDrop (dCall 1 (p_need_colours G) [] (dCons (dVar 0) dNil)))
    (dSeq (dAsg 2 dDict0)
    (dSeq (dFor (itemsOf (dSortSet cols6 (dVar 0))) (tgN 3)
    (bd_floats_1 G))
    (dRetV 2))))
noncomputable def p_floats (G : Addr) : Phi := runB 4 (m_floats G)
/-! catches -/
noncomputable abbrev bd_catches_1 (G : Addr) : FS :=
    (dApp 3 (dCons (dTup (dCons (dVar 4) (dCons (dOp gMod (dOp gSub (dOp gAdd (dVar 5) (dOp gMul (dVar 7) (dOp gAdd (dVar 1) (dCon (.int 1))))) (dCon (.int 1))) (dCB gLen (dConsV (dVar 0) dNil))) dNil))) dNil))
noncomputable abbrev bd_catches_2 (G : Addr) : FS :=
    (dFor (rng2 (dConsV (dCon (.int 1)) (dConsV (dOp gAdd (dOp gFdiv (dVar 6) (dOp gAdd (dVar 1) (dCon (.int 1)))) (dCon (.int 1))) dNil))) (tgN 7)
    (bd_catches_1 G))
noncomputable abbrev bd_catches_3 (G : Addr) : FS :=
    (dFor (itemsOf (dCall 3 p_gaps [] (dCons (dVar 0) (dCons (dVar 4) (dCons (dVar 2) dNil))))) (tgT [5, 6])
    (bd_catches_2 G))
noncomputable def m_catches (G : Addr) : FS :=
    (dSeq (dDrop (dCall 1 (p_need_colours G) [] (dCons (dVar 0) dNil)))
    (dSeq (dIfS (tNot' (toTru (dCall 3 p_is_whole [] (dCons (dVar 1) (dCons (dCon (.int 1)) (dCons (dCon (.int 600)) dNil))))))
    (dRaise 11 "value" (dVar 1))
    dNx)
    (dSeq (dAsg 3 (dLst dNil))
    (dSeq (dFor (itemsOf (dSortSet cols6 (dVar 0))) (tgN 4)
    (bd_catches_3 G))
    (dRetV 3)))))
noncomputable def p_catches (G : Addr) : Phi := runB 5 (m_catches G)
end SL.Pk

/-! KR: what need_colours, gaps, floats, catches answer; laws with a generator's table. -/
namespace SL
open PySem L2
theorem take_2 {k1 k2 k3 : Int} (hk : 0 ≤ k1 ∧ k1 < 8192 ∧ 0 ≤ k2 ∧ k2 < 1000 ∧ 0 ≤ k3 ∧ k3 < 1000) {T U b : CO} {cs : List CO} {n m : Int} (h : Bc b n) (hn : n < 1048576) (hm0 : 0 < m) (hm1 : m < 1073741824) :
    ∃ d b', pTake k1 k2 k3 [.dat (.ref 2), .dat (.int m)] (T :: U :: b :: cs) = .ok (.dat (.int d), T :: U :: b' :: cs) ∧ 0 ≤ d ∧ d < m ∧ Bc b' (n + 1) := by
  obtain ⟨x0, x1, x2, t, rfl, p0, p1, p2, p3, p4, p5, p6⟩ := h.ex
  obtain ⟨k1a, k1b, k2a, k2b, k3a, k3b⟩ := hk
  by_cases hx : 0 < x0
  · refine ⟨x0 % m, .lst [.int (x0 / m), .int x1, .int x2, .int t], ?_, Int.emod_nonneg _ (by omega), Int.emod_lt_of_pos _ hm0, ⟨_, _, _, _, rfl, Int.ediv_nonneg p0 (by omega), p1, p2, p3, p4, p5, by omega⟩⟩
    unfold pTake mTake
    walk_at "dl"
  · have e1 := draw_small (x := x1) (t := t + 1) (c := k1) (k := k2) p1 (by omega) (by omega) (by omega) k1a k1b k2a k2b
    have q1 := Int.emod_nonneg ((x1 * (2 * (t + 1) + 3) + k1 * (t + 1) * (t + 1) + k2) ^ 5) (show (2147483647 : Int) ≠ 0 by decide)
    have q2 := Int.emod_lt_of_pos ((x1 * (2 * (t + 1) + 3) + k1 * (t + 1) * (t + 1) + k2) ^ 5) (show (0 : Int) < 2147483647 by decide)
    have e2 := draw_small2 (y := (x1 * (2 * (t + 1) + 3) + k1 * (t + 1) * (t + 1) + k2) ^ 5 % 2147483647) (x := x2) (t := t + 1) (k := k3) q1 (by omega) p3 (by omega) (by omega) (by omega) k3a k3b
    have z1 : mulB x1 (2 * (t + 1) + 3) = true := mulB_l (by omega) (by omega)
    have z2 : mulB k1 (t + 1) = true := mulB_l (by omega) (by omega)
    have z3 : mulB (k1 * (t + 1)) (t + 1) = true := mulB_r (by omega) (by omega)
    have z4 : mulB x2 (t + 1) = true := mulB_l (by omega) (by omega)
    have z5 : mulB 2 (t + 1) = true := mulB_l (by omega) (by omega)
    obtain ⟨e1, -⟩ := e1
    obtain ⟨e2, -⟩ := e2
    refine ⟨((x1 * (2 * (t + 1) + 3) + k1 * (t + 1) * (t + 1) + k2) ^ 5 % 2147483647 + x2 * (t + 1) + k3) ^ 3 % 2147483579 / 16 % m, .lst [.int x0, .int x1, .int x2, .int (t + 1)], ?_, Int.emod_nonneg _ (by omega), Int.emod_lt_of_pos _ hm0, ⟨_, _, _, _, rfl, p0, p1, p2, p3, p4, by omega, by omega⟩⟩
    clear q1 q2 p1 p2 p3 p4 p5 p6 k1a k1b k2a k2b k3a k3b
    unfold pTake mTake
    walk_at "dl"
end SL
namespace SL.Pk
open PySem L2 Pk
/-! ### the floats of a colour, in plain words -/
def plc (k : Str) (L : List Str) : List Nat := (L.zipIdx.filter fun p => decide (p.1 = k)).map (·.2)
def stepG (ab : Nat × Nat) : List (Nat × Nat) := if ab.1 + 1 < ab.2 then [(ab.1 + 1, ab.2 - ab.1 - 1)] else []
def inG (p : List Nat) : List (Nat × Nat) := (p.zip p.tail).flatMap stepG
def arnd (p : List Nat) (n : Nat) : Nat := if p = [] then 0 else n - 1 - p.getLastD 0 + p.headD 0
def outG (p : List Nat) (n : Nat) (t : Bool) : List (Nat × Nat) := if t = true ∧ 0 < arnd p n then [((p.getLastD 0 + 1) % n, arnd p n)] else []
def gapL (k : Str) (L : List Str) (t : Bool) : List (Nat × Nat) := inG (plc k L) ++ outG (plc k L) L.length t
def gapD (g : Nat × Nat) : D := .tup [.int (g.1 : Nat), .int (g.2 : Nat)]
theorem plc_lt {k : Str} {L : List Str} {i : Nat} (h : i ∈ plc k L) : i < L.length := by
  obtain ⟨p, hp, rfl⟩ := List.mem_map.mp h
  have := (List.mem_filter.mp hp).1
  have := List.mem_zipIdx this
  omega
theorem plc_len (k : Str) (L : List Str) : (plc k L).length ≤ L.length := by
  unfold plc
  rw [List.length_map]
  exact Nat.le_trans (List.length_filter_le ..) (by simp)
theorem enumL_zip : ∀ (L : List Str) (i : Nat), enumL i (L.map D.str) = (L.zipIdx i).map fun p => .tup [.int (p.2 : Nat), .str p.1]
  | [], i => rfl
  | x :: L, i => by rw [List.map_cons, enumL, enumL_zip L (i + 1), List.zipIdx_cons, List.map_cons]
theorem zipL_zip : ∀ (p q : List Nat), zipL (p.map fun (i : Nat) => D.int i) (q.map fun (i : Nat) => D.int i) = (p.zip q).map fun ab => .tup [.int (ab.1 : Nat), .int (ab.2 : Nat)]
  | [], q => by cases q <;> rfl
  | a :: p, [] => rfl
  | a :: p, b :: q => by rw [List.map_cons, List.map_cons, zipL, zipL_zip p q, List.zip_cons_cons, List.map_cons]
theorem signs_one (x : Str) : x.cps.toList.map one = (ST.signs x).map D.str := by unfold ST.signs; rw [List.map_map]; rfl
theorem signs_len (x : Str) : (ST.signs x).length = x.length := by rw [ST.len_signs]; rfl
theorem tail_map {α β : Type} (f : α → β) (l : List α) : (l.map f).drop 1 = l.tail.map f := by cases l <;> rfl
theorem last_at {p : List Nat} (h : p ≠ []) : atI (p.map fun (i : Nat) => D.int i) (-1) = some (.int (p.getLastD 0 : Nat)) := by
  have hl : 0 < p.length := List.length_pos_iff.mpr h
  have e : ixN (p.map fun (i : Nat) => D.int i).length (-1) = some (p.length - 1) := by
    unfold ixN
    rw [List.length_map]
    simp
    omega
  unfold L2.atI
  rw [e]
  show (p.map fun (i : Nat) => D.int i)[p.length - 1]? = _
  rw [List.getElem?_map, ← List.getLast?_eq_getElem?, List.getLastD_eq_getLast?]
  cases q : p.getLast? with
  | none => exact absurd (List.getLast?_eq_none_iff.mp q) h
  | some a => rfl
theorem head_at {p : List Nat} (h : p ≠ []) : atI (p.map fun (i : Nat) => D.int i) 0 = some (.int (p.headD 0 : Nat)) := by
  rw [atI0]
  cases p with
  | nil => exact absurd rfl h
  | cons a p => rfl
theorem places_ok {x k : Str} {s0 s2 : SV} {cs : List CO} (hl : x.length ≤ 600) :
    lcF (tgT [8, 9]) (toT (dOp gEq (dVar 9) (dVar 1))) (dVar 8) (wipeL [8, 9] [s0, .dat (.str k), s2, .un, .un, .un, .un, .un, .un, .un]) (enumL 0 (x.cps.toList.map one)) [] cs = .ok ((plc k (ST.signs x)).map fun (i : Nat) => D.int i, cs) := by
  let P : D → Bool := fun d => match d with
    | .tup [_, .str b] => decide (b = k)
    | _ => false
  let f : D → D := fun d => match d with
    | .tup [i, _] => i
    | _ => .non
  have key := lcF_filter (t := tgT [8, 9]) (ft := toT (dOp gEq (dVar 9) (dVar 1))) (fe := dVar 8) (sl := wipeL [8, 9] [s0, .dat (.str k), s2, .un, .un, .un, .un, .un, .un, .un]) (cs := cs) P f (enumL 0 (x.cps.toList.map one)) [] (by
    intro d hd
    rw [signs_one, enumL_zip] at hd
    obtain ⟨p, hp, rfl⟩ := List.mem_map.mp hd
    refine ⟨[s0, .dat (.str k), s2, .un, .un, .un, .un, .un, .dat (.int (p.2 : Nat)), .dat (.str p.1)], rfl, ?_, fun _ => rfl⟩
    show toT (dOp gEq (dVar 9) (dVar 1)) _ cs = .ok (decide (p.1 = k), cs)
    have e : eqB (.str p.1) (.str k) = some (decide (p.1 = k)) := rfl
    walk_at "dl") (by rw [signs_one, enumL_zip, List.length_map, List.length_zipIdx, signs_len]; simp; omega)
  rw [key, signs_one, enumL_zip, List.filter_map, List.map_map, List.nil_append]
  unfold plc
  rw [List.map_map]
  rfl
theorem inG_len (p : List Nat) : (inG p).length ≤ p.length := by
  have h : ∀ q : List (Nat × Nat), (q.flatMap stepG).length ≤ q.length := by
    intro q
    induction q with
    | nil => exact Nat.le_refl _
    | cons a q ih =>
      rw [List.flatMap_cons, List.length_append, List.length_cons]
      have : (stepG a).length ≤ 1 := by unfold stepG; split <;> simp
      omega
  refine Nat.le_trans (h _) ?_
  rw [List.length_zip]
  exact Nat.min_le_left _ _
def fG : D → List D
  | .tup [.int a, .int b] => (stepG (a.toNat, b.toNat)).map gapD
  | _ => []
theorem inG_fG (p : List Nat) : (zipL (p.map fun (i : Nat) => D.int i) ((p.map fun (i : Nat) => D.int i).drop 1)).flatMap fG = (inG p).map gapD := by
  rw [tail_map, zipL_zip]
  unfold inG
  generalize p.zip p.tail = q
  induction q with
  | nil => rfl
  | cons a q ih => rw [List.map_cons, List.flatMap_cons, ih, List.flatMap_cons, List.map_append]; rfl
theorem gaps_ok {x k : Str} {t : Bool} {cs : List CO} (hl : x.length ≤ 600) : p_gaps [.dat (.str x), .dat (.str k), .dat (.bl t)] cs = .ok (.new (.lst ((gapL k (ST.signs x) t).map gapD)), cs) := by
  have e1 := places_ok (x := x) (k := k) (s0 := .dat (.str x)) (s2 := .dat (.bl t)) (cs := cs) hl
  have hlt : ∀ i ∈ plc k (ST.signs x), i < (ST.signs x).length := fun i hi => plc_lt hi
  have hpl : (plc k (ST.signs x)).length ≤ (ST.signs x).length := plc_len _ _
  unfold gapL
  rw [signs_len] at *
  generalize plc k (ST.signs x) = p at *
  have lp := loop_app (t := tgT [6, 7]) (body := bd_gaps_1) (cs := cs) (fun acc sl => ∃ a b, sl = [.dat (.str x), .dat (.str k), .dat (.bl t), .dat (.lst (p.map fun (i : Nat) => D.int i)), .own (.lst acc), .un, a, b, .un, .un])
    fG 600 (zipL (p.map fun (i : Nat) => D.int i) ((p.map fun (i : Nat) => D.int i).drop 1)) [] _ ⟨.un, .un, rfl⟩ ?c1 ?c2
  case c1 =>
    rw [inG_fG, List.length_map]
    have := inG_len p
    simp; omega
  case c2 =>
    rintro d hd acc sl ⟨a, b, rfl⟩ hN
    rw [tail_map, zipL_zip] at hd
    obtain ⟨⟨i, j⟩, hab, rfl⟩ := List.mem_map.mp hd
    refine ⟨_, _, rfl, ?_, .dat (.int (i : Nat)), .dat (.int (j : Nat)), rfl⟩
    have hf : fG (.tup [.int (i : Nat), .int (j : Nat)]) = (stepG (i, j)).map gapD := rfl
    dsimp only at *
    rw [hf] at hN ⊢
    unfold stepG at *
    dsimp only at *
    by_cases h : i + 1 < j
    · have h' : decide (((i + 1 : Nat) : Int) < (j : Int)) = true := decide_eq_true (by omega)
      have h2 : (j : Int) - (i : Int) - 1 = ((j - i - 1 : Nat) : Int) := by omega
      have h3 : ((i : Int) + 1) = ((i + 1 : Nat) : Int) := by omega
      rw [if_pos h] at hN ⊢
      have hN : acc.length < 16777216 := by simp at hN; omega
      unfold gapD
      walk_at "dl"
    · have h' : decide ((i : Int) + 1 < (j : Int)) = false := decide_eq_false (by omega)
      rw [if_neg h] at hN ⊢
      walk_at "dl"
  obtain ⟨s2, lp, a, b, rfl⟩ := lp
  rw [inG_fG] at lp
  have hxl : x.length ≤ 16777216 := by omega
  have hg : cutD (p.map fun (i : Nat) => D.int i) (some 1) none = (p.map fun (i : Nat) => D.int i).drop 1 := x_cut_from (by decide)
  have hil := inG_len p
  have hx0 : p ≠ [] → 0 < x.length := fun h => by
    obtain ⟨a, q, rfl⟩ := List.exists_cons_of_ne_nil h
    exact Nat.lt_of_le_of_lt (Nat.zero_le _) (hlt a List.mem_cons_self)
  have hla : p ≠ [] → p.getLastD 0 < x.length := fun h => by
    rw [List.getLastD_eq_getLast?]
    cases q : p.getLast? with
    | none => exact absurd (List.getLast?_eq_none_iff.mp q) h
    | some a => exact hlt a (List.mem_of_getLast? q)
  have hma := @last_at p
  have hmh := @head_at p
  have hme : p ≠ [] → (!(p.map fun (i : Nat) => D.int i).isEmpty) = true := fun h => by cases p with
    | nil => exact absurd rfl h
    | cons => rfl
  have hmn : p = [] → (!(p.map fun (i : Nat) => D.int i).isEmpty) = false := fun h => by subst h; rfl
  clear hlt
  generalize (p.map fun (i : Nat) => D.int i) = m at *
  unfold p_gaps m_gaps
  by_cases hp : p = []
  · have hm := hmn hp
    have ho : outG p x.length t = [] := by subst hp; unfold outG arnd; simp
    have h0 : decide ((0 : Int) > 0) = false := rfl
    rw [ho, List.append_nil]
    clear hma hmh hme hmn hla hx0 ho
    generalize inG p = gs at *
    cases t <;> walk_at "dl"
  · have hm := hme hp
    have h1 := hma hp
    have h2 := hmh hp
    have h3 := hla hp
    have h4 := hx0 hp
    have h5 : (0 : Int) < (x.length : Int) := by omega
    have e2 : (x.length : Int) - 1 - ((p.getLastD 0 : Nat) : Int) + ((p.headD 0 : Nat) : Int) = ((arnd p x.length : Nat) : Int) := by
      unfold arnd; rw [if_neg hp]; omega
    have e3 : (((p.getLastD 0 : Nat) : Int) + 1) % (x.length : Int) = (((p.getLastD 0 + 1) % x.length : Nat) : Int) := by push_cast; rfl
    unfold outG
    clear hma hmh hme hmn hla hx0
    generalize arnd p x.length = ar at *
    generalize p.getLastD 0 = la at *
    generalize p.headD 0 = he at *
    generalize inG p = gs at *
    have hgl : (gs.map gapD).length < 16777216 := by rw [List.length_map]; omega
    cases t
    · walk_at "dl"
      simp
    · by_cases h6 : 0 < ar
      · have h7 : decide ((ar : Int) > 0) = true := decide_eq_true (by omega)
        rw [if_pos ⟨rfl, h6⟩, List.map_append, show List.map gapD [((la + 1) % x.length, ar)] = [gapD ((la + 1) % x.length, ar)] from rfl]
        unfold gapD at *
        walk_at "dl"
      · have h7 : decide ((ar : Int) > 0) = false := decide_eq_false (by omega)
        rw [if_neg (fun z => h6 z.2), List.append_nil]
        walk_at "dl"
/-! ### need_colours -/
def colB (x : Str) : Bool := x.cps.toList.all fun y => decide (y ∈ ("abcdef" : Str).cps.toList)
/-- is it a row of colours -/
def isCo (d : D) : Bool := match d with
  | .str x => decide (x.length ≤ 600) && colB x
  | _ => false
def shortS (d : D) : Prop := match d with
  | .str x => x.length ≤ 16777216
  | _ => True
abbrev TG (G : Addr) : CO := .tab G ""
theorem need_colours_v {G : Addr} {d y : D} {cs : List CO} (v : d.vw (TG G :: cs) = some y) (h : kd y = true) (hs : shortS y) : p_need_colours G [.dat d] (TG G :: cs) = if isCo y = true then .ok (.dat .non, TG G :: cs) else .exc 14 [("value", d)] (TG G :: cs) := by
  unfold p_need_colours m_need_colours
  unfold kd at h
  cases y with
  | str x =>
    have hs : x.length ≤ 16777216 := hs
    have ec : isCo (.str x) = (decide (x.length ≤ 600) && colB x) := rfl
    by_cases h1 : x.length ≤ 600
    · have h2 : decide ((x.length : Int) > 600) = false := decide_eq_false (by omega)
      rw [decide_eq_true h1] at ec
      cases h3 : colB x
      · have h4 : (x.cps.toList.all fun y => decide (y ∈ ("abcdef" : Str).cps.toList)) = false := h3
        rw [h3] at ec
        rw [if_neg (by rw [ec]; decide)]
        walk_at "dl"
      · have h4 : (x.cps.toList.all fun y => decide (y ∈ ("abcdef" : Str).cps.toList)) = true := h3
        rw [h3] at ec
        rw [if_pos (by rw [ec]; rfl)]
        walk_at "dl"
    · have h2 : decide ((x.length : Int) > 600) = true := decide_eq_true (by omega)
      rw [decide_eq_false h1] at ec
      rw [if_neg (by rw [ec]; simp)]
      walk_at "dl"
  | obj _ _ => cases h
  | ref _ => cases h
  | _ =>
    rw [if_neg (by intro z; cases z)]
    walk_at "dl"
theorem need_colours_ok {G : Addr} {x : Str} {cs : List CO} (hl : x.length ≤ 600) (hc : colB x = true) : p_need_colours G [.dat (.str x)] (TG G :: cs) = .ok (.dat .non, TG G :: cs) := by
  rw [need_colours_v (y := .str x) rfl rfl (show x.length ≤ 16777216 by omega), if_pos]
  show (decide (x.length ≤ 600) && colB x) = true
  rw [decide_eq_true hl, hc]; rfl
theorem need_colours_no {G : Addr} {d y : D} {cs : List CO} (v : d.vw (TG G :: cs) = some y) (h : kd y = true) (hs : shortS y) (hb : isCo y = false) : p_need_colours G [.dat d] (TG G :: cs) = .exc 14 [("value", d)] (TG G :: cs) := by
  rw [need_colours_v v h hs, if_neg (by rw [hb]; decide)]
/-! ### floats -/
theorem colB_signs {x : Str} (h : colB x = true) : (ST.signs x).all (fun y => decide (y ∈ cols6)) = true := by
  rw [List.all_eq_true]
  intro y hy
  unfold ST.signs at hy
  obtain ⟨c, hc, rfl⟩ := List.mem_map.mp hy
  have := of_decide_eq_true (List.all_eq_true.mp h c hc)
  have e : ("abcdef" : Str).cps.toList = [97, 98, 99, 100, 101, 102] := by decide +kernel
  rw [e] at this
  refine decide_eq_true ?_
  simp only [List.mem_cons, List.not_mem_nil, or_false] at this
  rcases this with rfl | rfl | rfl | rfl | rfl | rfl <;> decide +kernel
theorem among_nd (x : Str) : (among cols6 x).Nodup := cols6_nd.filter _
theorem among_len (x : Str) : (among cols6 x).length ≤ 6 := List.length_filter_le ..
def lensG (gs : List (Nat × Nat)) : List Int := gs.map fun g => ((g.2 : Nat) : Int)
def mxI (l : List Int) : Int := (0 :: l).max?.getD 0
theorem mxI_eq (l : List Int) : (0 :: l).max? = some (mxI l) := by
  unfold mxI
  cases h : (0 :: l).max? with
  | none => simp at h
  | some m => rfl
def floD (L : List Str) (t : Bool) (k : Str) : Key × D := (.inr k, .int (mxI (lensG (gapL k L t))))
theorem ints_cons (l : List Int) : intsOf (D.int 0 :: l.map D.int) = some (0 :: l) := by
  have h : ∀ l : List Int, intsOf (l.map D.int) = some l := by
    intro l
    induction l with
    | nil => rfl
    | cons a l ih => rw [List.map_cons, intsOf, ih]; rfl
  rw [intsOf, h]; rfl
def appS (acc : List Str) : D → List Str
  | .str k => acc ++ [k]
  | _ => acc
theorem foldl_appS (l acc : List Str) : (l.map D.str).foldl appS acc = acc ++ l := by
  induction l generalizing acc with
  | nil => simp
  | cons a l ih => rw [List.map_cons, List.foldl_cons, ih]; simp [appS]
theorem gapL_len (k : Str) (L : List Str) (t : Bool) : (gapL k L t).length ≤ L.length + 1 := by
  unfold gapL
  rw [List.length_append]
  have a := inG_len (plc k L)
  have b := plc_len k L
  have c : (outG (plc k L) L.length t).length ≤ 1 := by unfold outG; split <;> simp
  omega
theorem floats_ok {G : Addr} {x : Str} {t : Bool} {cs : List CO} (hl : x.length ≤ 600) (hc : colB x = true) : p_floats G [.dat (.str x), .dat (.bl t)] (TG G :: cs) = .ok (.new (.dct ((among cols6 x).map (floD (ST.signs x) t))), TG G :: cs) := by
  have e0 := need_colours_ok (G := G) (cs := cs) hl hc
  have ha : (ST.signs x).all (fun y => decide (y ∈ cols6)) = true ∧ cols6.length < 64 := ⟨colB_signs hc, by decide⟩
  have lp := loop_fold (t := tgN 3) (body := bd_floats_1 G) (cs := TG G :: cs) (fun (acc : List Str) sl => ∃ a b c, sl = [.dat (.str x), .dat (.bl t), .own (.dct (acc.map (floD (ST.signs x) t))), a, b, c]) appS ((among cols6 x).map D.str) [] [.dat (.str x), .dat (.bl t), .own (.dct []), .un, .un, .un] ⟨_, _, _, rfl⟩ (by
    rintro pre d post e sl ⟨a, b, c, rfl⟩
    obtain ⟨l1, l2, e1, rfl, e2⟩ := List.map_eq_append_iff.mp e
    obtain ⟨k, l3, rfl, rfl, rfl⟩ := List.map_eq_cons_iff.mp e2
    have nd := among_nd x
    rw [e1] at nd
    have hk : k ∉ l1 := fun h => (List.nodup_append.mp nd).2.2 k h k List.mem_cons_self rfl
    have h1 : l1.length ≤ 6 := by
      have := among_len x
      rw [e1, List.length_append] at this; omega
    rw [foldl_appS, List.nil_append]
    have hp : putD (l1.map (floD (ST.signs x) t)) (.inr k) (.int (mxI (lensG (gapL k (ST.signs x) t)))) = l1.map (floD (ST.signs x) t) ++ [floD (ST.signs x) t k] := putD_new fun q hq z => by
      obtain ⟨j, hj, rfl⟩ := List.mem_map.mp hq
      have : k = j := by
        have z : (Sum.inr j : Key) = .inr k := z
        exact (Sum.inr.inj z).symm
      exact hk (this ▸ hj)
    have hll : (l1.map (floD (ST.signs x) t)).length < 16777216 := by rw [List.length_map]; omega
    have eg := gaps_ok (x := x) (k := k) (t := t) (cs := TG G :: cs) hl
    have gl := gapL_len k (ST.signs x) t
    rw [signs_len] at gl
    generalize gapL k (ST.signs x) t = gs at *
    have el := lcF_filter (t := tgT [4, 5]) (ft := tYesD) (fe := dVar 5) (sl := wipeL [4, 5] [.dat (.str x), .dat (.bl t), .own (.dct (l1.map (floD (ST.signs x) t))), .dat (.str k), b, c]) (cs := TG G :: cs) (fun _ => true) (fun d => match d with | .tup [_, l] => l | _ => .non) (gs.map gapD) [] (by
      intro d hd
      obtain ⟨g, hg, rfl⟩ := List.mem_map.mp hd
      exact ⟨_, rfl, rfl, fun _ => rfl⟩) (by rw [List.length_map]; simp; omega)
    have e5 : ((gs.map gapD).filter fun _ => true).map (fun d => match d with | D.tup [_, l] => l | _ => D.non) = (lensG gs).map D.int := by
      rw [List.filter_eq_self.mpr (fun _ _ => rfl)]
      unfold lensG
      rw [List.map_map, List.map_map]; rfl
    rw [e5, List.nil_append] at el
    have hm := ints_cons (lensG gs)
    have hm2 := mxI_eq (lensG gs)
    have hln : 0 + 1 + ((lensG gs).map D.int).length ≤ 16777216 := by unfold lensG; simp; omega
    refine ⟨_, _, rfl, ?_, .dat (.str k), b, c, rfl⟩
    rw [show appS l1 (.str k) = l1 ++ [k] from rfl, List.map_append, show List.map (floD (ST.signs x) t) [k] = [floD (ST.signs x) t k] from rfl, ← hp]
    generalize mxI (lensG gs) = mv at *
    generalize (lensG gs).map D.int = ls at *
    generalize lensG gs = li at *
    clear e5
    walk_at "dl")
  obtain ⟨s2, lp, a, b, c, rfl⟩ := lp
  rw [foldl_appS, List.nil_append] at lp
  unfold p_floats m_floats
  walk_at "dl"
/-! ### catches -/
def catD (n : Nat) (most : Int) (k : Str) (g : Nat × Nat) : List D := (List.range (((g.2 : Nat) : Int) / (most + 1)).toNat).map fun i => .tup [.str k, .int ((((g.1 : Nat) : Int) + (1 + (i : Nat)) * (most + 1) - 1) % (n : Nat))]
def catsK (L : List Str) (t : Bool) (most : Int) (k : Str) : List D := (gapL k L t).flatMap (catD L.length most k)
def catsL (x : Str) (t : Bool) (most : Int) : List D := (among cols6 x).flatMap (catsK (ST.signs x) t most)
theorem flat_le {α β : Type} (f : α → List β) (M : Nat) : ∀ l : List α, (∀ a ∈ l, (f a).length ≤ M) → (l.flatMap f).length ≤ l.length * M
  | [], _ => by simp
  | a :: l, h => by
    rw [List.flatMap_cons, List.length_append, List.length_cons, Nat.add_mul, Nat.one_mul]
    have := h a List.mem_cons_self
    have := flat_le f M l fun b hb => h b (List.mem_cons_of_mem _ hb)
    omega
theorem gapL_sz {k : Str} {L : List Str} {t : Bool} {g : Nat × Nat} (h : g ∈ gapL k L t) : g.2 ≤ 2 * L.length := by
  unfold gapL at h
  rcases List.mem_append.mp h with h | h
  · unfold inG at h
    obtain ⟨ab, hab, hg⟩ := List.mem_flatMap.mp h
    have hb : ab.2 < L.length := by
      obtain ⟨a, b⟩ := ab
      exact plc_lt (List.mem_of_mem_tail (List.of_mem_zip hab).2)
    unfold stepG at hg
    split at hg
    · obtain rfl := List.mem_singleton.mp hg
      dsimp only; omega
    · cases hg
  · unfold outG at h
    split at h
    · obtain rfl := List.mem_singleton.mp h
      unfold arnd
      dsimp only
      split
      · omega
      · rename_i hp
        obtain ⟨a, q, e⟩ := List.exists_cons_of_ne_nil hp
        have : (plc k L).headD 0 < L.length := by
          rw [e]
          exact plc_lt (k := k) (by rw [e]; exact List.mem_cons_self)
        omega
    · cases h
theorem catD_len {n : Nat} {most : Int} {k : Str} {g : Nat × Nat} (hm : 1 ≤ most) : (catD n most k g).length ≤ g.2 := by
  unfold catD
  rw [List.length_map, List.length_range]
  have : ((g.2 : Nat) : Int) / (most + 1) ≤ (g.2 : Nat) := Int.ediv_le_self _ (by omega)
  omega
theorem catsK_len {L : List Str} {t : Bool} {most : Int} {k : Str} (hm : 1 ≤ most) (hl : L.length ≤ 600) : (catsK L t most k).length ≤ 721200 := by
  have := flat_le (catD L.length most k) 1200 (gapL k L t) fun g hg => by
    have a := catD_len (n := L.length) (k := k) (g := g) hm
    have b := gapL_sz hg
    omega
  have h2 := gapL_len k L t
  unfold catsK
  omega
theorem catsL_len {x : Str} {t : Bool} {most : Int} (hm : 1 ≤ most) (hl : x.length ≤ 600) : (catsL x t most).length ≤ 4327200 := by
  have := flat_le (catsK (ST.signs x) t most) 721200 (among cols6 x) fun k _ => catsK_len hm (by rw [signs_len]; exact hl)
  have h2 := among_len x
  unfold catsL
  omega
def fTurn (n : Nat) (most : Int) (k : Str) (s : Nat) : D → List D
  | .int i => [.tup [.str k, .int ((((s : Nat) : Int) + i * (most + 1) - 1) % (n : Nat))]]
  | _ => []
def fGap (n : Nat) (most : Int) (k : Str) : D → List D
  | .tup [.int s, .int l] => catD n most k (s.toNat, l.toNat)
  | _ => []
def fCol (L : List Str) (t : Bool) (most : Int) : D → List D
  | .str k => catsK L t most k
  | _ => []
theorem flatMap_fTurn (n : Nat) (most : Int) (k : Str) (s l : Nat) : (rngL 1 ((((l : Nat) : Int) / (most + 1) + 1 - 1).toNat)).flatMap (fTurn n most k s) = catD n most k (s, l) := by
  unfold catD rngL
  rw [Int.add_sub_cancel]
  dsimp only
  generalize List.range _ = r
  induction r with
  | nil => rfl
  | cons a r ih => rw [List.map_cons, List.flatMap_cons, ih, List.map_cons]; rfl
theorem flatMap_fGap (n : Nat) (most : Int) (k : Str) (gs : List (Nat × Nat)) : (gs.map gapD).flatMap (fGap n most k) = gs.flatMap (catD n most k) := by
  induction gs with
  | nil => rfl
  | cons a r ih => rw [List.map_cons, List.flatMap_cons, ih, List.flatMap_cons]; rfl
theorem flatMap_fCol (L : List Str) (t : Bool) (most : Int) (ks : List Str) : (ks.map D.str).flatMap (fCol L t most) = ks.flatMap (catsK L t most) := by
  induction ks with
  | nil => rfl
  | cons a r ih => rw [List.map_cons, List.flatMap_cons, ih, List.flatMap_cons]; rfl
theorem turn_ok {G : Addr} {x k : Str} {most tu : Int} {s2 a : SV} {s : Int} {cs : List CO} {acc : List D} (ha : acc.length < 16777216) (h3 : x.length ≤ 16777216) (h1 : mulB tu (most + 1) = true) (h2 : (0 : Int) < (x.length : Int)) : bd_catches_1 G [.dat (.str x), .dat (.int most), s2, .own (.lst acc), .dat (.str k), .dat (.int s), a, .dat (.int tu)] cs = .nx [.dat (.str x), .dat (.int most), s2, .own (.lst (acc ++ [.tup [.str k, .int ((s + tu * (most + 1) - 1) % (x.length : Nat))]])), .dat (.str k), .dat (.int s), a, .dat (.int tu)] cs := by
  walk_at "dl"
theorem turns_ok {G : Addr} {x k : Str} {most : Int} {t : Bool} {s l : Nat} {cs : List CO} {acc : List D} {a : SV} {N : Nat} (hNN : N < 16777216) (hl : 0 < x.length ∧ x.length ≤ 600) (hm : 1 ≤ most ∧ most ≤ 600) (hz : l ≤ 1200) (hN : acc.length + (catD x.length most k (s, l)).length ≤ N) :
    ∃ b, bd_catches_2 G [.dat (.str x), .dat (.int most), .dat (.bl t), .own (.lst acc), .dat (.str k), .dat (.int (s : Nat)), .dat (.int (l : Nat)), a] cs = .nx [.dat (.str x), .dat (.int most), .dat (.bl t), .own (.lst (acc ++ catD x.length most k (s, l))), .dat (.str k), .dat (.int (s : Nat)), .dat (.int (l : Nat)), b] cs := by
  have hd : 0 ≤ ((l : Nat) : Int) / (most + 1) ∧ ((l : Nat) : Int) / (most + 1) ≤ 1200 := ⟨Int.ediv_nonneg (by omega) (by omega), Int.le_trans (Int.ediv_le_self _ (by omega)) (by omega)⟩
  have lp := loop_app (t := tgN 7) (body := bd_catches_1 G) (cs := cs) (fun acc sl => ∃ b, sl = [.dat (.str x), .dat (.int most), .dat (.bl t), .own (.lst acc), .dat (.str k), .dat (.int (s : Nat)), .dat (.int (l : Nat)), b])
    (fTurn x.length most k s) N (rngL 1 ((((l : Nat) : Int) / (most + 1) + 1 - 1).toNat)) acc [.dat (.str x), .dat (.int most), .dat (.bl t), .own (.lst acc), .dat (.str k), .dat (.int (s : Nat)), .dat (.int (l : Nat)), a] ⟨a, rfl⟩ (by rw [flatMap_fTurn]; exact hN) (by
      rintro d hd2 acc sl ⟨b, rfl⟩ hN2
      obtain ⟨i, hi, e⟩ := List.getElem_of_mem hd2
      obtain ⟨hi2, rfl⟩ := rngL_get (lo := 1) (i := i) (by rw [List.getElem?_eq_getElem hi, e])
      refine ⟨_, _, rfl, ?_, .dat (.int (1 + (i : Nat))), rfl⟩
      have ha : acc.length < 16777216 := by
        rw [show (fTurn x.length most k s (.int (1 + (i : Nat)))).length = 1 from rfl] at hN2
        omega
      have h1 : mulB (1 + (i : Nat)) (most + 1) = true := mulB_r (by omega) (by omega)
      have h2 : (0 : Int) < (x.length : Int) := by omega
      have h3 : x.length ≤ 16777216 := by omega
      exact turn_ok ha h3 h1 h2)
  obtain ⟨s2, lp, b, rfl⟩ := lp
  rw [flatMap_fTurn] at lp
  refine ⟨b, ?_⟩
  have h0 : (0 : Int) < most + 1 := by omega
  have h1 : most + 1 < 1073741824 := by omega
  have h4 : -4611686018427387904 ≤ ((l : Nat) : Int) / (most + 1) + 1 ∧ ((l : Nat) : Int) / (most + 1) + 1 < 4611686018427387904 := by omega
  obtain ⟨h5, h6⟩ := h4
  walk_at "dl"
theorem gap_ok {G : Addr} {x k : Str} {most : Int} {t : Bool} {cs : List CO} {acc : List D} {a b c : SV} (hl : x.length ≤ 600) (hm : 1 ≤ most ∧ most ≤ 600) (hN : acc.length + (catsK (ST.signs x) t most k).length ≤ 8000000) :
    ∃ a' b' c', bd_catches_3 G [.dat (.str x), .dat (.int most), .dat (.bl t), .own (.lst acc), .dat (.str k), a, b, c] cs = .nx [.dat (.str x), .dat (.int most), .dat (.bl t), .own (.lst (acc ++ catsK (ST.signs x) t most k)), .dat (.str k), a', b', c'] cs := by
  have eg := gaps_ok (x := x) (k := k) (t := t) (cs := cs) hl
  have lp := loop_app (t := tgT [5, 6]) (body := bd_catches_2 G) (cs := cs) (fun acc sl => ∃ a b c, sl = [.dat (.str x), .dat (.int most), .dat (.bl t), .own (.lst acc), .dat (.str k), a, b, c])
    (fGap x.length most k) 8000000 ((gapL k (ST.signs x) t).map gapD) acc [.dat (.str x), .dat (.int most), .dat (.bl t), .own (.lst acc), .dat (.str k), a, b, c] ⟨a, b, c, rfl⟩ (by
      rw [flatMap_fGap]
      unfold catsK at hN
      rw [signs_len] at hN
      exact hN) (by
      rintro d hd acc sl ⟨a, b, c, rfl⟩ hN2
      obtain ⟨g, hg, rfl⟩ := List.mem_map.mp hd
      have hz := gapL_sz hg
      rw [signs_len] at hz
      have h0 : 0 < x.length := by
        rcases Nat.eq_zero_or_pos x.length with h | h
        · exfalso
          have e : ST.signs x = [] := List.eq_nil_of_length_eq_zero (by rw [signs_len]; exact h)
          rw [e] at hg
          unfold gapL plc inG outG arnd at hg
          simp at hg
        · exact h
      obtain ⟨c', e⟩ := turns_ok (G := G) (x := x) (k := k) (t := t) (s := g.1) (l := g.2) (cs := cs) (acc := acc) (a := c) (most := most) (N := 8000000) (by omega) ⟨h0, hl⟩ hm (by omega) hN2
      exact ⟨_, _, rfl, e, _, _, _, rfl⟩)
  obtain ⟨s2, lp, a', b', c', rfl⟩ := lp
  rw [flatMap_fGap] at lp
  refine ⟨a', b', c', ?_⟩
  have ek : catsK (ST.signs x) t most k = (gapL k (ST.signs x) t).flatMap (catD x.length most k) := by unfold catsK; rw [signs_len]
  rw [ek]
  clear hN ek
  generalize gapL k (ST.signs x) t = gs at *
  walk_at "dl"
theorem catches_ok {G : Addr} {x : Str} {t : Bool} {most : Int} {cs : List CO} (hl : x.length ≤ 600) (hc : colB x = true) (hm : 1 ≤ most ∧ most ≤ 600) : p_catches G [.dat (.str x), .dat (.int most), .dat (.bl t)] (TG G :: cs) = .ok (.new (.lst (catsL x t most)), TG G :: cs) := by
  have e0 := need_colours_ok (G := G) (cs := cs) hl hc
  have ha : (ST.signs x).all (fun y => decide (y ∈ cols6)) = true ∧ cols6.length < 64 := ⟨colB_signs hc, by decide⟩
  have e1 := is_whole_ok (d := .int most) (x := .int most) (lo := 1) (hi := 600) (cs := TG G :: cs) rfl rfl
  have e2 : isWh (.int most) 1 600 = true := by
    show (decide _ && decide _) = true
    rw [decide_eq_true hm.1, decide_eq_true hm.2]; rfl
  rw [e2] at e1
  have cl := catsL_len (x := x) (t := t) hm.1 hl
  have lp := loop_app (t := tgN 4) (body := bd_catches_3 G) (cs := TG G :: cs) (fun acc sl => ∃ a b c d, sl = [.dat (.str x), .dat (.int most), .dat (.bl t), .own (.lst acc), a, b, c, d])
    (fCol (ST.signs x) t most) 8000000 ((among cols6 x).map D.str) [] [.dat (.str x), .dat (.int most), .dat (.bl t), .own (.lst []), .un, .un, .un, .un] ⟨_, _, _, _, rfl⟩ (by
      rw [flatMap_fCol]
      show 0 + (catsL x t most).length ≤ _
      omega) (by
      rintro d hd acc sl ⟨a, b, c, e, rfl⟩ hN2
      obtain ⟨k, hk, rfl⟩ := List.mem_map.mp hd
      obtain ⟨a', b', c', e⟩ := gap_ok (G := G) (x := x) (k := k) (t := t) (cs := TG G :: cs) (acc := acc) (a := b) (b := c) (c := e) (most := most) hl hm hN2
      exact ⟨_, _, rfl, e, _, _, _, _, rfl⟩)
  obtain ⟨s2, lp, a, b, c, d, rfl⟩ := lp
  rw [flatMap_fCol, List.nil_append] at lp
  replace lp : loopF (tgN 4) (bd_catches_3 G) ((among cols6 x).map D.str) [.dat (.str x), .dat (.int most), .dat (.bl t), .own (.lst []), .un, .un, .un, .un] (TG G :: cs) = .nx [.dat (.str x), .dat (.int most), .dat (.bl t), .own (.lst (catsL x t most)), a, b, c, d] (TG G :: cs) := lp
  clear cl hm e2
  generalize catsL x t most = cl at *
  unfold p_catches m_catches
  walk_at "dl"
theorem catches_no {G : Addr} {d y : D} {e : D} {t : Bool} {cs : List CO} (v : d.vw (TG G :: cs) = some y) (h : kd y = true) (hs : shortS y) (hb : isCo y = false) : p_catches G [.dat d, .dat e, .dat (.bl t)] (TG G :: cs) = .exc 14 [("value", d)] (TG G :: cs) := by
  have e0 := need_colours_no v h hs hb
  unfold p_catches m_catches
  walk_at "dl"
theorem floats_no {G : Addr} {d y : D} {t : Bool} {cs : List CO} (v : d.vw (TG G :: cs) = some y) (h : kd y = true) (hs : shortS y) (hb : isCo y = false) : p_floats G [.dat d, .dat (.bl t)] (TG G :: cs) = .exc 14 [("value", d)] (TG G :: cs) := by
  have e0 := need_colours_no v h hs hb
  unfold p_floats m_floats
  walk_at "dl"
theorem catches_most {G : Addr} {x : Str} {e y : D} {t : Bool} {cs : List CO} (hl : x.length ≤ 600) (hc : colB x = true) (v : e.vw (TG G :: cs) = some y) (h : kd y = true) (w : isWh y 1 600 = false) : p_catches G [.dat (.str x), .dat e, .dat (.bl t)] (TG G :: cs) = .exc 11 [("value", e)] (TG G :: cs) := by
  have e0 := need_colours_ok (G := G) (cs := cs) hl hc
  have e1 := is_whole_ok (lo := 1) (hi := 600) v h
  rw [w] at e1
  unfold p_catches m_catches
  walk_at "dl"
/-! ### the law's outer loop, with tables ahead of all cells -/
/-- what a turn leaves: the script in slot 0, as many slots, the tables -/
def OkL (L : List CO) (ns : List Int) (n : Nat) (r : Flw) : Prop := ∃ ys more, r = .nx (.scr ns :: ys) (L ++ more) ∧ ys.length = n
def tabL (L : List CO) : Bool := L.all (CO.und L.length)
theorem scope_okL {L : List CO} (hL : tabL L = true) {ns : List Int} {n : Nat} {B : FS} {sl : List SV} (h : OkL L ns n (B sl L)) : ∃ ys, dScope B sl L = .nx (.scr ns :: ys) L ∧ ys.length = n := by
  obtain ⟨ys, m, e, l⟩ := h
  refine ⟨ys.map (SV.cut L.length), ?_, by rw [List.length_map]; exact l⟩
  rw [s_scope, e]
  show (if ((L ++ m).take L.length).all (CO.und L.length) = true then Flw.nx ((SV.scr ns :: ys).map (SV.cut L.length)) ((L ++ m).take L.length) else Flw.bad) = _
  rw [List.take_left', if_pos (show L.all (CO.und L.length) = true from hL)]
  · rfl
  · rfl
theorem told_ofL {L : List CO} (hL : tabL L = true) {M : Int} (hM : 0 ≤ M ∧ M ≤ 100) {B : FS} {n : Nat} {ns : List Int} (h : ∀ (k : Nat) (xs : List SV), xs.length = n → OkL L ns (n + 1) (B (.scr ns :: .dat (.int k) :: xs) L)) : runB (n + 1) (mLaw M B) [.scr ns] L = .ok (.dat (.bl true), L) := by
  obtain ⟨m0, m1⟩ := hM
  obtain ⟨N, hN, hN'⟩ : ∃ N : Int, (if (if (ns.length : Int) < M then (ns.length : Int) else M) > 2 then (if (ns.length : Int) < M then (ns.length : Int) else M) else 2) = N ∧ 2 ≤ N ∧ N ≤ 100 := ⟨_, rfl, by split <;> omega, by split <;> (split <;> omega)⟩
  obtain ⟨n0, n1⟩ := hN'
  have lp := loop_inv (t := tgN 1) (body := dScope B) (fun _ sl c => c = L ∧ ∃ xs : List SV, sl = .scr ns :: xs ∧ xs.length = n + 1) (rngL 0 N.toNat) 0 (.scr ns :: List.replicate (n + 1) .un) L (by
    rintro i d sl c _ hd ⟨rfl, xs, rfl, hx⟩
    obtain ⟨hi, rfl⟩ := rngL_get hd
    obtain ⟨x, xs, rfl⟩ : ∃ x xs', xs = x :: xs' := by
      cases xs with
      | nil => cases hx
      | cons x xs => exact ⟨x, xs, rfl⟩
    obtain ⟨ys, e, l⟩ := scope_okL hL (h i xs (by simpa using hx))
    refine ⟨.scr ns :: .dat (.int i) :: xs, ?_, _, _, .inl e, rfl, ys, rfl, l⟩
    rw [show (0 : Int) + ((i - 0 : Nat) : Int) = (i : Int) by omega]
    unfold tgN setS
    rw [if_pos (by simp)]
    rfl) ⟨rfl, _, rfl, by simp⟩
  obtain ⟨s2, c2, e, rfl, -⟩ := lp
  have h0 : -4611686018427387904 ≤ N := by omega
  have h1 : N < 4611686018427387904 := by omega
  have e0 : (if M > (ns.length : Int) then (ns.length : Int) else M) = (if (ns.length : Int) < M then (ns.length : Int) else M) := rfl
  clear n0 n1 h m0 m1
  unfold mLaw
  rw [s_runB, s_sv_cons, s_sv_nil, s_svO_scr, s_svC, s_runO]
  generalize List.replicate (n + 1) SV.un = us at *
  walk_at "dl"
end SL.Pk

namespace SL.L42
open PySem L2 Pk
/-! _law_cell -/
noncomputable def m__law_cell : FS :=
    mCell 86028121 42
noncomputable def p__law_cell : Phi := runB 0 m__law_cell
/-! _law_take -/
noncomputable def m__law_take : FS :=
    mTake 5387 42 64
noncomputable def p__law_take : Phi := runB 3 m__law_take
/-! is_repeated -/
noncomputable def m_is_repeated (G : Addr) : FS :=
    (dRet (dAllP 0 0 1 G (dCons (dVar 1) (dCons (dCB gLen (dConsV (dVar 0) dNil)) dNil))))
noncomputable def p_is_repeated (G : Addr) : Phi := runB 0 (m_is_repeated G)
/-! shorter -/
noncomputable def m_shorter : FS :=
    (dRet (dIf (tOr' (toT (dOp gIsN (dVar 0) (dCon .non))) (toT (dOp gLt (dCB gLen (dConsV (dVar 1) dNil)) (dCB gLen (dConsV (dVar 0) dNil))))) (dVar 1) (dVar 0)))
noncomputable def p_shorter : Phi := runB 0 m_shorter
/-! written -/
noncomputable abbrev bd_written_1 (G : Addr) : FS :=
    (dAsg 6 (dCall 2 p_shorter [] (dCons (dVar 6) (dCons (dOp gAdd (dTGet (dVar 3) (dTup (dCons (dVar 1) (dCons (dVar 7) dNil)))) (dTGet (dVar 3) (dTup (dCons (dVar 7) (dCons (dVar 2) dNil))))) dNil))))
noncomputable abbrev bd_written_2 (G : Addr) : FS :=
    (dIfS (tAnd' (toT (dOp gEq (dOp gMod (dVar 4) (dVar 8)) (dCon (.int 0)))) (toTru (dCall 2 (p_is_repeated G) [] (dCons (dVar 5) (dCons (dVar 8) dNil)))))
    (dAsg 6 (dCall 2 p_shorter [] (dCons (dVar 6) (dCons (dOp gAdd (dOp gAdd (dLst (dCons (dCon (.str "(")) dNil)) (dTGet (dVar 3) (dTup (dCons (dVar 1) (dCons (dOp gAdd (dVar 1) (dVar 8)) dNil))))) (dLst (dCons (dFS (dCon (.str ")")) (dUn gFmt (dOp gFdiv (dVar 4) (dVar 8)))) dNil))) dNil))))
    dNx)
noncomputable def m_written (G : Addr) : FS :=
    (dSeq (dAsg 4 (dOp gSub (dVar 2) (dVar 1)))
    (dSeq (dAsg 5 (dSl (dVar 0) (oSome (dVar 1)) (oSome (dVar 2))))
    (dFz 5 (dSeq (dAsg 6 (dCon .non))
    (dSeq (dIfS (toTru (dCall 2 (p_is_repeated G) [] (dCons (dVar 5) (dCons (dCon (.int 1)) dNil))))
    (dRet (dLst (dCons (dIf (toT (dOp gEq (dVar 4) (dCon (.int 1)))) (dOp gIx (dVar 5) (dCon (.int 0))) (dFS (dUn gFmt (dVar 4)) (dUn gFmt (dOp gIx (dVar 5) (dCon (.int 0)))))) dNil)))
    dNx)
    (dSeq (dFor (rng2 (dConsV (dOp gAdd (dVar 1) (dCon (.int 1))) (dConsV (dVar 2) dNil))) (tgN 7)
    (bd_written_1 G))
    (dSeq (dFor (rng2 (dConsV (dCon (.int 2)) (dConsV (dOp gAdd (dOp gFdiv (dVar 4) (dCon (.int 2))) (dCon (.int 1))) dNil))) (tgN 8)
    (bd_written_2 G))
    (dRetV 6))))))))
noncomputable def p_written (G : Addr) : Phi := runB 5 (m_written G)
/-! shortest -/
noncomputable abbrev bd_shortest_1 (G : Addr) : FS :=
    (dSetKT (dCall 4 (p_written G) [] (dCons (dVar 1) (dCons (dVar 4) (dCons (dOp gAdd (dVar 4) (dVar 3)) (dCons (dVar 2) dNil))))) (dVar 2) (dTup (dCons (dVar 4) (dCons (dOp gAdd (dVar 4) (dVar 3)) dNil))))
noncomputable abbrev bd_shortest_2 (G : Addr) : FS :=
    (dFor (rng1 (dConsV (dOp gAdd (dOp gSub (dCB gLen (dConsV (dVar 1) dNil)) (dVar 3)) (dCon (.int 1))) dNil)) (tgN 4)
    (bd_shortest_1 G))
noncomputable def m_shortest (G : Addr) : FS :=
    (dSeq (dDrop (dCall 1 p_need_stitches [] (dCons (dVar 0) dNil)))
    (dSeq (dIfS (toT (dOp gGt (dCB gLen (dConsV (dVar 0) dNil)) (dCon (.int 24))))
    (dRaise 2 "value" (dVar 0))
    dNx)
    (dSeq (dIfS (tNot' (toTru (dVar 0)))
    (dRet (dCon (.str "")))
    dNx)
    (dSeq (dAsg 1 (dCB gList (dConsV (dVar 0) dNil)))
    (dFz 1 (dSeq (dAsg 2 dDictT)
    (dPin 2
    (dSeq (dFor (rng2 (dConsV (dCon (.int 1)) (dConsV (dOp gAdd (dCB gLen (dConsV (dVar 1) dNil)) (dCon (.int 1))) dNil))) (tgN 3)
    (bd_shortest_2 G))
    (dRet (dUn (gJoin " ") (dTGet (dVar 2) (dTup (dCons (dCon (.int 0)) (dCons (dCB gLen (dConsV (dVar 1) dNil)) dNil))))))))))))))
noncomputable def p_shortest (G : Addr) : Phi := runB 4 (m_shortest G)
/-! law -/
noncomputable def ct_law_1 (G : Addr) (P : Addr) : FE :=
    (dCaught 1 P ((("law" : Str) ++ ".<locals>.") ++ "<lambda>") [1, 2] "told" [(1, hList 1 2 [.s "NoStitch", .f "value"]), (2, hList 1 2 [.s "NoStitches", .f "value"]), (0, hBare (dAsg 1 (dLst (dCons (dCon (.str "other")) dNil))))] (dCall 1 (p_shortest G) [] (dCons (dVar 12) dNil)))
noncomputable abbrev bd_law_1 (G : Addr) (P : Addr) : FS :=
    (dIfS (tNot' (toTru (dCall 2 p__law_same [] (dCons (ct_law_1 G P) (dCons (dVar 13) dNil)))))
    (dRet (dCon (.bl false)))
    dNx)
noncomputable def ct_law_2 (G : Addr) (P : Addr) : FE :=
    (dCaught 1 P ((("law" : Str) ++ ".<locals>.") ++ "<lambda>") [1, 2] "told" [(1, hList 1 2 [.s "NoStitch", .f "value"]), (2, hList 1 2 [.s "NoStitches", .f "value"]), (0, hBare (dAsg 1 (dLst (dCons (dCon (.str "other")) dNil))))] (dCall 1 (p_shortest G) [] (dCons (dVar 9) dNil)))
noncomputable abbrev bd_law_2 (G : Addr) (P : Addr) : FS :=
    (dSeq (dAsg 2 (dCall 1 p__law_box [] (dCons (dCall 2 p__law_cell [] (dCons (dVar 0) (dCons (dVar 1) dNil))) dNil)))
    (dPin 2
    (dSeq (dPar 10 11 (dCons (dOp gMul (dLst (dCons (dCon (.str "k")) (dCons (dCon (.str "p2tog")) (dCons (dCon (.str "yo")) dNil)))) (dCall 2 p__law_take [] (dCons (dVar 2) (dCons (dCon (.int 9)) dNil)))) (dCons (dCall 2 p__law_take [] (dCons (dVar 2) (dCons (dCon (.int 25)) dNil))) dNil)))
    (dSeq (dAsg 3 (dOp gIx (dLst (dCons (dCon .non) (dCons (dCon (.int 7)) (dCons (dCon (.str "K")) (dCons (dCon (.str "2k")) (dCons (dCell (dLst (dCons (dCon (.str "k")) dNil))) (dCons (dCell dDict0) (dCons (dCon (.str "")) (dCons (dCon (.bl true)) (dCons (dCon (.str "(")) dNil)))))))))) (dCall 2 p__law_take [] (dCons (dVar 2) (dCons (dCon (.int 9)) dNil)))))
    (dSeq (dAsg 4 (dOp gAdd (dOp gAdd (dOp gAdd (dSl (dVar 10) oNone (oSome (dVar 11))) (dLst (dCons (dVar 3) dNil))) (dSl (dVar 10) (oSome (dVar 11)) oNone)) (dLst (dCons (dCon .non) dNil))))
    (dFz 4 (dSeq (dAsg 5 (dOp gAdd (dOp gMul (dLst (dCons (dCon (.str "k")) (dCons (dCon (.str "p")) dNil))) (dCon (.int 12))) (dOp gMul (dLst (dCons (dCon (.str "k")) dNil)) (dCall 2 p__law_take [] (dCons (dVar 2) (dCons (dCon (.int 2)) dNil))))))
    (dPin 5
    (dSeq (dAsg 6 (dOp gMul (dLst (dCons (dCon (.str "k")) dNil)) (dCon (.int 1201))))
    (dPin 6
    (dSeq (dAsg 7 (dOp gIx (dLst (dCons (dCon .non) (dCons (dCon (.int 7)) (dCons (dCon (.str "k p")) (dCons (dCell dDict0) (dCons (dCon (.bl true)) (dCons (dCon (.str "k")) dNil))))))) (dCall 2 p__law_take [] (dCons (dVar 2) (dCons (dCon (.int 6)) dNil)))))
    (dSeq (dAsg 8 (dLst (dCons (dTup (dCons (dVar 4) (dCons (dLst (dCons (dCon (.str "NoStitch")) (dCons (dVar 3) dNil))) dNil))) (dCons (dTup (dCons (dVar 5) (dCons (dIf (toT (dOp gEq (dCB gLen (dConsV (dVar 5) dNil)) (dCon (.int 24)))) (dLst (dCons (dCon (.str "told")) dNil)) (dLst (dCons (dCon (.str "NoStitches")) (dCons (dVar 5) dNil)))) dNil))) dNil))))
    (dFz 8 (dSeq (dAsg 8 (dOp gAdd (dVar 8) (dLst (dCons (dTup (dCons (dVar 6) (dCons (dLst (dCons (dCon (.str "NoStitches")) (dCons (dVar 6) dNil))) dNil))) (dCons (dTup (dCons (dVar 7) (dCons (dLst (dCons (dCon (.str "NoStitches")) (dCons (dVar 7) dNil))) dNil))) (dCons (dTup (dCons (dOp gMul (dLst (dCons (dCon (.str "k")) dNil)) (dCon (.int 24))) (dCons (dLst (dCons (dCon (.str "told")) dNil)) dNil))) dNil))))))
    (dFz 8 (dSeq (dFor (itemsOf (dVar 8)) (tgT [12, 13])
    (bd_law_1 G P))
    (dSeq (dAsg 9 (dOp gAdd (dOp gMul (dLst (dCons (dCon (.str "yo")) dNil)) (dCon (.int 25))) (dLst (dCons (dVar 3) dNil))))
    (dFz 9 (dIfS (tNot' (toTru (dCall 2 p__law_same [] (dCons (ct_law_2 G P) (dCons (dLst (dCons (dCon (.str "NoStitch")) (dCons (dVar 3) dNil))) dNil)))))
    (dRet (dCon (.bl false)))
    dNx)))))))))))))))))))
noncomputable def m_law (G : Addr) (P : Addr) : FS :=
    (dSeq (dFor (rng1 (dConsV (dCB gMax (dConsV (dCon (.int 2)) (dConsV (dCB gMin (dConsV (dCon (.int 8)) (dConsV (dLenS 0) dNil))) dNil))) dNil)) (tgN 1)
    (dScope (bd_law_2 G P)))
    (dRet (dCon (.bl true))))
noncomputable def p_law (G : Addr) (P : Addr) : Phi := runB 13 (m_law G P)
end SL.L42

namespace SL.L42
open PySem L2 Pk
def top (i : Nat) : Stmt := PySem.Challenge.pw_knitrows_k42_writing_refused.main.body.getD i (.Pass ⟨0, 0, 0, 0⟩)
abbrev s__law_box : Stmt := top 18
abbrev N__law_box : List Str := ["cell"]
theorem sc__law_box : FnScope N__law_box ["cell"] (defScope s__law_box) := ⟨rfl, rfl, rfl, by decide +kernel, rfl, by decide +kernel, by decide +kernel⟩
abbrev s__law_cell : Stmt := top 17
abbrev N__law_cell : List Str := ["script", "k"]
theorem sc__law_cell : FnScope N__law_cell ["script", "k"] (defScope s__law_cell) := ⟨rfl, rfl, rfl, by decide +kernel, rfl, by decide +kernel, by decide +kernel⟩
abbrev s__law_take : Stmt := top 19
abbrev N__law_take : List Str := ["box", "many", "turn", "one", "digit"]
theorem sc__law_take : FnScope N__law_take ["box", "many"] (defScope s__law_take) := ⟨rfl, rfl, rfl, by decide +kernel, rfl, by decide +kernel, by decide +kernel⟩
abbrev s__law_same : Stmt := top 21
abbrev N__law_same : List Str := ["found", "due", "alike"]
theorem sc__law_same : FnScope N__law_same ["found", "due"] (defScope s__law_same) := ⟨rfl, rfl, rfl, by decide +kernel, rfl, by decide +kernel, by decide +kernel⟩
abbrev s_is_stitch : Stmt := top 7
abbrev N_is_stitch : List Str := ["value"]
theorem sc_is_stitch : FnScope N_is_stitch ["value"] (defScope s_is_stitch) := ⟨rfl, rfl, rfl, by decide +kernel, rfl, by decide +kernel, by decide +kernel⟩
abbrev s_need_stitch : Stmt := top 8
abbrev N_need_stitch : List Str := ["value"]
theorem sc_need_stitch : FnScope N_need_stitch ["value"] (defScope s_need_stitch) := ⟨rfl, rfl, rfl, by decide +kernel, rfl, by decide +kernel, by decide +kernel⟩
abbrev s_need_stitches : Stmt := top 9
abbrev N_need_stitches : List Str := ["value", "stitch"]
theorem sc_need_stitches : FnScope N_need_stitches ["value"] (defScope s_need_stitches) := ⟨rfl, rfl, rfl, by decide +kernel, rfl, by decide +kernel, by decide +kernel⟩
abbrev s_is_repeated : Stmt := top 12
abbrev N_is_repeated : List Str := ["stitches", "size"]
theorem sc_is_repeated : FnScope N_is_repeated ["stitches", "size"] (defScope s_is_repeated) := ⟨rfl, rfl, rfl, by decide +kernel, rfl, by decide +kernel, by decide +kernel⟩
abbrev s_shorter : Stmt := top 13
abbrev N_shorter : List Str := ["one", "other"]
theorem sc_shorter : FnScope N_shorter ["one", "other"] (defScope s_shorter) := ⟨rfl, rfl, rfl, by decide +kernel, rfl, by decide +kernel, by decide +kernel⟩
abbrev s_written : Stmt := top 14
abbrev N_written : List Str := ["stitches", "begin", "end", "known", "many", "part", "found", "cut", "size"]
theorem sc_written : FnScope N_written ["stitches", "begin", "end", "known"] (defScope s_written) := ⟨rfl, rfl, rfl, by decide +kernel, rfl, by decide +kernel, by decide +kernel⟩
abbrev s_shortest : Stmt := top 15
abbrev N_shortest : List Str := ["stitches", "row", "known", "many", "begin"]
theorem sc_shortest : FnScope N_shortest ["stitches"] (defScope s_shortest) := ⟨rfl, rfl, rfl, by decide +kernel, rfl, by decide +kernel, by decide +kernel⟩
abbrev s_law : Stmt := top 22
abbrev N_law : List Str := ["script", "k", "box", "odd", "spoilt", "many", "far", "whole", "cases", "more", "row", "at", "value", "due"]
theorem sc_law : FnScope N_law ["script"] (defScope s_law) := ⟨rfl, rfl, rfl, by decide +kernel, rfl, by decide +kernel, by decide +kernel⟩
abbrev s__law_caught : Stmt := top 20
theorem sc__law_caught : FnScope ["ask", "found", "e"] ["ask"] (defScope s__law_caught) := ⟨rfl, rfl, rfl, by decide +kernel, rfl, by decide +kernel, by decide +kernel⟩
section
variable {P : Program} {w : World} {K : PySem.W.Frag} {mg : Str → Option Value} {base : Heap}
theorem ok__law_box {fd : FuncData} (FF : FnD K "_law_box" s__law_box [] fd) (hm : mg "_law_box" = some (.ref (He.ga K "_law_box"))) (hf_max : mg "max" = none) : DefOk P w K mg base 1 "_law_box" s__law_box ["cell"] [] p__law_box fd := by
  refine ⟨FF, FnG.mk' FF sc__law_box (fun cdv A outer s H vs Q E vl gd hr h => ⟨_, ?_, body_run (by rw [vl]; rfl) h⟩), hm⟩
  exact (dss_one (ds_ret (ps_ret (de_lst (da_cons (de_callB (c_max rfl) rfl hf_max bt_max (daV_cons de_int (daV_cons (de_op o_sub (de_var (pv 0)) (de_op o_pow de_int de_int)) da_nil))) (da_cons (de_op o_mod (de_var (pv 0)) de_int) (da_cons (de_op o_mod (de_var (pv 0)) de_int) (da_cons de_int da_nil))))))))
theorem ok__law_cell {fd : FuncData} (FF : FnD K "_law_cell" s__law_cell [] fd) (hm : mg "_law_cell" = some (.ref (He.ga K "_law_cell"))) (hf_len : mg "len" = none) : DefOk P w K mg base 1 "_law_cell" s__law_cell ["script", "k"] [] p__law_cell fd := by
  refine ⟨FF, FnG.mk' FF sc__law_cell (fun cdv A outer s H vs Q E vl gd hr h => ⟨_, ?_, body_run (by rw [vl]; rfl) h⟩), hm⟩
  exact (dss_cons (ds_if (ps_if (dt_cmp o_lt (de_var (pv 1)) (de_lenS (pe_callB call_len rfl hf_len bt_len (pa_cons (pv 0) pa_nil))) (nomark _))
    (dss_one (ds_ret (ps_ret (de_ixS (pe_ix ix_list (pv 0) (de_var (pv 1)) fun _ _ => rfl)))))
    dss_nil))
    (dss_one (ds_ret (ps_ret (de_op o_add (de_op o_mul de_int (de_var (pv 1))) de_int)))))
theorem ok__law_take {fd : FuncData} (FF : FnD K "_law_take" s__law_take [] fd) (hm : mg "_law_take" = some (.ref (He.ga K "_law_take")))  : DefOk P w K mg base 1 "_law_take" s__law_take ["box", "many"] [] p__law_take fd := by
  refine ⟨FF, FnG.mk' FF sc__law_take (fun cdv A outer s H vs Q E vl gd hr h => ⟨_, ?_, body_run (by rw [vl]; rfl) h⟩), hm⟩
  exact (dss_cons (ds_if (ps_if (dt_cmp o_gt (de_ix (de_var (pv 0)) de_int fun _ _ => rfl) de_int (nomark _))
    (dss_cons (ds_asg (ps_set (i := 4) sc__law_take.nd rfl (by first | exact Or.inl rfl | exact Or.inr rfl) (de_op o_mod (de_ix (de_var (pv 0)) de_int fun _ _ => rfl) (de_var (pv 1)))))
    (dss_cons (ds_setix (ps_asg (de_frz (de_op o_fdiv (de_ix (de_var (pv 0)) de_int fun _ _ => rfl) (de_var (pv 1)))) (pg_sub (pv 0) de_int set_list)))
    (dss_one (ds_retV (ps_ret (pv 4))))))
    dss_nil))
    (dss_cons (ds_setix (ps_asg (de_frz (de_op o_add (de_ix (de_var (pv 0)) de_int fun _ _ => rfl) de_int)) (pg_sub (pv 0) de_int set_list)))
    (dss_cons (ds_asg (ps_set (i := 2) sc__law_take.nd rfl (by first | exact Or.inl rfl | exact Or.inr rfl) (de_ix (de_var (pv 0)) de_int fun _ _ => rfl)))
    (dss_cons (ds_asg (ps_set (i := 3) sc__law_take.nd rfl (by first | exact Or.inl rfl | exact Or.inr rfl) (de_op o_mod (de_op o_pow (de_op o_add (de_op o_add (de_op o_mul (de_ix (de_var (pv 0)) de_int fun _ _ => rfl) (de_op o_add (de_op o_mul de_int (de_var (pv 2))) de_int)) (de_op o_mul (de_op o_mul de_int (de_var (pv 2))) (de_var (pv 2)))) de_int) de_int) de_int)))
    (dss_one (ds_ret (ps_ret (de_op o_mod (de_op o_fdiv (de_op o_mod (de_op o_pow (de_op o_add (de_op o_add (de_var (pv 3)) (de_op o_mul (de_ix (de_var (pv 0)) de_int fun _ _ => rfl) (de_var (pv 2)))) de_int) de_int) de_int) de_int) (de_var (pv 1))))))))))
theorem ok__law_same {fd : FuncData} (FF : FnD K "_law_same" s__law_same [] fd) (hm : mg "_law_same" = some (.ref (He.ga K "_law_same"))) (hf_bool : mg "bool" = none) (hf_dict : mg "dict" = none) (hf_isinstance : mg "isinstance" = none) (hf_len : mg "len" = none) (hf_list : mg "list" = none) (hf_repr : mg "repr" = none) : DefOk P w K mg base 1 "_law_same" s__law_same ["found", "due"] [] p__law_same fd := by
  refine ⟨FF, FnG.mk' FF sc__law_same (fun cdv A outer s H vs Q E vl gd hr h => ⟨_, ?_, body_run (by rw [vl]; rfl) h⟩), hm⟩
  exact (dss_cons (ds_if (ps_if (PW.pt (dw_or (dt_cmpX (o_ne hr.units) (de_callBX c_len rfl hf_len bt_len (daV_cons (de_var (pv 0)) da_nil)) (de_callBX c_len rfl hf_len bt_len (daV_cons (de_var (pv 1)) da_nil)) (nomark _)) (dw_or1 (dt_cmpX (o_ne hr.units) (de_ix (de_var (pv 0)) de_int fun _ _ => rfl) (de_ix (de_var (pv 1)) de_int fun _ _ => rfl) (nomark _)))))
    (dss_one (ds_ret (ps_ret de_bl)))
    dss_nil))
    (dss_cons (ds_if (ps_if (dt_cmpX (o_eq hr.units) (de_callBX c_len rfl hf_len bt_len (daV_cons (de_var (pv 1)) da_nil)) de_int (nomark _))
    (dss_one (ds_ret (ps_ret de_bl)))
    dss_nil))
    (dss_cons (ds_if (ps_if (dt_tru (de_isi (de_ix (de_var (pv 1)) de_int fun _ _ => rfl) rfl hf_isinstance rfl hf_list bt_list))
    (dss_one (ds_appE (ps_expr (pe_bm PySem.F.plainAttrs_list PySem.F.slot_list_append PySem.F.type_list_append mt_append (de_ix (de_var (pv 1)) de_int fun _ _ => rfl) (da_cons de_str da_nil)))))
    dss_nil))
    (dss_cons (ds_if (ps_if (dt_tru (de_isi (de_ix (de_var (pv 1)) de_int fun _ _ => rfl) rfl hf_isinstance rfl hf_dict bt_dict))
    (dss_one (ds_setKE (ps_asg (de_frz de_int) (pg_sub (de_ix (de_var (pv 1)) de_int fun _ _ => rfl) de_str (set_dict (Nat.lt_of_le_of_lt (Nat.add_le_add_left (by decide) _) hr.units))))))
    dss_nil))
    (dss_cons (ds_asg (ps_set (i := 2) sc__law_same.nd rfl (by first | exact Or.inl rfl | exact Or.inr rfl) (de_and (de_cmpX (o_eq hr.units) (de_callBX (c_reprD hr.units gd) rfl hf_repr bt_repr (daV_cons (de_ix (de_var (pv 0)) de_int fun _ _ => rfl) da_nil)) (de_callBX (c_reprD hr.units gd) rfl hf_repr bt_repr (daV_cons (de_ix (de_var (pv 1)) de_int fun _ _ => rfl) da_nil)) (nomark _)) (de_one (de_cmpX (o_eq hr.units) (de_isi (de_ix (de_var (pv 0)) de_int fun _ _ => rfl) rfl hf_isinstance rfl hf_bool bt_bool) (de_isi (de_ix (de_var (pv 1)) de_int fun _ _ => rfl) rfl hf_isinstance rfl hf_bool bt_bool) (nomark _))))))
    (dss_cons (ds_if (ps_if (dt_tru (de_isi (de_ix (de_var (pv 1)) de_int fun _ _ => rfl) rfl hf_isinstance rfl hf_list bt_list))
    (dss_one (ds_popE (ps_expr (pe_bm0 PySem.F.plainAttrs_list PySem.F.slot_list_pop PySem.F.type_list_pop mt_pop (de_ix (de_var (pv 1)) de_int fun _ _ => rfl)))))
    dss_nil))
    (dss_cons (ds_if (ps_if (dt_tru (de_isi (de_ix (de_var (pv 1)) de_int fun _ _ => rfl) rfl hf_isinstance rfl hf_dict bt_dict))
    (dss_one (ds_popKE (ps_expr (pe_dpop1 (de_ix (de_var (pv 1)) de_int fun _ _ => rfl) de_str ⟨rfl, rfl, rfl, rfl⟩))))
    dss_nil))
    (dss_one (ds_retV (ps_ret (pv 2)))))))))))
theorem ok_is_stitch {fd : FuncData} (FF : FnD K "is_stitch" s_is_stitch [] fd) (hm : mg "is_stitch" = some (.ref (He.ga K "is_stitch"))) (hf_isinstance : mg "isinstance" = none) (hf_str : mg "str" = none) (T_STITCHES : TabF K w mg "STITCHES" rows_STITCHES) : DefOk P w K mg base 1 "is_stitch" s_is_stitch ["value"] [] p_is_stitch fd := by
  refine ⟨FF, FnG.mk' FF sc_is_stitch (fun cdv A outer s H vs Q E vl gd hr h => ⟨_, ?_, body_run (by rw [vl]; rfl) h⟩), hm⟩
  exact (dss_one (ds_ret (ps_ret (de_and (de_isi (de_var (pv 0)) rfl hf_isinstance rfl hf_str bt_str) (de_one (de_inT T_STITCHES rfl (de_var (pv 0))))))))
theorem ok_need_stitch {fd : FuncData} (FF : FnD K "need_stitch" s_need_stitch [] fd) (hm : mg "need_stitch" = some (.ref (He.ga K "need_stitch"))) (E_NoStitch : Err1 P w K mg base 1 "value") {fd_is_stitch : FuncData} (D_is_stitch : DefOk P w K mg base 1 "is_stitch" s_is_stitch ["value"] [] p_is_stitch fd_is_stitch) : DefOk P w K mg base 3 "need_stitch" s_need_stitch ["value"] [] p_need_stitch fd := by
  have b_is_stitch : Binds K fd_is_stitch ["value"] [] := D_is_stitch.F.bindsN fun _ _ _ _ _ _ us hl => match us, hl with | [_], _ => rfl
  refine ⟨FF, FnG.mk' FF sc_need_stitch (fun cdv A outer s H vs Q E vl gd hr h => ⟨_, ?_, body_run (by rw [vl]; rfl) h⟩), hm⟩
  exact (dss_one (ds_if (ps_if (dt_not (dt_tru (de_call D_is_stitch.G (hr.mono (by decide)) gd rfl D_is_stitch.m D_is_stitch.F.kp b_is_stitch .nil flat_nil rfl (passesW_of (takes_of rfl rfl rfl rfl)) (da_cons (de_var (pv 0)) da_nil))))
    (dss_one (ds_raise rfl (takes_of rfl rfl rfl rfl) E_NoStitch rfl rfl (hr.mono (by decide)) (de_var (pv 0)) (passes_call LamX.takes0 fun _ _ _ _ z => z)))
    dss_nil)))
theorem ok_need_stitches {fd : FuncData} (FF : FnD K "need_stitches" s_need_stitches [] fd) (hm : mg "need_stitches" = some (.ref (He.ga K "need_stitches"))) (hf_isinstance : mg "isinstance" = none) (hf_len : mg "len" = none) (hf_list : mg "list" = none) (hf_tuple : mg "tuple" = none) (ht_MOST_STITCHES : ∃ t, mg "MOST_STITCHES" = some (.int 1200 t)) (E_NoStitches : Err1 P w K mg base 2 "value") {fd_need_stitch : FuncData} (D_need_stitch : DefOk P w K mg base 3 "need_stitch" s_need_stitch ["value"] [] p_need_stitch fd_need_stitch) : DefOk P w K mg base 4 "need_stitches" s_need_stitches ["value"] [] p_need_stitches fd := by
  obtain ⟨t_MOST_STITCHES, hc_MOST_STITCHES⟩ := ht_MOST_STITCHES
  have b_need_stitch : Binds K fd_need_stitch ["value"] [] := D_need_stitch.F.bindsN fun _ _ _ _ _ _ us hl => match us, hl with | [_], _ => rfl
  refine ⟨FF, FnG.mk' FF sc_need_stitches (fun cdv A outer s H vs Q E vl gd hr h => ⟨_, ?_, body_run (by rw [vl]; rfl) h⟩), hm⟩
  exact (dss_cons (ds_if (ps_if (PW.pt (dw_or (dt_not (dt_tru (de_isi2 (de_var (pv 0)) rfl hf_isinstance rfl hf_list bt_list rfl hf_tuple bt_tuple))) (dw_or1 (dt_cmp o_gt (de_callB c_len rfl hf_len bt_len (daV_cons (de_var (pv 0)) da_nil)) (de_glob (v := .int 1200) rfl hc_MOST_STITCHES ⟨_, rfl⟩ fun _ => .int _) (nomark _)))))
    (dss_one (ds_raise rfl (takes_of rfl rfl rfl rfl) E_NoStitches rfl rfl (hr.mono (by decide)) (de_var (pv 0)) (passes_call LamX.takes0 fun _ _ _ _ z => z)))
    dss_nil))
    (dss_one (ds_for (ps_for (passes_of rfl) rfl (di_iter (de_var (pv 0))) (dg_name (pg_name (i := 1) sc_need_stitches.nd rfl (by first | exact Or.inl rfl | exact Or.inr rfl)))
    (dss_one (ds_drop (ps_expr (de_call D_need_stitch.G (hr.mono (by decide)) gd rfl D_need_stitch.m D_need_stitch.F.kp b_need_stitch .nil flat_nil rfl (passesW_of (takes_of rfl rfl rfl rfl)) (da_cons (de_var (pv 1)) da_nil)))))))))
theorem ok_is_repeated {fd : FuncData} (FF : FnD K "is_repeated" s_is_repeated [] fd) (hm : mg "is_repeated" = some (.ref (He.ga K "is_repeated"))) (hf_all : mg "all" = none) (hf_len : mg "len" = none) (hf_range : mg "range" = none) {c Gt : Addr} (TG : LamX.TabB base mg c Gt) (cdq : fd.code = .ref c) : DefOk P w K mg base 1 "is_repeated" s_is_repeated ["stitches", "size"] [] (p_is_repeated Gt) fd := by
  refine ⟨FF, FnG.mkC FF sc_is_repeated (fun cdv A outer s H vs Q E ec vl gd hr h => ⟨_, ?_, body_run (by rw [vl]; rfl) h⟩), hm⟩
  have code : cdv = .ref c := ec.symm.trans cdq
  exact (dss_one (ds_ret (ps_ret (de_allP (t := 0) (iL := 0) (iK := 1) hr rfl hf_all TG code (allP_by (by kernel_rfl)) rfl hf_range (da_cons (de_var (pv 1)) (da_cons (de_callB c_len rfl hf_len bt_len (daV_cons (de_var (pv 0)) da_nil)) da_nil)) rfl rfl))))
theorem ok_shorter {fd : FuncData} (FF : FnD K "shorter" s_shorter [] fd) (hm : mg "shorter" = some (.ref (He.ga K "shorter"))) (hf_len : mg "len" = none) : DefOk P w K mg base 1 "shorter" s_shorter ["one", "other"] [] p_shorter fd := by
  refine ⟨FF, FnG.mk' FF sc_shorter (fun cdv A outer s H vs Q E vl gd hr h => ⟨_, ?_, body_run (by rw [vl]; rfl) h⟩), hm⟩
  exact (dss_one (ds_ret (ps_ret (de_if (PW.pt (dw_or (dt_cmp o_isN (de_var (pv 0)) de_non (nomark _)) (dw_or1 (dt_cmp o_lt (de_callB c_len rfl hf_len bt_len (daV_cons (de_var (pv 1)) da_nil)) (de_callB c_len rfl hf_len bt_len (daV_cons (de_var (pv 0)) da_nil)) (nomark _))))) (de_var (pv 1)) (de_var (pv 0))))))
theorem ok_written {fd : FuncData} (FF : FnD K "written" s_written [] fd) (hm : mg "written" = some (.ref (He.ga K "written"))) (hf_range : mg "range" = none) {Gt : Addr} {fd_is_repeated : FuncData} (D_is_repeated : DefOk P w K mg base 1 "is_repeated" s_is_repeated ["stitches", "size"] [] (p_is_repeated Gt) fd_is_repeated) {fd_shorter : FuncData} (D_shorter : DefOk P w K mg base 1 "shorter" s_shorter ["one", "other"] [] p_shorter fd_shorter) : DefOk P w K mg base 2 "written" s_written ["stitches", "begin", "end", "known"] [] (p_written Gt) fd := by
  have b_is_repeated : Binds K fd_is_repeated ["stitches", "size"] [] := D_is_repeated.F.bindsN fun _ _ _ _ _ _ us hl => match us, hl with | [_, _], _ => rfl
  have b_shorter : Binds K fd_shorter ["one", "other"] [] := D_shorter.F.bindsN fun _ _ _ _ _ _ us hl => match us, hl with | [_, _], _ => rfl
  refine ⟨FF, FnG.mk' FF sc_written (fun cdv A outer s H vs Q E vl gd hr h => ⟨_, ?_, body_run (by rw [vl]; rfl) h⟩), hm⟩
  exact (dss_cons (ds_asg (ps_set (i := 4) sc_written.nd rfl (by first | exact Or.inl rfl | exact Or.inr rfl) (de_op o_sub (de_var (pv 2)) (de_var (pv 1)))))
    (dss_cons (ds_asg (ps_set (i := 5) sc_written.nd rfl (by first | exact Or.inl rfl | exact Or.inr rfl) (de_sl (de_var (pv 0)) (do_some (de_var (pv 1))) (do_some (de_var (pv 2))))))
    (dss_frz 5 (dss_cons (ds_asg (ps_set (i := 6) sc_written.nd rfl (by first | exact Or.inl rfl | exact Or.inr rfl) de_non))
    (dss_cons (ds_if (ps_if (dt_tru (de_call D_is_repeated.G (hr.mono (by decide)) gd rfl D_is_repeated.m D_is_repeated.F.kp b_is_repeated .nil flat_nil rfl (passesW_of (takes_of rfl rfl rfl rfl)) (da_cons (de_var (pv 5)) (da_cons de_int da_nil))))
    (dss_one (ds_ret (ps_ret (de_lst (da_cons (de_if (dt_cmp (o_eq hr.units) (de_var (pv 4)) de_int (nomark _)) (de_ix (de_var (pv 5)) de_int fun _ _ => rfl) (de_fs (de_fmt (de_var (pv 4))) (de_fmt (de_ix (de_var (pv 5)) de_int fun _ _ => rfl)))) da_nil)))))
    dss_nil))
    (dss_cons (ds_for (ps_for (passes_of rfl) rfl (di_range2 rfl hf_range (daV_cons (de_op o_add (de_var (pv 1)) de_int) (daV_cons (de_var (pv 2)) da_nil))) (dg_name (pg_name (i := 7) sc_written.nd rfl (by first | exact Or.inl rfl | exact Or.inr rfl)))
    (dss_one (ds_asg (ps_set (i := 6) sc_written.nd rfl (by first | exact Or.inl rfl | exact Or.inr rfl) (de_call D_shorter.G (hr.mono (by decide)) gd rfl D_shorter.m D_shorter.F.kp b_shorter .nil flat_nil rfl (passesW_of (takes_of rfl rfl rfl rfl)) (da_cons (de_var (pv 6)) (da_cons (de_op o_add (de_tget hr.units (de_var (pv 3)) (de_tup (da_cons (de_var (pv 1)) (da_cons (de_var (pv 7)) da_nil))) fun _ _ => rfl) (de_tget hr.units (de_var (pv 3)) (de_tup (da_cons (de_var (pv 7)) (da_cons (de_var (pv 2)) da_nil))) fun _ _ => rfl)) da_nil))))))))
    (dss_cons (ds_for (ps_for (passes_of rfl) rfl (di_range2 rfl hf_range (daV_cons de_int (daV_cons (de_op o_add (de_op o_fdiv (de_var (pv 4)) de_int) de_int) da_nil))) (dg_name (pg_name (i := 8) sc_written.nd rfl (by first | exact Or.inl rfl | exact Or.inr rfl)))
    (dss_one (ds_if (ps_if (PW.pt (dw_and (dt_cmp (o_eq hr.units) (de_op o_mod (de_var (pv 4)) (de_var (pv 8))) de_int (nomark _)) (dw_and1 (dt_tru (de_call D_is_repeated.G (hr.mono (by decide)) gd rfl D_is_repeated.m D_is_repeated.F.kp b_is_repeated .nil flat_nil rfl (passesW_of (takes_of rfl rfl rfl rfl)) (da_cons (de_var (pv 5)) (da_cons (de_var (pv 8)) da_nil)))))))
    (dss_one (ds_asg (ps_set (i := 6) sc_written.nd rfl (by first | exact Or.inl rfl | exact Or.inr rfl) (de_call D_shorter.G (hr.mono (by decide)) gd rfl D_shorter.m D_shorter.F.kp b_shorter .nil flat_nil rfl (passesW_of (takes_of rfl rfl rfl rfl)) (da_cons (de_var (pv 6)) (da_cons (de_op o_add (de_op o_add (de_lst (da_cons de_str da_nil)) (de_tget hr.units (de_var (pv 3)) (de_tup (da_cons (de_var (pv 1)) (da_cons (de_op o_add (de_var (pv 1)) (de_var (pv 8))) da_nil))) fun _ _ => rfl)) (de_lst (da_cons (de_fs de_str (de_fmt (de_op o_fdiv (de_var (pv 4)) (de_var (pv 8))))) da_nil))) da_nil))))))
    dss_nil)))))
    (dss_one (ds_retV (ps_ret (pv 6)))))))))))
theorem ok_shortest {fd : FuncData} (FF : FnD K "shortest" s_shortest [] fd) (hm : mg "shortest" = some (.ref (He.ga K "shortest"))) (hf_len : mg "len" = none) (hf_list : mg "list" = none) (hf_range : mg "range" = none) (ht_MOST_WRITTEN : ∃ t, mg "MOST_WRITTEN" = some (.int 24 t)) (E_NoStitches : Err1 P w K mg base 2 "value") {Gt : Addr} {fd_need_stitches : FuncData} (D_need_stitches : DefOk P w K mg base 4 "need_stitches" s_need_stitches ["value"] [] p_need_stitches fd_need_stitches) {fd_written : FuncData} (D_written : DefOk P w K mg base 2 "written" s_written ["stitches", "begin", "end", "known"] [] (p_written Gt) fd_written) : DefOk P w K mg base 5 "shortest" s_shortest ["stitches"] [] (p_shortest Gt) fd := by
  obtain ⟨t_MOST_WRITTEN, hc_MOST_WRITTEN⟩ := ht_MOST_WRITTEN
  have b_need_stitches : Binds K fd_need_stitches ["value"] [] := D_need_stitches.F.bindsN fun _ _ _ _ _ _ us hl => match us, hl with | [_], _ => rfl
  have b_written : Binds K fd_written ["stitches", "begin", "end", "known"] [] := D_written.F.bindsN fun _ _ _ _ _ _ us hl => match us, hl with | [_, _, _, _], _ => rfl
  refine ⟨FF, FnG.mk' FF sc_shortest (fun cdv A outer s H vs Q E vl gd hr h => ⟨_, ?_, body_run (by rw [vl]; rfl) h⟩), hm⟩
  exact (dss_cons (ds_drop (ps_expr (de_call D_need_stitches.G (hr.mono (by decide)) gd rfl D_need_stitches.m D_need_stitches.F.kp b_need_stitches .nil flat_nil rfl (passesW_of (takes_of rfl rfl rfl rfl)) (da_cons (de_var (pv 0)) da_nil))))
    (dss_cons (ds_if (ps_if (dt_cmp o_gt (de_callB c_len rfl hf_len bt_len (daV_cons (de_var (pv 0)) da_nil)) (de_glob (v := .int 24) rfl hc_MOST_WRITTEN ⟨_, rfl⟩ fun _ => .int _) (nomark _))
    (dss_one (ds_raise rfl (takes_of rfl rfl rfl rfl) E_NoStitches rfl rfl (hr.mono (by decide)) (de_var (pv 0)) (passes_call LamX.takes0 fun _ _ _ _ z => z)))
    dss_nil))
    (dss_cons (ds_if (ps_if (dt_not (dt_tru (de_var (pv 0))))
    (dss_one (ds_ret (ps_ret de_str)))
    dss_nil))
    (dss_cons (ds_asg (ps_set (i := 1) sc_shortest.nd rfl (by first | exact Or.inl rfl | exact Or.inr rfl) (de_callTy c_list rfl hf_list bt_list (daV_cons (de_var (pv 0)) da_nil))))
    (dss_frz 1 (dss_cons (ds_asg (ps_set (i := 2) sc_shortest.nd rfl (by first | exact Or.inl rfl | exact Or.inr rfl) de_dictT))
    (dss_pin 2
    (dss_cons (ds_for (ps_for (passes_of rfl) rfl (di_range2 rfl hf_range (daV_cons de_int (daV_cons (de_op o_add (de_callB c_len rfl hf_len bt_len (daV_cons (de_var (pv 1)) da_nil)) de_int) da_nil))) (dg_name (pg_name (i := 3) sc_shortest.nd rfl (by first | exact Or.inl rfl | exact Or.inr rfl)))
    (dss_one (ds_for (ps_for (passes_of rfl) rfl (di_range1 rfl hf_range (daV_cons (de_op o_add (de_op o_sub (de_callB c_len rfl hf_len bt_len (daV_cons (de_var (pv 1)) da_nil)) (de_var (pv 3))) de_int) da_nil)) (dg_name (pg_name (i := 4) sc_shortest.nd rfl (by first | exact Or.inl rfl | exact Or.inr rfl)))
    (dss_one (ds_setKT (ps_asg (de_frz (de_call D_written.G (hr.mono (by decide)) gd rfl D_written.m D_written.F.kp b_written .nil flat_nil rfl (passesW_of (takes_of rfl rfl rfl rfl)) (da_cons (de_var (pv 1)) (da_cons (de_var (pv 4)) (da_cons (de_op o_add (de_var (pv 4)) (de_var (pv 3))) (da_cons (de_var (pv 2)) da_nil)))))) (pg_sub (de_var (pv 2)) (de_tup (da_cons (de_var (pv 4)) (da_cons (de_op o_add (de_var (pv 4)) (de_var (pv 3))) da_nil))) (set_dict (Nat.lt_of_le_of_lt (Nat.add_le_add_left (by decide) _) hr.units)))))))))))
    (dss_one (ds_ret (ps_ret (de_join (de_tget hr.units (de_var (pv 2)) (de_tup (da_cons de_int (da_cons (de_callB c_len rfl hf_len bt_len (daV_cons (de_var (pv 1)) da_nil)) da_nil))) fun _ _ => rfl)))))))))))))
theorem ok_law {fd : FuncData} (FF : FnD K "law" s_law [] fd) (hm : mg "law" = some (.ref (He.ga K "law"))) (hf_len : mg "len" = none) (hf_max : mg "max" = none) (hf_min : mg "min" = none) (hf_range : mg "range" = none) (E_NoStitch : Err1 P w K mg base 1 "value") (E_NoStitches : Err1 P w K mg base 2 "value") {Gt : Addr} {c Pt : Addr} {fd__law_caught : FuncData} (F__law_caught : FnD K "_law_caught" s__law_caught [] fd__law_caught) (g__law_caught : mg "_law_caught" = some (.ref (He.ga K "_law_caught"))) (TB : LamX.TabB base mg c Pt) (cdq : fd.code = .ref c) (X_caught : exmB K [1, 2] [1, 2, 0] = true) (g_KnitError : mg "KnitError" = some (.ref (He.ga K "KnitError"))) (g_NoStitch : mg "NoStitch" = some (.ref (He.ga K "NoStitch"))) (g_NoStitches : mg "NoStitches" = some (.ref (He.ga K "NoStitches"))) (Z_NoStitch : errB K 1 "value" = true) (Z_NoStitches : errB K 2 "value" = true) {fd__law_box : FuncData} (D__law_box : DefOk P w K mg base 1 "_law_box" s__law_box ["cell"] [] p__law_box fd__law_box) {fd__law_cell : FuncData} (D__law_cell : DefOk P w K mg base 1 "_law_cell" s__law_cell ["script", "k"] [] p__law_cell fd__law_cell) {fd__law_same : FuncData} (D__law_same : DefOk P w K mg base 1 "_law_same" s__law_same ["found", "due"] [] p__law_same fd__law_same) {fd__law_take : FuncData} (D__law_take : DefOk P w K mg base 1 "_law_take" s__law_take ["box", "many"] [] p__law_take fd__law_take) {fd_shortest : FuncData} (D_shortest : DefOk P w K mg base 5 "shortest" s_shortest ["stitches"] [] (p_shortest Gt) fd_shortest) : DefOk P w K mg base 8 "law" s_law ["script"] [] (p_law Gt Pt) fd := by
  have b__law_caught : Binds K fd__law_caught ["ask"] [] := F__law_caught.bindsN fun _ _ _ _ _ _ us hl => match us, hl with | [_], _ => rfl
  have b__law_box : Binds K fd__law_box ["cell"] [] := D__law_box.F.bindsN fun _ _ _ _ _ _ us hl => match us, hl with | [_], _ => rfl
  have b__law_cell : Binds K fd__law_cell ["script", "k"] [] := D__law_cell.F.bindsN fun _ _ _ _ _ _ us hl => match us, hl with | [_, _], _ => rfl
  have b__law_same : Binds K fd__law_same ["found", "due"] [] := D__law_same.F.bindsN fun _ _ _ _ _ _ us hl => match us, hl with | [_, _], _ => rfl
  have b__law_take : Binds K fd__law_take ["box", "many"] [] := D__law_take.F.bindsN fun _ _ _ _ _ _ us hl => match us, hl with | [_, _], _ => rfl
  have b_shortest : Binds K fd_shortest ["stitches"] [] := D_shortest.F.bindsN fun _ _ _ _ _ _ us hl => match us, hl with | [_], _ => rfl
  refine ⟨FF, FnG.mkC FF sc_law (fun cdv A outer s H vs Q E ec vl gd hr h => ⟨_, ?_, body_run (by rw [vl]; rfl) h⟩), hm⟩
  have code : cdv = .ref c := ec.symm.trans cdq
  exact (dss_cons (ds_for (ps_for (passes_of rfl) rfl (di_range1 rfl hf_range (daV_cons (de_callB (c_max rfl) rfl hf_max bt_max (daV_cons de_int (daV_cons (de_callB (c_min rfl) rfl hf_min bt_min (daV_cons de_int (daV_cons (de_lenS (pe_callB call_len rfl hf_len bt_len (pa_cons (pv 0) pa_nil))) da_nil))) da_nil))) da_nil)) (dg_name (pg_name (i := 1) sc_law.nd rfl (by first | exact Or.inl rfl | exact Or.inr rfl)))
    (dss_scope (dss_cons (ds_asg (ps_set (i := 2) sc_law.nd rfl (by first | exact Or.inl rfl | exact Or.inr rfl) (de_call D__law_box.G (hr.mono (by decide)) gd rfl D__law_box.m D__law_box.F.kp b__law_box .nil flat_nil rfl (passesW_of (takes_of rfl rfl rfl rfl)) (da_cons (de_call D__law_cell.G (hr.mono (by decide)) gd rfl D__law_cell.m D__law_cell.F.kp b__law_cell .nil flat_nil rfl (passesW_of (takes_of rfl rfl rfl rfl)) (da_cons (de_var (pv 0)) (da_cons (de_var (pv 1)) da_nil))) da_nil))))
    (dss_pin 2
    (dss_cons (ds_par (ps_par (i := 10) (j := 11) rfl sc_law.nd rfl rfl (by decide) rfl rfl (da_cons (de_op o_mul (de_lst (da_cons de_str (da_cons de_str (da_cons de_str da_nil)))) (de_call D__law_take.G (hr.mono (by decide)) gd rfl D__law_take.m D__law_take.F.kp b__law_take .nil flat_nil rfl (passesW_of (takes_of rfl rfl rfl rfl)) (da_cons (de_var (pv 2)) (da_cons de_int da_nil)))) (da_cons (de_call D__law_take.G (hr.mono (by decide)) gd rfl D__law_take.m D__law_take.F.kp b__law_take .nil flat_nil rfl (passesW_of (takes_of rfl rfl rfl rfl)) (da_cons (de_var (pv 2)) (da_cons de_int da_nil))) da_nil)) rfl))
    (dss_cons (ds_asg (ps_set (i := 3) sc_law.nd rfl (by first | exact Or.inl rfl | exact Or.inr rfl) (de_ix (de_lst (da_cons de_non (da_cons de_int (da_cons de_str (da_cons de_str (da_cons (de_cell (de_lst (da_cons de_str da_nil))) (da_cons (de_cell de_dict0) (da_cons de_str (da_cons de_bl (da_cons de_str da_nil)))))))))) (de_call D__law_take.G (hr.mono (by decide)) gd rfl D__law_take.m D__law_take.F.kp b__law_take .nil flat_nil rfl (passesW_of (takes_of rfl rfl rfl rfl)) (da_cons (de_var (pv 2)) (da_cons de_int da_nil))) fun _ _ => rfl)))
    (dss_cons (ds_asg (ps_set (i := 4) sc_law.nd rfl (by first | exact Or.inl rfl | exact Or.inr rfl) (de_op o_add (de_op o_add (de_op o_add (de_sl (de_var (pv 10)) do_none (do_some (de_var (pv 11)))) (de_lst (da_cons (de_var (pv 3)) da_nil))) (de_sl (de_var (pv 10)) (do_some (de_var (pv 11))) do_none)) (de_lst (da_cons de_non da_nil)))))
    (dss_frz 4 (dss_cons (ds_asg (ps_set (i := 5) sc_law.nd rfl (by first | exact Or.inl rfl | exact Or.inr rfl) (de_op o_add (de_op o_mul (de_lst (da_cons de_str (da_cons de_str da_nil))) de_int) (de_op o_mul (de_lst (da_cons de_str da_nil)) (de_call D__law_take.G (hr.mono (by decide)) gd rfl D__law_take.m D__law_take.F.kp b__law_take .nil flat_nil rfl (passesW_of (takes_of rfl rfl rfl rfl)) (da_cons (de_var (pv 2)) (da_cons de_int da_nil)))))))
    (dss_pin 5
    (dss_cons (ds_asg (ps_set (i := 6) sc_law.nd rfl (by first | exact Or.inl rfl | exact Or.inr rfl) (de_op o_mul (de_lst (da_cons de_str da_nil)) de_int)))
    (dss_pin 6
    (dss_cons (ds_asg (ps_set (i := 7) sc_law.nd rfl (by first | exact Or.inl rfl | exact Or.inr rfl) (de_ix (de_lst (da_cons de_non (da_cons de_int (da_cons de_str (da_cons (de_cell de_dict0) (da_cons de_bl (da_cons de_str da_nil))))))) (de_call D__law_take.G (hr.mono (by decide)) gd rfl D__law_take.m D__law_take.F.kp b__law_take .nil flat_nil rfl (passesW_of (takes_of rfl rfl rfl rfl)) (da_cons (de_var (pv 2)) (da_cons de_int da_nil))) fun _ _ => rfl)))
    (dss_cons (ds_asg (ps_set (i := 8) sc_law.nd rfl (by first | exact Or.inl rfl | exact Or.inr rfl) (de_lst (da_cons (de_tup (da_cons (de_var (pv 4)) (da_cons (de_lst (da_cons de_str (da_cons (de_var (pv 3)) da_nil))) da_nil))) (da_cons (de_tup (da_cons (de_var (pv 5)) (da_cons (de_if (dt_cmp (o_eq hr.units) (de_callB c_len rfl hf_len bt_len (daV_cons (de_var (pv 5)) da_nil)) de_int (nomark _)) (de_lst (da_cons de_str da_nil)) (de_lst (da_cons de_str (da_cons (de_var (pv 5)) da_nil)))) da_nil))) da_nil)))))
    (dss_frz 8 (dss_cons (ds_asg (ps_set (i := 8) sc_law.nd rfl (by first | exact Or.inl rfl | exact Or.inr rfl) (de_op o_add (de_var (pv 8)) (de_lst (da_cons (de_tup (da_cons (de_var (pv 6)) (da_cons (de_lst (da_cons de_str (da_cons (de_var (pv 6)) da_nil))) da_nil))) (da_cons (de_tup (da_cons (de_var (pv 7)) (da_cons (de_lst (da_cons de_str (da_cons (de_var (pv 7)) da_nil))) da_nil))) (da_cons (de_tup (da_cons (de_op o_mul (de_lst (da_cons de_str da_nil)) de_int) (da_cons (de_lst (da_cons de_str da_nil)) da_nil))) da_nil)))))))
    (dss_frz 8 (dss_cons (ds_for (ps_for (passes_of rfl) rfl (di_iter (de_var (pv 8))) (dg_tup (pg_tup rfl (pgs_cons (pg_name (i := 12) sc_law.nd rfl (by first | exact Or.inl rfl | exact Or.inr rfl)) (pgs_cons (pg_name (i := 13) sc_law.nd rfl (by first | exact Or.inl rfl | exact Or.inr rfl)) pgs_nil))))
    (dss_one (ds_if (ps_if (dt_not (dt_tru (de_call D__law_same.G (hr.mono (by decide)) gd rfl D__law_same.m D__law_same.F.kp b__law_same .nil flat_nil rfl (passesW_of (takes_of rfl rfl rfl rfl)) (da_cons (de_caught (k := 5) (P := Pt) (c := c) (Po := ⟨⟨74, 4, 74, 9⟩, ⟨74, 13, 74, 20⟩, ⟨74, 12, 74, 21⟩, ⟨74, 4, 74, 21⟩, ⟨76, 8, 76, 13⟩, ⟨76, 17, 76, 23⟩, ⟨76, 25, 76, 28⟩, ⟨76, 29, 76, 30⟩, ⟨76, 25, 76, 31⟩, ⟨76, 16, 76, 32⟩, ⟨76, 34, 76, 35⟩, ⟨76, 33, 76, 35⟩, ⟨76, 16, 76, 36⟩, ⟨76, 8, 76, 36⟩, ⟨75, 4, 82, 25⟩, ⟨83, 11, 83, 16⟩, ⟨83, 4, 83, 16⟩⟩) rfl g__law_caught F__law_caught b__law_caught sc__law_caught (.inl rfl) rfl (by decide) (by decide) (by decide) (by decide) (fun _ _ _ => (HdOk.list (i := 1) (j := 2) (n := "e") (k := 1) rfl (by decide) ⟨rfl, by decide, .inl g_NoStitch⟩ (errB_xf Z_NoStitch) rfl rfl rfl rfl (by decide) (by decide) (by decide) (.s (.f E_NoStitch.nof (fun _ => rfl) .nil)) (HdOk.list (i := 1) (j := 2) (n := "e") (k := 2) rfl (by decide) ⟨rfl, by decide, .inl g_NoStitches⟩ (errB_xf Z_NoStitches) rfl rfl rfl rfl (by decide) (by decide) (by decide) (.s (.f E_NoStitches.nof (fun _ => rfl) .nil)) (HdOk.bare (k := 0) rfl ⟨rfl, by decide, .inl g_KnitError⟩ (fun a oe pn => dss_one (ds_asg (ps_set (i := 1) sc__law_caught.nd rfl (.inl rfl) (de_lst (da_cons de_str da_nil))))) HdOk.nil)))) (fun _ hc p hp => exmB_ok X_caught hc (List.mem_map_of_mem (f := fun z : Cla => z.1) hp)) TB code hr (lamY_by (sc := defScope s_law) (y := "a") (by decide +kernel)) (show ("a" : Str) ∉ N_law by decide +kernel) rfl (fun _ _ _ _ _ _ => rfl) (fun _ _ _ _ _ _ _ gd1 hr => by have gd := gd1.trans gd; exact (de_call D_shortest.G (hr.mono (by decide)) gd rfl D_shortest.m D_shortest.F.kp b_shortest .nil flat_nil rfl (passesW_of (takes_of rfl rfl rfl rfl)) (da_cons (de_var (pv 12)) da_nil)))) (da_cons (de_var (pv 13)) da_nil)))))
    (dss_one (ds_ret (ps_ret de_bl)))
    dss_nil)))))
    (dss_cons (ds_asg (ps_set (i := 9) sc_law.nd rfl (by first | exact Or.inl rfl | exact Or.inr rfl) (de_op o_add (de_op o_mul (de_lst (da_cons de_str da_nil)) de_int) (de_lst (da_cons (de_var (pv 3)) da_nil)))))
    (dss_frz 9 (dss_one (ds_if (ps_if (dt_not (dt_tru (de_call D__law_same.G (hr.mono (by decide)) gd rfl D__law_same.m D__law_same.F.kp b__law_same .nil flat_nil rfl (passesW_of (takes_of rfl rfl rfl rfl)) (da_cons (de_caught (k := 5) (P := Pt) (c := c) (Po := ⟨⟨74, 4, 74, 9⟩, ⟨74, 13, 74, 20⟩, ⟨74, 12, 74, 21⟩, ⟨74, 4, 74, 21⟩, ⟨76, 8, 76, 13⟩, ⟨76, 17, 76, 23⟩, ⟨76, 25, 76, 28⟩, ⟨76, 29, 76, 30⟩, ⟨76, 25, 76, 31⟩, ⟨76, 16, 76, 32⟩, ⟨76, 34, 76, 35⟩, ⟨76, 33, 76, 35⟩, ⟨76, 16, 76, 36⟩, ⟨76, 8, 76, 36⟩, ⟨75, 4, 82, 25⟩, ⟨83, 11, 83, 16⟩, ⟨83, 4, 83, 16⟩⟩) rfl g__law_caught F__law_caught b__law_caught sc__law_caught (.inl rfl) rfl (by decide) (by decide) (by decide) (by decide) (fun _ _ _ => (HdOk.list (i := 1) (j := 2) (n := "e") (k := 1) rfl (by decide) ⟨rfl, by decide, .inl g_NoStitch⟩ (errB_xf Z_NoStitch) rfl rfl rfl rfl (by decide) (by decide) (by decide) (.s (.f E_NoStitch.nof (fun _ => rfl) .nil)) (HdOk.list (i := 1) (j := 2) (n := "e") (k := 2) rfl (by decide) ⟨rfl, by decide, .inl g_NoStitches⟩ (errB_xf Z_NoStitches) rfl rfl rfl rfl (by decide) (by decide) (by decide) (.s (.f E_NoStitches.nof (fun _ => rfl) .nil)) (HdOk.bare (k := 0) rfl ⟨rfl, by decide, .inl g_KnitError⟩ (fun a oe pn => dss_one (ds_asg (ps_set (i := 1) sc__law_caught.nd rfl (.inl rfl) (de_lst (da_cons de_str da_nil))))) HdOk.nil)))) (fun _ hc p hp => exmB_ok X_caught hc (List.mem_map_of_mem (f := fun z : Cla => z.1) hp)) TB code hr (lamY_by (sc := defScope s_law) (y := "b") (by decide +kernel)) (show ("b" : Str) ∉ N_law by decide +kernel) rfl (fun _ _ _ _ _ _ => rfl) (fun _ _ _ _ _ _ _ gd1 hr => by have gd := gd1.trans gd; exact (de_call D_shortest.G (hr.mono (by decide)) gd rfl D_shortest.m D_shortest.F.kp b_shortest .nil flat_nil rfl (passesW_of (takes_of rfl rfl rfl rfl)) (da_cons (de_var (pv 9)) da_nil)))) (da_cons (de_lst (da_cons de_str (da_cons (de_var (pv 3)) da_nil))) da_nil)))))
    (dss_one (ds_ret (ps_ret de_bl)))
    dss_nil))))))))))))))))))))))))
    (dss_one (ds_ret (ps_ret de_bl))))
end
def clsBody : Stmt → List Stmt
  | .ClassDef _ _ _ b _ _ _ _ _ _ _ => b
  | _ => []
abbrev s_NoStitch : Stmt := (clsBody (top 2)).getD 0 (.Pass ⟨0, 0, 0, 0⟩)
theorem sc_NoStitch : FnScope ["self", "value"] ["self", "value"] (defScope s_NoStitch) := ⟨rfl, rfl, rfl, by decide +kernel, rfl, by decide +kernel, by decide +kernel⟩
def d_NoStitch : He.DefD := ⟨("NoStitch", some "__init__"), "__init__", "NoStitch.__init__", defArgs s_NoStitch, defBody s_NoStitch, defScope s_NoStitch, [], []⟩
abbrev s_NoStitches : Stmt := (clsBody (top 3)).getD 0 (.Pass ⟨0, 0, 0, 0⟩)
theorem sc_NoStitches : FnScope ["self", "value"] ["self", "value"] (defScope s_NoStitches) := ⟨rfl, rfl, rfl, by decide +kernel, rfl, by decide +kernel, by decide +kernel⟩
def d_NoStitches : He.DefD := ⟨("NoStitches", some "__init__"), "__init__", "NoStitches.__init__", defArgs s_NoStitches, defBody s_NoStitches, defScope s_NoStitches, [], []⟩
def d__law_box : He.DefD := ⟨("_law_box", none), "_law_box", "_law_box", defArgs s__law_box, defBody s__law_box, defScope s__law_box, [], []⟩
def d__law_cell : He.DefD := ⟨("_law_cell", none), "_law_cell", "_law_cell", defArgs s__law_cell, defBody s__law_cell, defScope s__law_cell, [], []⟩
def d__law_take : He.DefD := ⟨("_law_take", none), "_law_take", "_law_take", defArgs s__law_take, defBody s__law_take, defScope s__law_take, [], []⟩
def d__law_same : He.DefD := ⟨("_law_same", none), "_law_same", "_law_same", defArgs s__law_same, defBody s__law_same, defScope s__law_same, [], []⟩
def d_is_stitch : He.DefD := ⟨("is_stitch", none), "is_stitch", "is_stitch", defArgs s_is_stitch, defBody s_is_stitch, defScope s_is_stitch, [], []⟩
def d_need_stitch : He.DefD := ⟨("need_stitch", none), "need_stitch", "need_stitch", defArgs s_need_stitch, defBody s_need_stitch, defScope s_need_stitch, [], []⟩
def d_need_stitches : He.DefD := ⟨("need_stitches", none), "need_stitches", "need_stitches", defArgs s_need_stitches, defBody s_need_stitches, defScope s_need_stitches, [], []⟩
def d_is_repeated : He.DefD := ⟨("is_repeated", none), "is_repeated", "is_repeated", defArgs s_is_repeated, defBody s_is_repeated, defScope s_is_repeated, [], []⟩
def d_shorter : He.DefD := ⟨("shorter", none), "shorter", "shorter", defArgs s_shorter, defBody s_shorter, defScope s_shorter, [], []⟩
def d_written : He.DefD := ⟨("written", none), "written", "written", defArgs s_written, defBody s_written, defScope s_written, [], []⟩
def d_shortest : He.DefD := ⟨("shortest", none), "shortest", "shortest", defArgs s_shortest, defBody s_shortest, defScope s_shortest, [], []⟩
def d_law : He.DefD := ⟨("law", none), "law", "law", defArgs s_law, defBody s_law, defScope s_law, [], []⟩
def d__law_caught : He.DefD := ⟨("_law_caught", none), "_law_caught", "_law_caught", defArgs s__law_caught, defBody s__law_caught, defScope s__law_caught, [], []⟩
def fn : List He.DefD := [d__law_box, d__law_cell, d__law_take, d__law_same, d_is_stitch, d_need_stitch, d_need_stitches, d_is_repeated, d_shorter, d_written, d_shortest, d_law, d__law_caught, d_NoStitch, d_NoStitches]
def fa : List He.Fa := [.glo "_law_box", .glo "_law_cell", .glo "_law_take", .glo "_law_same", .glo "is_stitch", .glo "need_stitch", .glo "need_stitches", .glo "is_repeated", .glo "shorter", .glo "written", .glo "shortest", .glo "law", .glo "_law_caught", .glo "KnitError", .glo "NoStitch", .glo "NoStitches", .glo "STITCHES", .free "all", .free "bool", .free "dict", .free "isinstance", .free "len", .free "list", .free "max", .free "min", .free "range", .free "repr", .free "str", .free "tuple", .int "MOST_STITCHES" 1200, .int "MOST_WRITTEN" 24]
def ts : List He.Tab := [(fun K => He.ga K "STITCHES", rows_STITCHES.map (·.1))]
def tf : List He.Defn := [("is_repeated", none), ("law", none)]
def ex (K : PySem.W.Frag) : Bool := exmB K [1, 2] [1, 2, 0] && (errB K 1 "value" && (errB K 2 "value" && (kniB K (He.ga K "KnitError") && (tabB K (He.ga K "STITCHES") rows_STITCHES && (decide ((He.cT K ("is_repeated", none)).2 ≠ (He.cT K ("law", none)).2))))))
abbrev R : PySem.W.OpenRow := PySem.W.OpenLaw.row PySem.Challenge.rw_knitrows_k42_writing_refused
abbrev hk : PySem.W.Hook := hookY 5 fa fn ts tf ex
def ob (s : PySem.W.SharedT) : He.AlX := obsY 5 fa fn ts tf ex (HandSHeadRun.getT s)
theorem ob_eq (s : PySem.W.SharedT) : ob s = hk.obs s.abs := obsY_eq (HandSHeadRun.getT_eq s)
def loose : List Str := ["KnitError", "NoStitch", "NoStitches", "STITCHES", "MOST_STITCHES", "is_stitch", "need_stitch", "need_stitches", "MOST_WRITTEN", "is_repeated", "shorter", "written", "shortest", "_law_cell", "_law_box", "_law_take", "_law_caught", "_law_same"]
theorem run (w : World) : HandSHeadRun.RunEq R (PySem.W.view R.prog [22]) hk ob 100000 loose w :=
  PySem.W.byRow2 "special-get-raises" (P := fun w => HandSHeadRun.RunEq R (PySem.W.view R.prog [22]) hk ob 100000 loose w) (fun w os => by kernel_rfl) (fun w os => by kernel_rfl) w
theorem facts {P : Program} {w : World} {K : PySem.W.Frag} {h : Heap} {mg : Str → Option Value} {f : Addr} (X : K.In h) (G : h.Ns mainGlobals mg) (hfa : mg ("law" : Str) = some (.ref f)) (sx : He.SaysX fa fn ts tf ex w h K) :
    ((He.cT K ("is_repeated", none)).2 ≠ (He.cT K ("law", none)).2) ∧ ∃ fd : FuncData, (∀ (s : Shared) (v : Value), BindsTo s fd ⟨[v], []⟩ [("script", v)]) ∧ ∀ base : Heap, K.In base → base.Ns mainGlobals mg → LamX.TabB base mg (He.cT K ("is_repeated", none)).1 (He.cT K ("is_repeated", none)).2 → LamX.TabB base mg (He.cT K ("law", none)).1 (He.cT K ("law", none)).2 → FnG P w K mg base 8 f fd ["script"] (spF K (p_law (He.cT K ("is_repeated", none)).2 (He.cT K ("law", none)).2)) := by
  have c := sx.t.d
  obtain ⟨fd__law_box, F__law_box⟩ := c.def_ 0 (d := d__law_box) rfl
  obtain ⟨fd__law_cell, F__law_cell⟩ := c.def_ 1 (d := d__law_cell) rfl
  obtain ⟨fd__law_take, F__law_take⟩ := c.def_ 2 (d := d__law_take) rfl
  obtain ⟨fd__law_same, F__law_same⟩ := c.def_ 3 (d := d__law_same) rfl
  obtain ⟨fd_is_stitch, F_is_stitch⟩ := c.def_ 4 (d := d_is_stitch) rfl
  obtain ⟨fd_need_stitch, F_need_stitch⟩ := c.def_ 5 (d := d_need_stitch) rfl
  obtain ⟨fd_need_stitches, F_need_stitches⟩ := c.def_ 6 (d := d_need_stitches) rfl
  obtain ⟨fd_is_repeated, F_is_repeated⟩ := c.def_ 7 (d := d_is_repeated) rfl
  obtain ⟨fd_shorter, F_shorter⟩ := c.def_ 8 (d := d_shorter) rfl
  obtain ⟨fd_written, F_written⟩ := c.def_ 9 (d := d_written) rfl
  obtain ⟨fd_shortest, F_shortest⟩ := c.def_ 10 (d := d_shortest) rfl
  obtain ⟨fd_law, F_law⟩ := c.def_ 11 (d := d_law) rfl
  obtain ⟨fd__law_caught, F__law_caught⟩ := c.def_ 12 (d := d__law_caught) rfl
  obtain ⟨fd_NoStitch, F_NoStitch⟩ := c.def_ 13 (d := d_NoStitch) rfl
  obtain ⟨fd_NoStitches, F_NoStitches⟩ := c.def_ 14 (d := d_NoStitches) rfl
  have g__law_box : mg "_law_box" = some (.ref (He.ga K "_law_box")) := He.glo_ok X G (c.fact 0 (f := .glo "_law_box") rfl)
  have g__law_cell : mg "_law_cell" = some (.ref (He.ga K "_law_cell")) := He.glo_ok X G (c.fact 1 (f := .glo "_law_cell") rfl)
  have g__law_take : mg "_law_take" = some (.ref (He.ga K "_law_take")) := He.glo_ok X G (c.fact 2 (f := .glo "_law_take") rfl)
  have g__law_same : mg "_law_same" = some (.ref (He.ga K "_law_same")) := He.glo_ok X G (c.fact 3 (f := .glo "_law_same") rfl)
  have g_is_stitch : mg "is_stitch" = some (.ref (He.ga K "is_stitch")) := He.glo_ok X G (c.fact 4 (f := .glo "is_stitch") rfl)
  have g_need_stitch : mg "need_stitch" = some (.ref (He.ga K "need_stitch")) := He.glo_ok X G (c.fact 5 (f := .glo "need_stitch") rfl)
  have g_need_stitches : mg "need_stitches" = some (.ref (He.ga K "need_stitches")) := He.glo_ok X G (c.fact 6 (f := .glo "need_stitches") rfl)
  have g_is_repeated : mg "is_repeated" = some (.ref (He.ga K "is_repeated")) := He.glo_ok X G (c.fact 7 (f := .glo "is_repeated") rfl)
  have g_shorter : mg "shorter" = some (.ref (He.ga K "shorter")) := He.glo_ok X G (c.fact 8 (f := .glo "shorter") rfl)
  have g_written : mg "written" = some (.ref (He.ga K "written")) := He.glo_ok X G (c.fact 9 (f := .glo "written") rfl)
  have g_shortest : mg "shortest" = some (.ref (He.ga K "shortest")) := He.glo_ok X G (c.fact 10 (f := .glo "shortest") rfl)
  have g_law : mg "law" = some (.ref (He.ga K "law")) := He.glo_ok X G (c.fact 11 (f := .glo "law") rfl)
  have g__law_caught : mg "_law_caught" = some (.ref (He.ga K "_law_caught")) := He.glo_ok X G (c.fact 12 (f := .glo "_law_caught") rfl)
  have g_KnitError : mg "KnitError" = some (.ref (He.ga K "KnitError")) := He.glo_ok X G (c.fact 13 (f := .glo "KnitError") rfl)
  have g_NoStitch : mg "NoStitch" = some (.ref (He.ga K "NoStitch")) := He.glo_ok X G (c.fact 14 (f := .glo "NoStitch") rfl)
  have g_NoStitches : mg "NoStitches" = some (.ref (He.ga K "NoStitches")) := He.glo_ok X G (c.fact 15 (f := .glo "NoStitches") rfl)
  have g_STITCHES : mg "STITCHES" = some (.ref (He.ga K "STITCHES")) := He.glo_ok X G (c.fact 16 (f := .glo "STITCHES") rfl)
  have hf_all : mg "all" = none := He.free_ok X G (c.fact 17 (f := .free "all") rfl)
  have hf_bool : mg "bool" = none := He.free_ok X G (c.fact 18 (f := .free "bool") rfl)
  have hf_dict : mg "dict" = none := He.free_ok X G (c.fact 19 (f := .free "dict") rfl)
  have hf_isinstance : mg "isinstance" = none := He.free_ok X G (c.fact 20 (f := .free "isinstance") rfl)
  have hf_len : mg "len" = none := He.free_ok X G (c.fact 21 (f := .free "len") rfl)
  have hf_list : mg "list" = none := He.free_ok X G (c.fact 22 (f := .free "list") rfl)
  have hf_max : mg "max" = none := He.free_ok X G (c.fact 23 (f := .free "max") rfl)
  have hf_min : mg "min" = none := He.free_ok X G (c.fact 24 (f := .free "min") rfl)
  have hf_range : mg "range" = none := He.free_ok X G (c.fact 25 (f := .free "range") rfl)
  have hf_repr : mg "repr" = none := He.free_ok X G (c.fact 26 (f := .free "repr") rfl)
  have hf_str : mg "str" = none := He.free_ok X G (c.fact 27 (f := .free "str") rfl)
  have hf_tuple : mg "tuple" = none := He.free_ok X G (c.fact 28 (f := .free "tuple") rfl)
  have ht_MOST_STITCHES : ∃ t, mg "MOST_STITCHES" = some (.int 1200 t) := He.int_ok X G (c.fact 29 (f := .int "MOST_STITCHES" 1200) rfl)
  have ht_MOST_WRITTEN : ∃ t, mg "MOST_WRITTEN" = some (.int 24 t) := He.int_ok X G (c.fact 30 (f := .int "MOST_WRITTEN" 24) rfl)
  have m0 := sx.more
  unfold ex at m0
  obtain ⟨X_caught, m1⟩ := Bool.and_eq_true_iff.mp m0
  obtain ⟨Z_NoStitch, m2⟩ := Bool.and_eq_true_iff.mp m1
  obtain ⟨Z_NoStitches, m3⟩ := Bool.and_eq_true_iff.mp m2
  obtain ⟨kn0, m4⟩ := Bool.and_eq_true_iff.mp m3
  obtain ⟨R_STITCHES, m5⟩ := Bool.and_eq_true_iff.mp m4
  have NE_is_repeated := m5
  have kn := kniB_ok kn0
  have T_STITCHES : TabF K w mg "STITCHES" rows_STITCHES := tabF_of g_STITCHES (sx.t.tab 0 (t := (fun K => He.ga K "STITCHES", rows_STITCHES.map (·.1))) rfl) (by have e := congrArg (fun z : He.AlT => z.2) sx.t; exact (List.cons.inj e).1) R_STITCHES
  have e := hfa.symm.trans g_law
  cases e
  have b := FunD.bindsA (ps := ["script"]) F_law fun _ _ _ _ _ _ us hl => match us, hl with | [_], _ => rfl
  refine ⟨of_decide_eq_true NE_is_repeated, fd_law, fun s v => b s [v] rfl, fun base _ _ TG_is_repeated TB => ?_⟩
  have E_NoStitch : Err1 P w K mg base 1 "value" := errB_ok Z_NoStitch g_NoStitch ⟨fd_NoStitch, ["self", "value"], init1 F_NoStitch sc_NoStitch kn g_KnitError rfl (fun _ => rfl) (.inl rfl) (.inl rfl), F_NoStitch.bindsN fun _ _ _ _ _ _ us hl => match us, hl with | [_, _], _ => rfl⟩
  have E_NoStitches : Err1 P w K mg base 2 "value" := errB_ok Z_NoStitches g_NoStitches ⟨fd_NoStitches, ["self", "value"], init1 F_NoStitches sc_NoStitches kn g_KnitError rfl (fun _ => rfl) (.inl rfl) (.inl rfl), F_NoStitches.bindsN fun _ _ _ _ _ _ us hl => match us, hl with | [_, _], _ => rfl⟩
  have D__law_box := ok__law_box (P := P) (w := w) (base := base) F__law_box g__law_box hf_max
  have D__law_cell := ok__law_cell (P := P) (w := w) (base := base) F__law_cell g__law_cell hf_len
  have D__law_take := ok__law_take (P := P) (w := w) (base := base) F__law_take g__law_take 
  have D__law_same := ok__law_same (P := P) (w := w) (base := base) F__law_same g__law_same hf_bool hf_dict hf_isinstance hf_len hf_list hf_repr
  have D_is_stitch := ok_is_stitch (P := P) (w := w) (base := base) F_is_stitch g_is_stitch hf_isinstance hf_str T_STITCHES
  have D_need_stitch := ok_need_stitch (P := P) (w := w) (base := base) F_need_stitch g_need_stitch E_NoStitch D_is_stitch
  have D_need_stitches := ok_need_stitches (P := P) (w := w) (base := base) F_need_stitches g_need_stitches hf_isinstance hf_len hf_list hf_tuple ht_MOST_STITCHES E_NoStitches D_need_stitch
  have D_is_repeated := ok_is_repeated (P := P) (w := w) (base := base) F_is_repeated g_is_repeated hf_all hf_len hf_range TG_is_repeated (code_of (p := ("is_repeated", none)) F_is_repeated)
  have D_shorter := ok_shorter (P := P) (w := w) (base := base) F_shorter g_shorter hf_len
  have D_written := ok_written (P := P) (w := w) (base := base) F_written g_written hf_range D_is_repeated D_shorter
  have D_shortest := ok_shortest (P := P) (w := w) (base := base) F_shortest g_shortest hf_len hf_list hf_range ht_MOST_WRITTEN E_NoStitches D_need_stitches D_written
  have D_law := ok_law (P := P) (w := w) (base := base) F_law g_law hf_len hf_max hf_min hf_range E_NoStitch E_NoStitches F__law_caught g__law_caught TB (code_of (p := ("law", none)) F_law) X_caught g_KnitError g_NoStitch g_NoStitches Z_NoStitch Z_NoStitches D__law_box D__law_cell D__law_same D__law_take D_shortest
  exact D_law.G
end SL.L42
open PySem PySem.W PySem.Calls PyProof.Rows
/-- the law, from what its mirror tells -/
theorem SL.L42.holds (told : ∀ (Pg : Addr) (Pt : Addr) (ns : List Int), ns.length ≤ 63 → ∃ cs, SL.L42.p_law Pg Pt [.scr ns] [.tab Pg "", .tab Pt ((("law" : PySem.Str) ++ ".<locals>.") ++ "<lambda>")] = .ok (.dat (.bl true), cs)) : PySem.Challenge.rw_knitrows_k42_writing_refused.Holds := by
  w_on; o_law
  refine HandSHeadRun.head_any (r := OpenLaw.row PySem.Challenge.rw_knitrows_k42_writing_refused) (q := view (OpenLaw.row PySem.Challenge.rw_knitrows_k42_writing_refused).prog [22]) (H := SL.L42.hk) (ob := SL.L42.ob) (M := 100000) (loose := SL.L42.loose) (d := HandSHeadRun.topDef (OpenLaw.row PySem.Challenge.rw_knitrows_k42_writing_refused).prog 22) (kwd := []) SL.L42.ob_eq
    (by kernel_rfl) (fun s => by kernel_rfl) SL.L42.run (by kernel_rfl) (by kernel_rfl) (by kernel_rfl) (by rfl) (by first | assumption | decide +kernel) (by decide +kernel) ⟨rfl, rfl, rfl, rfl, rfl, by decide +kernel⟩ ?hw ?hc
  case hw => w_witness2
  case hc =>
    refine SL.walk_T (l := PySem.Challenge.rw_knitrows_k42_writing_refused) (n := 63) (k := 8) (x := "script") rfl (by decide) (by kernel_rfl) ⟨rfl, by decide, by decide⟩ ?F
    intro w mg fa h Y G hmg0
    obtain ⟨K, KX, c⟩ := Y
    have hmg : mg ("law" : PySem.Str) = some (.ref fa) := by
      have e : (HandSHeadRun.topDef (OpenLaw.row PySem.Challenge.rw_knitrows_k42_writing_refused).prog 22).name = ("law" : PySem.Str) := by kernel_rfl
      rw [← e]
      exact hmg0
    obtain ⟨ne, fd, hb, hF⟩ := SL.L42.facts (P := (PySem.Challenge.rw_knitrows_k42_writing_refused).prog) (w := w) KX G hmg c
    refine ⟨K, fd, SL.L42.p_law (He.cT K ("is_repeated", none)).2 (He.cT K ("law", none)).2, [((He.cT K ("is_repeated", none)).1, (He.cT K ("is_repeated", none)).2, ""), ((He.cT K ("law", none)).1, (He.cT K ("law", none)).2, ((("law" : PySem.Str) ++ ".<locals>.") ++ "<lambda>"))], KX, ?_, ?_, ?_, by simpa using ne, hb, fun ns hn => told _ _ ns hn, fun base kb nb tb => hF base kb nb (tb _ List.mem_cons_self) (tb _ (List.mem_cons_of_mem _ List.mem_cons_self))⟩
    · intro p hp
      rcases List.mem_cons.mp hp with rfl | hp
      · exact c.empty _ List.mem_cons_self
      · obtain rfl := List.mem_singleton.mp hp
        exact c.empty _ (List.mem_cons_of_mem _ List.mem_cons_self)
    · intro p hp
      rcases List.mem_cons.mp hp with rfl | hp
      · exact c.out _ List.mem_cons_self
      · obtain rfl := List.mem_singleton.mp hp
        exact c.out _ (List.mem_cons_of_mem _ List.mem_cons_self)
    · intro p hp
      rcases List.mem_cons.mp hp with rfl | hp
      · exact codeHd_of_K KX (c.hd _ List.mem_cons_self)
      · obtain rfl := List.mem_singleton.mp hp
        exact codeHd_of_K KX (c.hd _ (List.mem_cons_of_mem _ List.mem_cons_self))

local macro_rules | `(tactic| walk_at "dl") => `(tactic| simp only [
  SL.s_then_ok, SL.s_then_exc, SL.s_then_bad, SL.s_toF_ok, SL.s_toF_exc, SL.s_toF_bad, SL.s_var, SL.s_var_dat, SL.s_var_own, SL.s_var_scr, SL.s_con, SL.s_view_new, SL.s_view_own,
  SL.s_view_dat, SL.s_vwD_ref, SL.s_vw_lst, SL.s_vw_dct, SL.s_nt_lst, SL.s_nt_dct, SL.s_vwD_non, SL.s_vwD_bl, SL.s_vwD_int, SL.s_vwD_str, SL.s_vwD_lst, SL.s_vwD_tup, SL.s_vwD_dct,
  SL.s_vwD_obj, SL.s_vw_obj, SL.s_nt_obj, SL.s_D_lst, SL.s_D_dct, SL.s_D_obj, SL.s_optE_some, SL.s_optE_none, SL.s_vw2, SL.s_op, SL.s_op1, SL.s_op2, SL.s_vw1, SL.s_un, SL.s_un1,
  SL.s_toT, SL.s_toT1, SL.s_trO, SL.s_toTru, SL.s_toTru1, SL.s_and, SL.s_and_t, SL.s_and_f, SL.s_or, SL.s_or_t, SL.s_or_f, SL.s_not, SL.s_not1, SL.s_tand, SL.s_tand_t, SL.s_tand_f,
  SL.s_tor, SL.s_tor_t, SL.s_tor_f, SL.s_tnot, SL.s_tnot1, SL.s_if, SL.s_if_t, SL.s_if_f, SL.s_ch, SL.s_ch1, SL.s_ch2, SL.s_chA, SL.s_chB_t, SL.s_chB_f, SL.s_frz, SL.s_frz_dat,
  SL.s_cell, SL.s_cell_dat, SL.s_cell_new, SL.s_frz_scr, SL.s_frz_new, SL.s_nil, SL.s_cons, SL.s_consV, SL.s_cons1, SL.s_cons2, SL.s_datAll_nil, SL.s_datAll_cons, SL.s_tup, SL.s_lst,
  SL.s_tup1, SL.s_lst1, SL.s_tupO, SL.s_lstO, SL.s_cb, SL.s_cb1, SL.s_cbO, SL.s_va_nil, SL.s_va_cons, SL.s_consO, SL.s_call, SL.s_call1, SL.s_callK, SL.s_callK1, SL.s_callK2,
  SL.s_isi, SL.s_isi1, SL.s_isi_int_non, SL.s_isi_int_bl, SL.s_isi_int_int, SL.s_isi_int_str, SL.s_isi_int_lst, SL.s_isi_int_tup, SL.s_isi_int_dct, SL.s_isi_bool_non,
  SL.s_isi_bool_bl, SL.s_isi_bool_int, SL.s_isi_bool_str, SL.s_isi_bool_lst, SL.s_isi_bool_tup, SL.s_isi_bool_dct, SL.s_isi_str_non, SL.s_isi_str_bl, SL.s_isi_str_int,
  SL.s_isi_str_str, SL.s_isi_str_lst, SL.s_isi_str_tup, SL.s_isi_str_dct, SL.s_isi_list_non, SL.s_isi_list_bl, SL.s_isi_list_int, SL.s_isi_list_str, SL.s_isi_list_lst,
  SL.s_isi_list_tup, SL.s_isi_list_dct, SL.s_isi_tuple_non, SL.s_isi_tuple_bl, SL.s_isi_tuple_int, SL.s_isi_tuple_str, SL.s_isi_tuple_lst, SL.s_isi_tuple_tup, SL.s_isi_tuple_dct,
  SL.s_isi_dict_non, SL.s_isi_dict_bl, SL.s_isi_dict_int, SL.s_isi_dict_str, SL.s_isi_dict_lst, SL.s_isi_dict_tup, SL.s_isi_dict_dct, SL.s_seq, SL.s_seq_bk, SL.s_seq_ct, SL.s_seq_rt,
  SL.s_seq_exc, SL.s_seq_bad, SL.s_seq_nx, SL.s_nx, SL.s_bk, SL.s_ct, SL.s_badS, SL.s_drop, SL.s_drop1, SL.s_ret, SL.s_ret1, SL.s_retN, SL.s_retV, SL.s_retV_dat, SL.s_retV_own,
  SL.s_retV_scr, SL.s_ifS, SL.s_ifS_t, SL.s_ifS_f, SL.s_setS_dat, SL.s_setS_new, SL.s_setS_scr, SL.s_nxO, SL.s_asg, SL.s_asg1, SL.s_par, SL.s_par1, SL.s_parO, SL.s_fz, SL.s_frzS,
  SL.s_frzS_own, SL.s_frzS_dat, SL.s_frzS_un, SL.s_getO, SL.s_getO_own, SL.s_getO_cell, SL.s_putO, SL.s_putO_own, SL.s_putO_cell, SL.s_app, SL.s_appS, SL.s_app1, SL.s_appO, SL.s_sx,
  SL.s_sx1, SL.s_sxG, SL.s_sx2, SL.s_sxO, SL.s_sxP, SL.s_for, SL.s_for1, SL.s_for2, SL.s_tgN, SL.s_tgT, SL.s_tgAll_nil, SL.s_tgAll_cons, SL.s_tgA1, SL.s_unp, SL.s_unp1, SL.s_while,
  SL.s_items, SL.s_items_l, SL.s_items_t, SL.s_items_s, SL.s_items_r, SL.s_r1, SL.s_r11, SL.s_r2, SL.s_r21, SL.s_r3, SL.s_r31, SL.s_en, SL.s_en1, SL.s_zip, SL.s_zip1, SL.s_lc,
  SL.s_lc1, SL.s_lc2, SL.s_yes, SL.s_lenS, SL.s_lenO, SL.s_ixS, SL.s_ixSP, SL.s_ixS1, SL.s_ixSO, SL.s_pin, SL.s_pinO, SL.s_scope, SL.s_cut_nx, SL.s_cut_rt, SL.s_cutK, SL.s_und_tab,
  SL.s_runB, SL.s_runO, SL.s_run_nx, SL.s_run_dat, SL.s_run_new, SL.s_run_scr, SL.s_run_exc, SL.s_sv_nil, SL.s_sv_cons, SL.s_svC, SL.s_svO_dat, SL.s_svO_scr, SL.s_gSub, SL.s_gLt,
  SL.s_gLe, SL.s_gGt, SL.s_gGe, SL.s_gAdd, SL.s_gMul, SL.s_gFdiv, SL.s_gMod, SL.s_gPow, SL.s_gNeg, SL.s_gAddL, SL.s_gAddS, SL.s_gEq, SL.s_gNe, SL.s_eq_int, SL.s_eq_bl, SL.s_eq_str,
  SL.s_eq_nn, SL.s_eq_ni, SL.s_eq_in, SL.s_eq_ns, SL.s_eq_sn, SL.s_eq_si, SL.s_eq_is, SL.s_gIsN_non, SL.s_gIsN_int, SL.s_gIsN_bl, SL.s_gIsN_str, SL.s_gIsN_lst, SL.s_gIsN_tup,
  SL.s_gIsN_dct, SL.s_gNotN_non, SL.s_gNotN_int, SL.s_gNotN_bl, SL.s_gNotN_str, SL.s_gNotN_lst, SL.s_gNotN_tup, SL.s_gNotN_dct, SL.s_gIx_l, SL.s_gIx_t, SL.s_gIx_s, SL.s_gLen_l,
  SL.s_gLen_t, SL.s_gLen_s, SL.s_gMax, SL.s_gMin, SL.s_gAbs, SL.s_gInt, SL.s_gIntB, SL.s_gList_l, SL.s_gList_t, SL.s_gRepr, SL.s_tr_non, SL.s_tr_bl, SL.s_tr_int, SL.s_tr_lst,
  SL.s_tr_tup, SL.s_tr_str, SL.arr, SL.atI0, SL.atI1, SL.atI2, SL.atI3, SL.atI4, SL.atI5, SL.ixN_4_0, SL.ixN_4_3, SL.mulB_l, SL.mulB_r, List.getElem?_cons_zero,
  List.getElem?_cons_succ, List.set_cons_zero, List.set_cons_succ, List.length_cons, List.length_nil, List.cons_append, List.nil_append, List.append_nil, List.replicate_succ,
  List.replicate_zero, List.length_set, Option.map_some, Option.map_none, Option.bind_some, List.map_cons, List.map_nil, List.isEmpty_cons, List.isEmpty_nil, List.take_succ_cons,
  List.take_zero, List.drop_succ_cons, List.drop_zero, List.drop_nil, List.take_nil, ite_true, ite_false, Bool.true_and, Bool.and_true, Bool.true_or, Bool.or_true, Bool.false_or,
  Bool.or_false, Bool.false_and, Bool.and_false, Bool.not_true, Bool.not_false, Bool.false_eq_true, eq_self, decide_true, decide_false, Nat.lt_add_one, Nat.zero_lt_succ,
  Nat.reduceAdd, Nat.reduceLT, Nat.reduceLeDiff, Int.reduceLT, Int.reduceLE, Int.reducePow, Int.reduceToNat, Int.reduceNeg, Int.reduceAbs, Int.reduceMul, Int.reduceAdd,
  Int.reduceSub, Int.reduceGT, Int.reduceEq, Int.cast_ofNat_Int, and_self, true_and, and_true, SL.x_raise, SL.x_raise1, SL.x_caught, SL.x_caughtO, SL.x_caught_ok, SL.x_caught_exc,
  SL.x_kKn, SL.x_try, SL.x_try_nx, SL.x_try_rt, SL.x_try_exc, SL.x_kKnS, SL.x_cat_nil, SL.x_cat, SL.x_cat_t, SL.x_cat_f, SL.x_noExc_nx, SL.x_noExc_rt, SL.x_hBare, SL.x_hList,
  SL.x_hListO, SL.x_hVal, SL.x_hValO, SL.x_hi_nil, SL.x_hi_cons, SL.x_hiO, SL.x_hi_s, SL.x_hi_f, SL.x_hi_i, SL.x_lk_h, SL.x_retC, SL.x_isi2, SL.x_isi21, SL.x_isi_lt_non,
  SL.x_isi_lt_bl, SL.x_isi_lt_int, SL.x_isi_lt_str, SL.x_isi_lt_lst, SL.x_isi_lt_tup, SL.x_isi_lt_dct, SL.x_inT, SL.x_inT1, SL.x_inTO, SL.x_tab, SL.x_tab1, SL.x_tabO, SL.x_tabR,
  SL.x_dget, SL.x_dget1, SL.x_dget2, SL.x_dgO, SL.x_dict0, SL.x_dict1, SL.x_gSum, SL.x_gTuple_l, SL.x_gTuple_t, SL.x_gDict, SL.x_reprD_tup, SL.x_reprD_lst, SL.x_reprD_int,
  SL.x_reprD_str, SL.x_reprD_bl, SL.x_reprD_non, SL.x_gMulL, SL.x_opX, SL.x_opX1, SL.x_opX2, SL.x_deepO, SL.x_optF_non, SL.x_optF_bl, SL.x_optF_int, SL.x_optF_str, SL.x_deep_dat,
  SL.x_deep_newl, SL.x_deep_ownl, SL.x_deep_newd, SL.x_deep_ownd, SL.x_cbX, SL.x_cbX1, SL.x_cbXO, SL.x_deepAll_nil, SL.x_deepAll_cons, SL.x_appE, SL.x_appE1, SL.x_appEO, SL.x_appE3,
  SL.x_appE4, SL.x_lstOf, SL.x_popE, SL.x_popE1, SL.x_popEO, SL.x_setKE, SL.x_setKE0, SL.x_setKE1, SL.x_setKE2, SL.x_putKO, SL.x_dctOf, SL.x_key_s, SL.x_key_i, SL.x_popKE,
  SL.x_popKE1, SL.x_popKE2, SL.x_popKE3, SL.x_popKO, SL.x_sl, SL.x_sl1, SL.x_sl2, SL.x_sl3, SL.x_slO_l, SL.x_slO_s, SL.x_oNone, SL.x_oSome, SL.x_oS1, SL.x_cut_to, SL.x_cut_from,
  SL.x_ext, SL.x_extS, SL.x_ext1, SL.x_extO, SL.x_res8_l, SL.x_res8_t, SL.x_res8_str, SL.x_res8_int, SL.x_res8_bl, SL.x_res8_non, SL.x_res7_str, SL.x_res7_int, SL.x_res7_bl,
  SL.x_res7_non, SL.x_optAll_nil, SL.x_optAll_some, SL.x_idx, SL.x_idx1, SL.x_idxA, SL.x_idx2, SL.x_idxB, SL.x_idxR, SL.x_gMax1, SL.x_gMin1, SL.x_kget, SL.x_kget1, SL.x_kget2,
  SL.x_kgetO, SL.x_gUp, SL.x_gIn_l, SL.x_gIn_t, SL.x_ss, SL.x_ss1, SL.x_ssO, SL.x_all, SL.x_all1, SL.x_allO, SL.x_mulX_i, SL.x_mulX_l, SL.x_mulX_s, SL.x_inX_s, SL.x_inX_l,
  SL.x_inX_t, SL.x_inXO, SL.x_lr1, SL.x_lr11, SL.x_lr2, SL.x_lr21, SL.x_lr22, SL.x_enT, SL.x_enT1, SL.x_setKI, SL.x_setKI1, SL.x_setKI2, SL.x_setKI3, SL.x_putKS, SL.x_cutS_to,
  SL.x_cutS_from, SL.x_neK, SL.x_neKO, SL.x_neK_s, SL.x_neK_l, SL.x_neK_i, SL.x_inD_t, SL.x_inD_s, SL.x_inD_l, SL.x_inI_i, SL.x_inI_s, SL.x_inI_l, SL.x_inIO, SL.x_gShl, SL.x_gShr,
  SL.x_gOdd, SL.x_gJoin, SL.x_joinO, SL.x_dvals, SL.x_dvals1, SL.x_notK, SL.x_notKO, SL.x_notT, SL.x_notT1, SL.x_notTO, SL.x_aug, SL.x_aug1, SL.x_aug2, SL.x_augO, SL.x_fmt_s,
  SL.x_fmt_i, SL.x_fs, SL.x_fs1, SL.x_fs2, SL.x_dictT, SL.x_tget, SL.x_tget1, SL.x_tget2, SL.x_tgO, SL.x_tgP, SL.x_keyT, SL.x_setKT, SL.x_setKT0, SL.x_setKT1, SL.x_setKT2,
  SL.x_putTO, SL.x_tabOf, List.length_append, List.contains_cons, List.contains_nil, Nat.reduceBEq, Nat.reduceEqDiff, Option.bind_none, List.map_append, *])
/-! K42a: what the program's functions tell. -/
namespace SL.L42
open PySem L2 Pk
theorem tk {T U b : CO} {cs : List CO} {n m : Int} (h : Bc b n) (hn : n < 1048576) (hm0 : 0 < m) (hm1 : m < 1073741824) : ∃ d b', p__law_take [.dat (.ref 2), .dat (.int m)] (T :: U :: b :: cs) = .ok (.dat (.int d), T :: U :: b' :: cs) ∧ 0 ≤ d ∧ d < m ∧ Bc b' (n + 1) :=
  take_2 (by decide) h hn hm0 hm1
theorem cl {ns : List Int} {i : Nat} {cs : List CO} : ∃ c, p__law_cell [.scr ns, .dat (.int i)] cs = .ok (.dat (.int c), cs) := cell_ok (by decide)
/-! ### need_stitches -/
theorem ns_one {v y : SV} {o x : D} {cs : List CO} (e : p_need_stitch [.dat o] cs = .ok (.dat .non, cs)) : bd_need_stitches_1 [v, .dat o] cs = .nx [v, .dat o] cs := by
  walk_at "dl"
theorem ns_exc {v y : SV} {o x : D} {cs : List CO} (e : p_need_stitch [.dat o] cs = .exc 1 [("value", o)] cs) : bd_need_stitches_1 [v, .dat o] cs = .exc 1 [("value", o)] [v, .dat o] cs := by
  walk_at "dl"
theorem ns_pass {v : SV} {cs : List CO} : ∀ (zs : List Str) (rest : List D) (y : SV), (∀ z ∈ zs, z ∈ nms) → ∃ y', loopF (tgN 1) bd_need_stitches_1 (zs.map D.str ++ rest) [v, y] cs = loopF (tgN 1) bd_need_stitches_1 rest [v, y'] cs
  | [], rest, y, _ => ⟨y, rfl⟩
  | z :: zs, rest, y, h => by
    have e := need_stitch_ok (d := .str z) (x := .str z) (cs := cs) rfl rfl (decide_eq_true (h z List.mem_cons_self))
    obtain ⟨y', e2⟩ := ns_pass (v := v) (cs := cs) zs rest (.dat (.str z)) fun a ha => h a (List.mem_cons_of_mem _ ha)
    refine ⟨y', ?_⟩
    rw [List.map_cons, List.cons_append]
    exact (loopF_nx (s1 := [v, .dat (.str z)]) rfl (ns_one (y := y) (x := .non) e)).trans e2
theorem ns_stop {v y : SV} {o x : D} {post : List D} {cs : List CO} (hv : o.vw cs = some x) (h : kd x = true) (h2 : isSt x = false) : loopF (tgN 1) bd_need_stitches_1 (o :: post) [v, y] cs = .exc 1 [("value", o)] [v, .dat o] cs := by
  have e := ns_exc (v := v) (y := y) (x := x) (need_stitch_no hv h h2)
  unfold loopF
  rw [show tgN 1 o [v, y] = some [v, .dat o] from rfl]
  dsimp only
  rw [e]
theorem ns_walk {d x : D} {ds : List D} {n : Int} {y : SV} {cs : List CO} (hv : d.vw cs = some x) (hx : x = .lst ds ∨ x = .tup ds) (hd : d = x) (hg : gLen [x] = some (.dat (.int n))) (hn : decide (1200 < n) = false) (e : loopF (tgN 1) bd_need_stitches_1 ds [.dat d, .un] cs = .nx [.dat d, y] cs) : p_need_stitches [.dat d] cs = .ok (.dat .non, cs) := by
  subst hd
  rcases hx with rfl | rfl <;> (unfold p_need_stitches m_need_stitches; walk_at "dl")
theorem ns_walkE {d x : D} {ds : List D} {n : Int} {y : SV} {c : Nat} {fs : List (Str × D)} {cs : List CO} (hv : d.vw cs = some x) (hx : x = .lst ds ∨ x = .tup ds) (hd : d = x) (hg : gLen [x] = some (.dat (.int n))) (hn : decide (1200 < n) = false) (e : loopF (tgN 1) bd_need_stitches_1 ds [.dat d, .un] cs = .exc c fs [.dat d, y] cs) : p_need_stitches [.dat d] cs = .exc c fs cs := by
  subst hd
  rcases hx with rfl | rfl <;> (unfold p_need_stitches m_need_stitches; walk_at "dl")
theorem ns_l {zs : List Str} {cs : List CO} (h : ∀ z ∈ zs, z ∈ nms) (hl : zs.length ≤ 1200) : p_need_stitches [.dat (.lst (zs.map D.str))] cs = .ok (.dat .non, cs) := by
  obtain ⟨y, e⟩ := ns_pass (v := .dat (.lst (zs.map D.str))) (cs := cs) zs [] .un h
  rw [List.append_nil] at e
  exact ns_walk (n := ((zs.map D.str).length : Int)) rfl (.inl rfl) rfl rfl (decide_eq_false (by rw [List.length_map]; omega)) e
theorem ns_t {zs : List Str} {cs : List CO} (h : ∀ z ∈ zs, z ∈ nms) (hl : zs.length ≤ 1200) : p_need_stitches [.dat (.tup (zs.map D.str))] cs = .ok (.dat .non, cs) := by
  obtain ⟨y, e⟩ := ns_pass (v := .dat (.tup (zs.map D.str))) (cs := cs) zs [] .un h
  rw [List.append_nil] at e
  exact ns_walk (n := ((zs.map D.str).length : Int)) rfl (.inr rfl) rfl rfl (decide_eq_false (by rw [List.length_map]; omega)) e
theorem ns_bad {zs : List Str} {o x : D} {post : List D} {cs : List CO} (h : ∀ z ∈ zs, z ∈ nms) (hv : o.vw cs = some x) (hk : kd x = true) (h2 : isSt x = false) (hl : zs.length + post.length < 1200) : p_need_stitches [.dat (.lst (zs.map D.str ++ o :: post))] cs = .exc 1 [("value", o)] cs := by
  obtain ⟨y, e⟩ := ns_pass (v := .dat (.lst (zs.map D.str ++ o :: post))) (cs := cs) zs (o :: post) .un h
  rw [ns_stop hv hk h2] at e
  exact ns_walkE (n := ((zs.map D.str ++ o :: post).length : Int)) rfl (.inl rfl) rfl rfl (decide_eq_false (by rw [List.length_append, List.length_map, List.length_cons]; omega)) e
/-- no list of stitches -/
def noSeq : D → Bool
  | .lst ds => decide (1200 < (ds.length : Int))
  | .tup ds => decide (1200 < (ds.length : Int))
  | _ => true
theorem ns_no {d x : D} {cs : List CO} (hv : d.vw cs = some x) (hk : kd x = true) (h : noSeq x = true) : p_need_stitches [.dat d] cs = .exc 2 [("value", d)] cs := by
  cases x with
  | obj => cases hk
  | ref => cases hk
  | lst ds =>
    have h : decide (1200 < (ds.length : Int)) = true := h
    unfold p_need_stitches m_need_stitches
    walk_at "dl"
  | tup ds =>
    have h : decide (1200 < (ds.length : Int)) = true := h
    unfold p_need_stitches m_need_stitches
    walk_at "dl"
  | _ => unfold p_need_stitches m_need_stitches; walk_at "dl"
/-! ### is_repeated, shorter -/
theorem strs_map : ∀ l : List Str, strsOf (l.map D.str) = some l
  | [] => rfl
  | a :: l => by
    show (strsOf (l.map D.str)).map _ = _
    rw [strs_map l]; rfl
theorem rep_walk {ds : List D} {k : Int} {r : Bool} {cs : List CO} {f : FE} (h : f [.dat (.lst ds), .dat (.int k)] cs = .ok (.dat (.bl r), cs)) : runB 0 (dRet f) [.dat (.lst ds), .dat (.int k)] cs = .ok (.dat (.bl r), cs) := by
  walk_at "dl"
theorem fa_walk {ds : List D} {k n : Int} {cs : List CO} (h : gLen [.lst ds] = some (.dat (.int n))) : (dCons (dVar 1) (dCons (dCB gLen (dConsV (dVar 0) dNil)) dNil)) [.dat (.lst ds), .dat (.int k)] cs = .ok ([.dat (.int k), .dat (.int n)], cs) := by
  walk_at "dl"
theorem rep_ok {G : Addr} {C : List CO} {zs : List Str} {k : Int} (h0 : 0 ≤ k) (h1 : k < 2 ^ 62) : p_is_repeated G [.dat (.lst (zs.map D.str)), .dat (.int k)] (TG G :: C) = .ok (.dat (.bl (allEq zs k)), TG G :: C) := by
  refine rep_walk (allP_ok (zs := zs) (n := ((zs.map D.str).length : Nat)) (fa_walk rfl) (by rw [List.length_map]) (strs_map zs) rfl rfl h0 h1)
theorem shorter_n {d : D} {cs : List CO} {ds : List D} (h : d = .lst ds) : p_shorter [.dat .non, .dat d] cs = .ok (.dat d, cs) := by
  subst h
  unfold p_shorter m_shorter
  walk_at "dl"
theorem shorter_l {a b : List D} {m n : Int} {bb : Bool} {cs : List CO} (h1 : gLen [.lst a] = some (.dat (.int m))) (h2 : gLen [.lst b] = some (.dat (.int n))) (hb : decide (n < m) = bb) : p_shorter [.dat (.lst a), .dat (.lst b)] cs = .ok (.dat (.lst (if bb then b else a)), cs) := by
  unfold p_shorter m_shorter
  cases bb <;> walk_at "dl"
/-! ### written -/
/-- words of a text -/
def WD (ws : List Str) (m : Nat) : Prop := 1 ≤ ws.length ∧ ws.length ≤ m ∧ ∀ w ∈ ws, w.length ≤ 30
theorem shorter_w {a b : List Str} {m : Nat} {cs : List CO} (ha : WD a m) (hb : WD b m) : ∃ c, p_shorter [.dat (.lst (a.map D.str)), .dat (.lst (b.map D.str))] cs = .ok (.dat (.lst (c.map D.str)), cs) ∧ WD c m := by
  have e := shorter_l (a := a.map D.str) (b := b.map D.str) (cs := cs) (m := ((a.map D.str).length : Nat)) (n := ((b.map D.str).length : Nat)) rfl rfl rfl
  cases h : decide ((((b.map D.str).length : Nat) : Int) < (((a.map D.str).length : Nat) : Int)) with
  | true => rw [h] at e; exact ⟨b, e, hb⟩
  | false => rw [h] at e; exact ⟨a, e, ha⟩
section
variable {φ ψ : Phi} {G : Addr} {cs : List CO} {x0 x1 x2 x3 x4 x5 x6 x7 x8 : SV} {b e c k j : Nat} {T : List (Str × D)} {x y r part : List D} {f : D}
theorem b1_walk {b e c : Int} {p1 p2 q1 q2 : Nat} (hj : cs[j]? = some (.obj 0 T)) (k1 : keyT (.tup [.int b, .int c]) = some (p1, p2)) (k2 : keyT (.tup [.int c, .int e]) = some (q1, q2)) (g1 : getT T (pairS p1 p2) = some (.lst x)) (g2 : getT T (pairS q1 q2) = some (.lst y)) (ga : gAdd (.lst x) (.lst y) = some (.new (.lst r))) (hs : φ [.dat f, .dat (.lst r)] cs = .ok (.dat (.lst part), cs)) :
    (dAsg 6 (dCall 2 φ [] (dCons (dVar 6) (dCons (dOp gAdd (dTGet (dVar 3) (dTup (dCons (dVar 1) (dCons (dVar 7) dNil)))) (dTGet (dVar 3) (dTup (dCons (dVar 7) (dCons (dVar 2) dNil))))) dNil)))) [x0, .dat (.int b), .dat (.int e), .dat (.ref j), x4, x5, .dat f, .dat (.int c), x8] cs = .nx [x0, .dat (.int b), .dat (.int e), .dat (.ref j), x4, x5, .dat (.lst part), .dat (.int c), x8] cs := by
  walk_at "dl"
end
end SL.L42

/-! K42b: written. -/
namespace SL.L42
open PySem L2 Pk
section
variable {φ ψ : Phi} {A : FE} {F1 F2 : FS} {cs : List CO} {x0 x1 x2 x3 x4 x5 x6 x7 x8 : SV} {b e m s q r : Int} {j : Nat} {row part ws x l1 l2 rs : List D} {T : List (Str × D)} {z w qs : Str} {f : D} {p1 p2 : Nat}
theorem w_rep (hm : e - b = m) (hc : cutD row (some b) (some e) = part) (hr : φ [.dat (.lst part), .dat (.int 1)] cs = .ok (.dat (.bl true), cs)) (hA : A [.dat (.lst row), .dat (.int b), .dat (.int e), .dat (.ref j), .dat (.int m), .dat (.lst part), .dat .non, .un, .un] cs = .ok (.new (.lst ws), cs)) :
    runB 5 (dSeq (dAsg 4 (dOp gSub (dVar 2) (dVar 1))) (dSeq (dAsg 5 (dSl (dVar 0) (oSome (dVar 1)) (oSome (dVar 2)))) (dFz 5 (dSeq (dAsg 6 (dCon .non)) (dSeq (dIfS (toTru (dCall 2 φ [] (dCons (dVar 5) (dCons (dCon (.int 1)) dNil)))) (dRet A) dNx) (dSeq F1 (dSeq F2 (dRetV 6)))))))) [.dat (.lst row), .dat (.int b), .dat (.int e), .dat (.ref j)] cs = .ok (.new (.lst ws), cs) := by
  walk_at "dl"
theorem w_loop (hm : e - b = m) (hc : cutD row (some b) (some e) = part) (hr : φ [.dat (.lst part), .dat (.int 1)] cs = .ok (.dat (.bl false), cs)) (h1 : F1 [.dat (.lst row), .dat (.int b), .dat (.int e), .dat (.ref j), .dat (.int m), .dat (.lst part), .dat .non, .un, .un] cs = .nx [.dat (.lst row), .dat (.int b), .dat (.int e), .dat (.ref j), .dat (.int m), .dat (.lst part), .dat f, x7, .un] cs)
    (h2 : F2 [.dat (.lst row), .dat (.int b), .dat (.int e), .dat (.ref j), .dat (.int m), .dat (.lst part), .dat f, x7, .un] cs = .nx [.dat (.lst row), .dat (.int b), .dat (.int e), .dat (.ref j), .dat (.int m), .dat (.lst part), .dat (.lst ws), x7, x8] cs) : runB 5 (dSeq (dAsg 4 (dOp gSub (dVar 2) (dVar 1))) (dSeq (dAsg 5 (dSl (dVar 0) (oSome (dVar 1)) (oSome (dVar 2)))) (dFz 5 (dSeq (dAsg 6 (dCon .non)) (dSeq (dIfS (toTru (dCall 2 φ [] (dCons (dVar 5) (dCons (dCon (.int 1)) dNil)))) (dRet A) dNx) (dSeq F1 (dSeq F2 (dRetV 6)))))))) [.dat (.lst row), .dat (.int b), .dat (.int e), .dat (.ref j)] cs = .ok (.dat (.lst ws), cs) := by
  walk_at "dl"
theorem a_one (hm : decide (m = 1) = true) (g0 : gIx (.lst part) (.int 0) = some (.dat (.str z))) : (dLst (dCons (dIf (toT (dOp gEq (dVar 4) (dCon (.int 1)))) (dOp gIx (dVar 5) (dCon (.int 0))) (dFS (dUn gFmt (dVar 4)) (dUn gFmt (dOp gIx (dVar 5) (dCon (.int 0)))))) dNil)) [x0, x1, x2, x3, .dat (.int m), .dat (.lst part), x6, x7, x8] cs = .ok (.new (.lst [.str z]), cs) := by
  walk_at "dl"
theorem a_more (hm : decide (m = 1) = false) (g0 : gIx (.lst part) (.int 0) = some (.dat (.str z))) (f4 : gFmt (.int m) = some (.dat (.str w))) (fz : gFmt (.str z) = some (.dat (.str z))) (h1 : w.length ≤ 16777216) (h2 : (w ++ z).length ≤ 16777216) :
    (dLst (dCons (dIf (toT (dOp gEq (dVar 4) (dCon (.int 1)))) (dOp gIx (dVar 5) (dCon (.int 0))) (dFS (dUn gFmt (dVar 4)) (dUn gFmt (dOp gIx (dVar 5) (dCon (.int 0)))))) dNil)) [x0, x1, x2, x3, .dat (.int m), .dat (.lst part), x6, x7, x8] cs = .ok (.new (.lst [.str (w ++ z)]), cs) := by
  walk_at "dl"
theorem b2_no (hr : gMod (.int m) (.int s) = some (.dat (.int r))) (h0 : decide (r = 0) = false) : (dIfS (tAnd' (toT (dOp gEq (dOp gMod (dVar 4) (dVar 8)) (dCon (.int 0)))) (toTru (dCall 2 φ [] (dCons (dVar 5) (dCons (dVar 8) dNil))))) (dAsg 6 (dCall 2 ψ [] (dCons (dVar 6) (dCons (dOp gAdd (dOp gAdd (dLst (dCons (dCon (.str "(")) dNil)) (dTGet (dVar 3) (dTup (dCons (dVar 1) (dCons (dOp gAdd (dVar 1) (dVar 8)) dNil))))) (dLst (dCons (dFS (dCon (.str ")")) (dUn gFmt (dOp gFdiv (dVar 4) (dVar 8)))) dNil))) dNil)))) dNx) [x0, x1, x2, x3, .dat (.int m), .dat (.lst part), x6, x7, .dat (.int s)] cs = .nx [x0, x1, x2, x3, .dat (.int m), .dat (.lst part), x6, x7, .dat (.int s)] cs := by
  walk_at "dl"
theorem b2_not (hr : gMod (.int m) (.int s) = some (.dat (.int r))) (h0 : decide (r = 0) = true) (hp : φ [.dat (.lst part), .dat (.int s)] cs = .ok (.dat (.bl false), cs)) : (dIfS (tAnd' (toT (dOp gEq (dOp gMod (dVar 4) (dVar 8)) (dCon (.int 0)))) (toTru (dCall 2 φ [] (dCons (dVar 5) (dCons (dVar 8) dNil))))) (dAsg 6 (dCall 2 ψ [] (dCons (dVar 6) (dCons (dOp gAdd (dOp gAdd (dLst (dCons (dCon (.str "(")) dNil)) (dTGet (dVar 3) (dTup (dCons (dVar 1) (dCons (dOp gAdd (dVar 1) (dVar 8)) dNil))))) (dLst (dCons (dFS (dCon (.str ")")) (dUn gFmt (dOp gFdiv (dVar 4) (dVar 8)))) dNil))) dNil)))) dNx) [x0, x1, x2, x3, .dat (.int m), .dat (.lst part), x6, x7, .dat (.int s)] cs = .nx [x0, x1, x2, x3, .dat (.int m), .dat (.lst part), x6, x7, .dat (.int s)] cs := by
  walk_at "dl"
theorem b2_yes {be : Int} (hr : gMod (.int m) (.int s) = some (.dat (.int r))) (h0 : decide (r = 0) = true) (hp : φ [.dat (.lst part), .dat (.int s)] cs = .ok (.dat (.bl true), cs)) (hj : cs[j]? = some (.obj 0 T)) (hbe : b + s = be)
    (k1 : keyT (.tup [.int b, .int be]) = some (p1, p2)) (g1 : getT T (pairS p1 p2) = some (.lst x)) (hq : gFdiv (.int m) (.int s) = some (.dat (.int q))) (fq : gFmt (.int q) = some (.dat (.str qs))) (hl1 : (")" : Str).length ≤ 16777216) (hl2 : ((")" : Str) ++ qs).length ≤ 16777216)
    (ga : gAdd (.lst [.str "("]) (.lst x) = some (.new (.lst l1))) (gb : gAdd (.lst l1) (.lst [.str ((")" : Str) ++ qs)]) = some (.new (.lst l2))) (hs : ψ [.dat f, .dat (.lst l2)] cs = .ok (.dat (.lst rs), cs)) :
    (dIfS (tAnd' (toT (dOp gEq (dOp gMod (dVar 4) (dVar 8)) (dCon (.int 0)))) (toTru (dCall 2 φ [] (dCons (dVar 5) (dCons (dVar 8) dNil))))) (dAsg 6 (dCall 2 ψ [] (dCons (dVar 6) (dCons (dOp gAdd (dOp gAdd (dLst (dCons (dCon (.str "(")) dNil)) (dTGet (dVar 3) (dTup (dCons (dVar 1) (dCons (dOp gAdd (dVar 1) (dVar 8)) dNil))))) (dLst (dCons (dFS (dCon (.str ")")) (dUn gFmt (dOp gFdiv (dVar 4) (dVar 8)))) dNil))) dNil)))) dNx) [x0, .dat (.int b), x2, .dat (.ref j), .dat (.int m), .dat (.lst part), .dat f, x7, .dat (.int s)] cs = .nx [x0, .dat (.int b), x2, .dat (.ref j), .dat (.int m), .dat (.lst part), .dat (.lst rs), x7, .dat (.int s)] cs := by
  walk_at "dl"
theorem for1_walk {B : FS} {sl : List SV} {R : Flw} {ea : Int} (h1 : sl[1]? = some (.dat (.int b))) (h2 : sl[2]? = some (.dat (.int e))) (hb : b + 1 = ea) (l0 : -4611686018427387904 ≤ ea) (l1 : ea < 4611686018427387904) (l2 : -4611686018427387904 ≤ e) (l3 : e < 4611686018427387904) (h : loopF (tgN 7) B (rngL ea (e - ea).toNat) sl cs = R) :
    dFor (rng2 (dConsV (dOp gAdd (dVar 1) (dCon (.int 1))) (dConsV (dVar 2) dNil))) (tgN 7) B sl cs = R := by
  walk_at "dl"
theorem for2_walk {B : FS} {sl : List SV} {R : Flw} {ea hq : Int} (h1 : sl[4]? = some (.dat (.int m))) (hd : gFdiv (.int m) (.int 2) = some (.dat (.int hq))) (hb : hq + 1 = ea) (l0 : -4611686018427387904 ≤ ea) (l1 : ea < 4611686018427387904) (h : loopF (tgN 8) B (rngL 2 (ea - 2).toNat) sl cs = R) :
    dFor (rng2 (dConsV (dCon (.int 2)) (dConsV (dOp gAdd (dOp gFdiv (dVar 4) (dCon (.int 2))) (dCon (.int 1))) dNil))) (tgN 8) B sl cs = R := by
  walk_at "dl"
end
end SL.L42

/-! K42c: written tells words. -/
namespace SL.L42
open PySem L2 Pk
def fmtS (i : Int) : Str := toString i
theorem fmt_i {i : Int} (h0 : 0 ≤ i) (h1 : i ≤ 24) : gFmt (.int i) = some (.dat (.str (fmtS i))) := x_fmt_i (by
  obtain ⟨n, rfl⟩ := Int.eq_ofNat_of_zero_le h0
  have : n ≤ 24 := by omega
  show Nat.log2 n < 1920
  exact Nat.lt_of_le_of_lt (Nat.log2_le_self n) (by omega))
theorem fmt_len0 : ∀ i : Fin 25, (fmtS ((i.1 : Nat) : Int)).length ≤ 3 := by decide +kernel
theorem fmt_len {i : Int} (h0 : 0 ≤ i) (h1 : i ≤ 24) : (fmtS i).length ≤ 3 := by
  obtain ⟨n, rfl⟩ := Int.eq_ofNat_of_zero_le h0
  exact fmt_len0 ⟨n, by omega⟩
theorem len_app {x y : Str} : (x ++ y).length = x.length + y.length := by
  show (x.cps ++ y.cps).size = _
  rw [Array.size_append]; rfl
theorem paren_len : (")" : Str).length = 1 := by decide +kernel
theorem nm_len {z : Str} (h : z ∈ nms) : z.length ≤ 5 := all_nms (P := fun z => z.length ≤ 5) (by decide +kernel) h
theorem cut_mid {xs : List D} {b e : Nat} (hb : b ≤ e) (he : e ≤ xs.length) : cutD xs (some (b : Int)) (some (e : Int)) = (xs.drop b).take (e - b) := by
  unfold cutD
  rw [HT.sIx_nat, HT.sIx_nat, Nat.min_eq_left (by omega), Nat.min_eq_left (by omega)]
theorem key_nn (i k : Nat) : keyT (.tup [.int (i : Int), .int (k : Int)]) = some (i, k) := by
  rw [x_keyT (by omega) (by omega)]; rfl
/-- the table tells words for the stretch c, d -/
def Has (T : List (Str × D)) (c d : Nat) : Prop := ∃ ws, getT T (pairS c d) = some (.lst (ws.map D.str)) ∧ WD ws (d - c)
theorem add_strs {x y : List Str} (h : x.length + y.length ≤ 1000) : gAdd (.lst (x.map D.str)) (.lst (y.map D.str)) = some (.new (.lst ((x ++ y).map D.str))) := by
  rw [s_gAddL (by rw [List.length_map, List.length_map]; omega), List.map_append]
theorem WD.app {x y : List Str} {m n : Nat} (hx : WD x m) (hy : WD y n) : WD (x ++ y) (m + n) := by
  obtain ⟨a1, a2, a3⟩ := hx
  obtain ⟨b1, b2, b3⟩ := hy
  refine ⟨by rw [List.length_append]; omega, by rw [List.length_append]; omega, fun w hw => ?_⟩
  rcases List.mem_append.mp hw with h | h
  · exact a3 w h
  · exact b3 w h
section
variable {G : Addr} {C : List CO} {zs pt : List Str} {b e m j : Nat} {T : List (Str × D)}
/-- what is found so far -/
def Fnd (f : D) (m : Nat) : Prop := ∃ ws, f = .lst (ws.map D.str) ∧ WD ws m
theorem loop1 (hj : (TG G :: C)[j]? = some (.obj 0 T)) (hm : e - b = m) (hbe : b + 2 ≤ e) (h24 : m ≤ 24) (hT : ∀ c d, b ≤ c → c < d → d ≤ e → d - c < m → Has T c d) :
    ∃ x7 f, loopF (tgN 7) (bd_written_1 G) (rngL ((b + 1 : Nat) : Int) ((e : Int) - ((b + 1 : Nat) : Int)).toNat) [.dat (.lst (zs.map D.str)), .dat (.int b), .dat (.int e), .dat (.ref j), .dat (.int (m : Nat)), .dat (.lst (pt.map D.str)), .dat .non, .un, .un] (TG G :: C) = .nx [.dat (.lst (zs.map D.str)), .dat (.int b), .dat (.int e), .dat (.ref j), .dat (.int (m : Nat)), .dat (.lst (pt.map D.str)), .dat f, x7, .un] (TG G :: C) ∧ Fnd f m := by
  obtain ⟨s2, c2, e2, rfl, x7, f, rfl, -, hf⟩ := loop_inv (t := tgN 7) (body := bd_written_1 G) (fun i sl c => c = TG G :: C ∧ ∃ x7 f, sl = [.dat (.lst (zs.map D.str)), .dat (.int b), .dat (.int e), .dat (.ref j), .dat (.int (m : Nat)), .dat (.lst (pt.map D.str)), .dat f, x7, .un] ∧ (i = 0 → f = .non) ∧ (0 < i → Fnd f m)) (rngL ((b + 1 : Nat) : Int) ((e : Int) - ((b + 1 : Nat) : Int)).toNat) 0 [.dat (.lst (zs.map D.str)), .dat (.int b), .dat (.int e), .dat (.ref j), .dat (.int (m : Nat)), .dat (.lst (pt.map D.str)), .dat .non, .un, .un] (TG G :: C) (by
    rintro i d sl c _ hd ⟨rfl, x7, f, rfl, h0, h1⟩
    obtain ⟨hi, rfl⟩ := rngL_get hd
    have hi : i < e - (b + 1) := by omega
    have ei : ((b + 1 : Nat) : Int) + ((i - 0 : Nat) : Int) = ((b + 1 + i : Nat) : Int) := by omega
    rw [ei]
    obtain ⟨w1, g1, d1⟩ := hT b (b + 1 + i) (by omega) (by omega) (by omega) (by omega)
    obtain ⟨w2, g2, d2⟩ := hT (b + 1 + i) e (by omega) (by omega) (by omega) (by omega)
    have dd := d1.app d2
    rw [show b + 1 + i - b + (e - (b + 1 + i)) = m by omega] at dd
    have ga := add_strs (x := w1) (y := w2) (by have := d1.2.1; have := d2.2.1; omega)
    obtain ⟨r, hs, hr⟩ : ∃ r, p_shorter [.dat f, .dat (.lst ((w1 ++ w2).map D.str))] (TG G :: C) = .ok (.dat (.lst (r.map D.str)), TG G :: C) ∧ WD r m := by
      rcases Nat.eq_zero_or_pos i with h | h
      · rw [h0 h]; exact ⟨w1 ++ w2, shorter_n rfl, dd⟩
      · obtain ⟨ws, rfl, hw⟩ := h1 h
        exact shorter_w hw dd
    refine ⟨[.dat (.lst (zs.map D.str)), .dat (.int b), .dat (.int e), .dat (.ref j), .dat (.int (m : Nat)), .dat (.lst (pt.map D.str)), .dat f, .dat (.int ((b + 1 + i : Nat) : Int)), .un], rfl, _, _, .inl (b1_walk (φ := p_shorter) (part := r.map D.str) hj (key_nn _ _) (key_nn _ _) g1 g2 ga hs), rfl, _, _, rfl, (fun z => by omega), fun _ => ⟨r, rfl, hr⟩⟩)
    ⟨rfl, .un, .non, rfl, fun _ => rfl, fun z => by omega⟩
  refine ⟨x7, f, e2, hf ?_⟩
  rw [rngL_length]; omega
theorem loop2 {x7 : SV} {f0 : D} (hj : (TG G :: C)[j]? = some (.obj 0 T)) (hm : e - b = m) (hbe : b < e) (h24 : m ≤ 24) (hT : ∀ c d, b ≤ c → c < d → d ≤ e → d - c < m → Has T c d) (hf0 : Fnd f0 m) :
    ∃ x8 f, loopF (tgN 8) (bd_written_2 G) (rngL 2 (((m / 2 + 1 : Nat) : Int) - 2).toNat) [.dat (.lst (zs.map D.str)), .dat (.int b), .dat (.int e), .dat (.ref j), .dat (.int (m : Nat)), .dat (.lst (pt.map D.str)), .dat f0, x7, .un] (TG G :: C) = .nx [.dat (.lst (zs.map D.str)), .dat (.int b), .dat (.int e), .dat (.ref j), .dat (.int (m : Nat)), .dat (.lst (pt.map D.str)), .dat f, x7, x8] (TG G :: C) ∧ Fnd f m := by
  obtain ⟨s2, c2, e2, rfl, x8, f, rfl, hf⟩ := loop_inv (t := tgN 8) (body := bd_written_2 G) (fun i sl c => c = TG G :: C ∧ ∃ x8 f, sl = [.dat (.lst (zs.map D.str)), .dat (.int b), .dat (.int e), .dat (.ref j), .dat (.int (m : Nat)), .dat (.lst (pt.map D.str)), .dat f, x7, x8] ∧ Fnd f m) (rngL 2 (((m / 2 + 1 : Nat) : Int) - 2).toNat) 0 [.dat (.lst (zs.map D.str)), .dat (.int b), .dat (.int e), .dat (.ref j), .dat (.int (m : Nat)), .dat (.lst (pt.map D.str)), .dat f0, x7, .un] (TG G :: C) (by
    rintro i d sl c _ hd ⟨rfl, x8, f, rfl, hf⟩
    obtain ⟨hi, rfl⟩ := rngL_get hd
    have hi : i + 2 < m / 2 + 1 := by omega
    have ei : (2 : Int) + ((i - 0 : Nat) : Int) = ((i + 2 : Nat) : Int) := by omega
    rw [ei]
    have hr : gMod (.int (m : Nat)) (.int ((i + 2 : Nat) : Int)) = some (.dat (.int ((m : Int) % ((i + 2 : Nat) : Int)))) := s_gMod (by omega)
    refine ⟨[.dat (.lst (zs.map D.str)), .dat (.int b), .dat (.int e), .dat (.ref j), .dat (.int (m : Nat)), .dat (.lst (pt.map D.str)), .dat f, x7, .dat (.int ((i + 2 : Nat) : Int))], rfl, ?_⟩
    cases h0 : decide ((m : Int) % ((i + 2 : Nat) : Int) = 0) with
    | false => exact ⟨_, _, .inl (b2_no (φ := p_is_repeated G) (ψ := p_shorter) hr h0), rfl, _, _, rfl, hf⟩
    | true =>
      have hp := rep_ok (G := G) (C := C) (zs := pt) (k := ((i + 2 : Nat) : Int)) (by omega) (by omega)
      cases hb : allEq pt ((i + 2 : Nat) : Int) with
      | false => rw [hb] at hp; exact ⟨_, _, .inl (b2_not (φ := p_is_repeated G) (ψ := p_shorter) hr h0 hp), rfl, _, _, rfl, hf⟩
      | true =>
        rw [hb] at hp
        obtain ⟨w1, g1, d1⟩ := hT b (b + (i + 2)) (by omega) (by omega) (by omega) (by omega)
        rw [show b + (i + 2) - b = i + 2 by omega] at d1
        have q0 : 0 ≤ (m : Int) / ((i + 2 : Nat) : Int) := Int.ediv_nonneg (by omega) (by omega)
        have q1 : (m : Int) / ((i + 2 : Nat) : Int) ≤ 24 := Int.le_trans (Int.ediv_le_self _ (by omega)) (by omega)
        have hq : gFdiv (.int (m : Nat)) (.int ((i + 2 : Nat) : Int)) = some (.dat (.int ((m : Int) / ((i + 2 : Nat) : Int)))) := s_gFdiv (by omega) (by omega)
        have fq := fmt_i q0 q1
        have fl := fmt_len q0 q1
        have l2 : ((")" : Str) ++ fmtS ((m : Int) / ((i + 2 : Nat) : Int))).length ≤ 30 := by rw [len_app, paren_len]; omega
        generalize fmtS ((m : Int) / ((i + 2 : Nat) : Int)) = qs at *
        have ga := add_strs (x := [("(" : Str)]) (y := w1) (by have := d1.2.1; simp; omega)
        have gb := add_strs (x := [("(" : Str)] ++ w1) (y := [(")" : Str) ++ qs]) (by have := d1.2.1; simp; omega)
        have dd : WD ([("(" : Str)] ++ w1 ++ [(")" : Str) ++ qs]) m := by
          obtain ⟨a1, a2, a3⟩ := d1
          refine ⟨by simp, by simp; omega, fun w hw => ?_⟩
          simp only [List.mem_append, List.mem_singleton] at hw
          rcases hw with (rfl | hw) | rfl
          · decide +kernel
          · exact a3 w hw
          · exact l2
        obtain ⟨ws, rfl, hw⟩ := hf
        obtain ⟨r, hs, hr2⟩ := shorter_w (cs := TG G :: C) hw dd
        exact ⟨_, _, .inl (b2_yes (φ := p_is_repeated G) (ψ := p_shorter) (rs := r.map D.str) (be := ((b + (i + 2) : Nat) : Int)) hr h0 hp hj (by omega) (key_nn _ _) g1 hq fq (by rw [paren_len]; decide) (by omega) ga gb hs), rfl, _, _, rfl, ⟨r, rfl, hr2⟩⟩)
    ⟨rfl, .un, f0, rfl, hf0⟩
  exact ⟨x8, f, e2, hf⟩
end
theorem written_ok {G : Addr} {C : List CO} {zs : List Str} {b e j : Nat} {T : List (Str × D)} (hz : ∀ z ∈ zs, z ∈ nms) (hbe : b < e) (hen : e ≤ zs.length) (hn : zs.length ≤ 24) (hj : (TG G :: C)[j]? = some (.obj 0 T)) (hT : ∀ c d, b ≤ c → c < d → d ≤ e → d - c < e - b → Has T c d) :
    ∃ r ws, p_written G [.dat (.lst (zs.map D.str)), .dat (.int b), .dat (.int e), .dat (.ref j)] (TG G :: C) = .ok (r, TG G :: C) ∧ (r = .new (.lst (ws.map D.str)) ∨ r = .dat (.lst (ws.map D.str))) ∧ WD ws (e - b) := by
  have hc : cutD (zs.map D.str) (some (b : Int)) (some (e : Int)) = ((zs.drop b).take (e - b)).map D.str := by
    rw [cut_mid (by omega) (by rw [List.length_map]; omega), List.map_take, List.map_drop]
  have hpl : ((zs.drop b).take (e - b)).length = e - b := by rw [List.length_take, List.length_drop]; omega
  have hpz : ∀ z ∈ (zs.drop b).take (e - b), z ∈ nms := fun z h => hz z (List.mem_of_mem_drop (List.mem_of_mem_take h))
  generalize (zs.drop b).take (e - b) = pt at *
  generalize hm : e - b = m at *
  have hmi : (e : Int) - (b : Int) = ((m : Nat) : Int) := by omega
  have hp := rep_ok (G := G) (C := C) (zs := pt) (k := 1) (by decide) (by decide)
  cases hb : allEq pt 1 with
  | true =>
    rw [hb] at hp
    obtain ⟨z0, pt', rfl⟩ : ∃ z0 pt', pt = z0 :: pt' := by
      cases pt with
      | nil => simp at hpl; omega
      | cons z0 pt' => exact ⟨z0, pt', rfl⟩
    have z5 := nm_len (hpz z0 List.mem_cons_self)
    have g0 : gIx (.lst ((z0 :: pt').map D.str)) (.int 0) = some (.dat (.str z0)) := by rw [List.map_cons, s_gIx_l, atI0]; rfl
    by_cases h1 : m = 1
    · exact ⟨_, [z0], w_rep hmi hc hp (a_one (decide_eq_true (by omega)) g0), .inl rfl, ⟨by simp, by simp; omega, fun w hw => by rw [List.mem_singleton.mp hw]; omega⟩⟩
    · have f0 := fmt_i (i := ((m : Nat) : Int)) (by omega) (by omega)
      have fl := fmt_len (i := ((m : Nat) : Int)) (by omega) (by omega)
      exact ⟨_, [fmtS ((m : Nat) : Int) ++ z0], w_rep hmi hc hp (a_more (decide_eq_false (by omega)) g0 f0 (x_fmt_s (by omega)) (by omega) (by rw [len_app]; omega)), .inl rfl, ⟨by simp, by simp; omega, fun w hw => by rw [List.mem_singleton.mp hw, len_app]; omega⟩⟩
  | false =>
    rw [hb] at hp
    have h2 : 2 ≤ m := by
      by_cases h : 2 ≤ m
      · exact h
      · have e1 : m = 1 := by omega
        unfold allEq at hb
        rw [hpl, e1] at hb
        cases hb
    obtain ⟨x7, f, e1, hf⟩ := loop1 (G := G) (C := C) (zs := zs) (pt := pt) hj hm (by omega) (by omega) hT
    obtain ⟨x8, f2, e2, ws, rfl, hw⟩ := loop2 (G := G) (C := C) (zs := zs) (pt := pt) (x7 := x7) hj hm hbe (by omega) hT hf
    have hd : gFdiv (.int ((m : Nat) : Int)) (.int 2) = some (.dat (.int ((m / 2 : Nat) : Int))) := by
      rw [s_gFdiv (by decide) (by decide)]; rfl
    refine ⟨_, ws, w_loop (x7 := x7) (x8 := x8) hmi hc hp (for1_walk rfl rfl (ea := ((b + 1 : Nat) : Int)) (by omega) (by omega) (by omega) (by omega) (by omega) e1) (for2_walk rfl hd (ea := ((m / 2 + 1 : Nat) : Int)) (by omega) (by omega) (by omega) e2), .inr rfl, hw⟩
end SL.L42

/-! K42d: shortest tells a text. -/
namespace SL.L42
open PySem L2 Pk
section
variable {φ : Phi} {F B : FS} {J : FE} {cs c2 : List CO} {x0 x1 x2 x3 x4 : SV} {b e m n : Int} {j : Nat} {d : D} {ds w ws : List D} {T : List (Str × D)} {s : Str} {p1 p2 c : Nat} {R : Flw} {fs : List (Str × D)}
theorem sh_exc (e1 : φ [.dat d] cs = .exc c fs cs) : runB 4 (dSeq (dDrop (dCall 1 φ [] (dCons (dVar 0) dNil))) (dSeq (dIfS (toT (dOp gGt (dCB gLen (dConsV (dVar 0) dNil)) (dCon (.int 24)))) (dRaise 2 "value" (dVar 0)) dNx) (dSeq (dIfS (tNot' (toTru (dVar 0))) (dRet (dCon (.str ""))) dNx) (dSeq (dAsg 1 (dCB gList (dConsV (dVar 0) dNil))) (dFz 1 (dSeq (dAsg 2 dDictT) (dPin 2 (dSeq F (dRet J))))))))) [.dat d] cs = .exc c fs cs := by
  walk_at "dl"
theorem sh_many (e1 : φ [.dat d] cs = .ok (.dat .non, cs)) (hv : d.vw cs = some (.lst ds)) (hg : gLen [.lst ds] = some (.dat (.int n))) (hn : decide (24 < n) = true) : runB 4 (dSeq (dDrop (dCall 1 φ [] (dCons (dVar 0) dNil))) (dSeq (dIfS (toT (dOp gGt (dCB gLen (dConsV (dVar 0) dNil)) (dCon (.int 24)))) (dRaise 2 "value" (dVar 0)) dNx) (dSeq (dIfS (tNot' (toTru (dVar 0))) (dRet (dCon (.str ""))) dNx) (dSeq (dAsg 1 (dCB gList (dConsV (dVar 0) dNil))) (dFz 1 (dSeq (dAsg 2 dDictT) (dPin 2 (dSeq F (dRet J))))))))) [.dat d] cs = .exc 2 [("value", d)] cs := by
  walk_at "dl"
theorem sh_run (e1 : φ [.dat d] cs = .ok (.dat .non, cs)) (hv : d.vw cs = some (.lst ds)) (hg : gLen [.lst ds] = some (.dat (.int n))) (hn : decide (24 < n) = false) (ht : ds.isEmpty = false)
    (hF : F [.dat d, .dat (.lst ds), .dat (.ref cs.length), .un, .un] (cs ++ [.obj 0 []]) = .nx [.dat d, .dat (.lst ds), .dat (.ref cs.length), x3, x4] c2) (hJ : J [.dat d, .dat (.lst ds), .dat (.ref cs.length), x3, x4] c2 = .ok (.dat (.str s), c2)) : runB 4 (dSeq (dDrop (dCall 1 φ [] (dCons (dVar 0) dNil))) (dSeq (dIfS (toT (dOp gGt (dCB gLen (dConsV (dVar 0) dNil)) (dCon (.int 24)))) (dRaise 2 "value" (dVar 0)) dNx) (dSeq (dIfS (tNot' (toTru (dVar 0))) (dRet (dCon (.str ""))) dNx) (dSeq (dAsg 1 (dCB gList (dConsV (dVar 0) dNil))) (dFz 1 (dSeq (dAsg 2 dDictT) (dPin 2 (dSeq F (dRet J))))))))) [.dat d] cs = .ok (.dat (.str s), c2) := by
  walk_at "dl"
theorem j_walk (hj : cs[j]? = some (.obj 0 T)) (hg : gLen [.lst ds] = some (.dat (.int n))) (hk : keyT (.tup [.int 0, .int n]) = some (p1, p2)) (g1 : getT T (pairS p1 p2) = some (.lst ws)) (gj : gJoin " " (.lst ws) = some (.dat (.str s))) : (dUn (gJoin " ") (dTGet (dVar 2) (dTup (dCons (dCon (.int 0)) (dCons (dCB gLen (dConsV (dVar 1) dNil)) dNil))))) [.dat d, .dat (.lst ds), .dat (.ref j), x3, x4] cs = .ok (.dat (.str s), cs) := by
  walk_at "dl"
theorem f1_walk (hg : gLen [.lst ds] = some (.dat (.int n))) (hm : n + 1 = m) (l0 : -4611686018427387904 ≤ m) (l1 : m < 4611686018427387904) (h : loopF (tgN 3) B (rngL 1 (m - 1).toNat) [.dat d, .dat (.lst ds), .dat (.ref j), x3, x4] cs = R) :
    dFor (rng2 (dConsV (dCon (.int 1)) (dConsV (dOp gAdd (dCB gLen (dConsV (dVar 1) dNil)) (dCon (.int 1))) dNil))) (tgN 3) B [.dat d, .dat (.lst ds), .dat (.ref j), x3, x4] cs = R := by
  walk_at "dl"
theorem f2_walk (hg : gLen [.lst ds] = some (.dat (.int n))) (hm : n - m + 1 = e) (l0 : -4611686018427387904 ≤ e) (l1 : e < 4611686018427387904) (h : loopF (tgN 4) B (rngL 0 e.toNat) [.dat d, .dat (.lst ds), .dat (.ref j), .dat (.int m), x4] cs = R) :
    dFor (rng1 (dConsV (dOp gAdd (dOp gSub (dCB gLen (dConsV (dVar 1) dNil)) (dVar 3)) (dCon (.int 1))) dNil)) (tgN 4) B [.dat d, .dat (.lst ds), .dat (.ref j), .dat (.int m), x4] cs = R := by
  walk_at "dl"
theorem b1_new (hm : b + m = e) (h : φ [.dat (.lst ds), .dat (.int b), .dat (.int e), .dat (.ref j)] cs = .ok (.new (.lst w), cs)) (hj : cs[j]? = some (.obj 0 T)) (hk : keyT (.tup [.int b, .int e]) = some (p1, p2)) (hl : T.length < 16777216) :
    (dSetKT (dCall 4 φ [] (dCons (dVar 1) (dCons (dVar 4) (dCons (dOp gAdd (dVar 4) (dVar 3)) (dCons (dVar 2) dNil))))) (dVar 2) (dTup (dCons (dVar 4) (dCons (dOp gAdd (dVar 4) (dVar 3)) dNil)))) [.dat d, .dat (.lst ds), .dat (.ref j), .dat (.int m), .dat (.int b)] cs = .nx [.dat d, .dat (.lst ds), .dat (.ref j), .dat (.int m), .dat (.int b)] (cs.set j (.obj 0 (putT T (pairS p1 p2) (.lst w)))) := by
  walk_at "dl"
theorem b1_dat (hm : b + m = e) (h : φ [.dat (.lst ds), .dat (.int b), .dat (.int e), .dat (.ref j)] cs = .ok (.dat (.lst w), cs)) (hj : cs[j]? = some (.obj 0 T)) (hk : keyT (.tup [.int b, .int e]) = some (p1, p2)) (hl : T.length < 16777216) :
    (dSetKT (dCall 4 φ [] (dCons (dVar 1) (dCons (dVar 4) (dCons (dOp gAdd (dVar 4) (dVar 3)) (dCons (dVar 2) dNil))))) (dVar 2) (dTup (dCons (dVar 4) (dCons (dOp gAdd (dVar 4) (dVar 3)) dNil)))) [.dat d, .dat (.lst ds), .dat (.ref j), .dat (.int m), .dat (.int b)] cs = .nx [.dat d, .dat (.lst ds), .dat (.ref j), .dat (.int m), .dat (.int b)] (cs.set j (.obj 0 (putT T (pairS p1 p2) (.lst w)))) := by
  walk_at "dl"
end
theorem getT_put (T : List (Str × D)) (k k' : Str) (v : D) : getT (putT T k v) k' = if k = k' then some v else getT T k' := by
  unfold putT
  split
  · rename_i h
    induction T with
    | nil => cases h
    | cons p T ih =>
      obtain ⟨a, d⟩ := p
      rw [List.map_cons]
      unfold getT at ih ⊢
      by_cases ha : a = k
      · rw [if_pos ha, List.find?_cons, List.find?_cons]
        by_cases hk : k = k'
        · subst hk; subst ha; simp
        · have h1 : ¬ a = k' := fun z => hk (ha.symm.trans z)
          simp only [h1, decide_false, if_neg hk]
          by_cases h2 : (T.any fun q => decide (q.1 = k)) = true
          · have := ih h2; rw [if_neg hk] at this; exact this
          · have e : T.map (fun q => if q.1 = k then (q.1, v) else q) = T := by
              have h2' : ∀ q ∈ T, ¬ q.1 = k := fun q hq z => h2 (List.any_eq_true.mpr ⟨q, hq, decide_eq_true z⟩)
              conv => rhs; rw [← List.map_id T]
              exact List.map_congr_left fun q hq => if_neg (h2' q hq)
            rw [e]
      · rw [if_neg ha, List.find?_cons, List.find?_cons]
        have h2 : (T.any fun q => decide (q.1 = k)) = true := by
          rw [List.any_cons] at h
          simpa [ha] using h
        by_cases h1 : a = k'
        · have hk : ¬ k = k' := fun z => ha (h1.trans z.symm)
          simp only [h1, decide_true, if_neg hk]
        · simp only [h1, decide_false]
          exact ih h2
  · rename_i h
    unfold getT
    rw [List.find?_append]
    have h' : ∀ q ∈ T, ¬ q.1 = k := fun q hq z => h (List.any_eq_true.mpr ⟨q, hq, decide_eq_true z⟩)
    by_cases hk : k = k'
    · subst hk
      have : T.find? (fun q => decide (q.1 = k)) = none := List.find?_eq_none.mpr fun q hq => by simpa using h' q hq
      rw [this, if_pos rfl]
      simp
    · rw [if_neg hk]
      cases q : T.find? (fun q => decide (q.1 = k')) with
      | some p => rfl
      | none => simp [hk]
theorem putT_len (T : List (Str × D)) (k : Str) (v : D) : (putT T k v).length ≤ T.length + 1 := by
  unfold putT
  split
  · rw [List.length_map]; omega
  · rw [List.length_append]; exact Nat.le_refl _
theorem has_put {T : List (Str × D)} {b e c d : Nat} {ws : List Str} (hw : WD ws (e - b)) (h : (c = b ∧ d = e) ∨ Has T c d) : Has (putT T (pairS b e) (.lst (ws.map D.str))) c d := by
  by_cases hk : pairS b e = pairS c d
  · obtain ⟨rfl, rfl⟩ := pairS_eq.mp hk
    exact ⟨ws, by rw [getT_put, if_pos rfl], hw⟩
  · rcases h with ⟨rfl, rfl⟩ | ⟨v, h1, h2⟩
    · exact absurd rfl hk
    · exact ⟨v, by rw [getT_put, if_neg hk]; exact h1, h2⟩
theorem getk {cs : List CO} {x : CO} : (cs ++ [x])[cs.length]? = some x := by
  rw [List.getElem?_append_right (by omega)]; simp
theorem setk {cs : List CO} {x y : CO} : (cs ++ [x]).set cs.length y = cs ++ [y] := by
  rw [List.set_append_right _ _ (by omega)]; simp
section
variable {G : Addr} {cs0 : List CO} {zs : List Str} {d : D} {m : Nat}
theorem written_at {b e : Nat} {T : List (Str × D)} (h0 : ∃ C, cs0 = TG G :: C) (hz : ∀ z ∈ zs, z ∈ nms) (hbe : b < e) (hen : e ≤ zs.length) (hn : zs.length ≤ 24) (hT : ∀ c d, b ≤ c → c < d → d ≤ e → d - c < e - b → Has T c d) :
    ∃ r ws, p_written G [.dat (.lst (zs.map D.str)), .dat (.int b), .dat (.int e), .dat (.ref cs0.length)] (cs0 ++ [CO.obj 0 T]) = .ok (r, cs0 ++ [CO.obj 0 T]) ∧ (r = .new (.lst (ws.map D.str)) ∨ r = .dat (.lst (ws.map D.str))) ∧ WD ws (e - b) := by
  obtain ⟨C, rfl⟩ := h0
  have hj : ((TG G :: C) ++ [CO.obj 0 T])[(TG G :: C).length]? = some (.obj 0 T) := getk
  generalize (TG G :: C).length = j at *
  rw [List.cons_append] at *
  exact written_ok hz hbe hen hn hj hT
theorem inner (h0 : ∃ C, cs0 = TG G :: C) {T0 : List (Str × D)} {y4 : SV} (hz : ∀ z ∈ zs, z ∈ nms) (hn : zs.length ≤ 24) (m0 : 1 ≤ m) (m1 : m ≤ zs.length) (hT : ∀ c d, c < d → d ≤ zs.length → d - c < m → Has T0 c d) (hl : T0.length ≤ 30 * (m - 1)) :
    ∃ T x4, loopF (tgN 4) (bd_shortest_1 G) (rngL 0 (((zs.length - m + 1 : Nat) : Int)).toNat) [.dat d, .dat (.lst (zs.map D.str)), .dat (.ref cs0.length), .dat (.int (m : Nat)), y4] (cs0 ++ [.obj 0 T0]) = .nx [.dat d, .dat (.lst (zs.map D.str)), .dat (.ref cs0.length), .dat (.int (m : Nat)), x4] (cs0 ++ [.obj 0 T]) ∧ (∀ c d, c < d → d ≤ zs.length → d - c < m + 1 → Has T c d) ∧ T.length ≤ 30 * m := by
  obtain ⟨s2, c2, e2, T, x4, rfl, rfl, h1, h2, h3⟩ := loop_inv (t := tgN 4) (body := bd_shortest_1 G) (fun i sl c => ∃ T x4, c = cs0 ++ [.obj 0 T] ∧ sl = [.dat d, .dat (.lst (zs.map D.str)), .dat (.ref cs0.length), .dat (.int (m : Nat)), x4] ∧ (∀ c d, c < d → d ≤ zs.length → d - c < m → Has T c d) ∧ (∀ c, c < i → c + m ≤ zs.length → Has T c (c + m)) ∧ T.length ≤ 30 * (m - 1) + i) (rngL 0 (((zs.length - m + 1 : Nat) : Int)).toNat) 0 [.dat d, .dat (.lst (zs.map D.str)), .dat (.ref cs0.length), .dat (.int (m : Nat)), y4] (cs0 ++ [.obj 0 T0]) (by
    rintro i d' sl c _ hd ⟨T, x4, rfl, rfl, h1, h2, h3⟩
    obtain ⟨hi, rfl⟩ := rngL_get hd
    have hi : i < zs.length - m + 1 := by omega
    have ei : (0 : Int) + ((i - 0 : Nat) : Int) = ((i : Nat) : Int) := by omega
    rw [ei]
    have hj : (cs0 ++ [CO.obj 0 T])[cs0.length]? = some (.obj 0 T) := getk
    obtain ⟨r, ws, e1, hr, hw⟩ := written_at (G := G) (cs0 := cs0) (zs := zs) (b := i) (e := i + m) (T := T) h0 hz (by omega) (by omega) hn (fun c d _ hcd hde hlt => h1 c d hcd (by omega) (by omega))
    rw [show i + m - i = m by omega] at hw
    refine ⟨[.dat d, .dat (.lst (zs.map D.str)), .dat (.ref cs0.length), .dat (.int (m : Nat)), .dat (.int (i : Nat))], rfl, [.dat d, .dat (.lst (zs.map D.str)), .dat (.ref cs0.length), .dat (.int (m : Nat)), .dat (.int (i : Nat))], cs0 ++ [.obj 0 (putT T (pairS i (i + m)) (.lst (ws.map D.str)))], .inl ?_, _, _, rfl, rfl, (fun c d hcd hd hlt => has_put (by rw [show i + m - i = m by omega]; exact hw) (.inr (h1 c d hcd hd hlt))), (fun c hc hcm => has_put (by rw [show i + m - i = m by omega]; exact hw) (by
      rcases Nat.lt_or_ge c i with h | h
      · exact .inr (h2 c h hcm)
      · have : c = i := by omega
        subst this; exact .inl ⟨rfl, rfl⟩)), Nat.le_trans (putT_len _ _ _) (by omega)⟩
    rw [← setk (cs := cs0) (x := .obj 0 T) (y := .obj 0 (putT T (pairS i (i + m)) (.lst (ws.map D.str))))]
    rcases hr with rfl | rfl
    · exact b1_new (φ := p_written G) (by omega) e1 hj (key_nn _ _) (by omega)
    · exact b1_dat (φ := p_written G) (by omega) e1 hj (key_nn _ _) (by omega))
    ⟨T0, y4, rfl, rfl, hT, (fun c hc => by omega), by omega⟩
  rw [rngL_length] at h2 h3
  refine ⟨T, x4, e2, fun c d hcd hd hlt => ?_, by omega⟩
  rcases Nat.lt_or_ge (d - c) m with h | h
  · exact h1 c d hcd hd h
  · have : d = c + m := by omega
    subst this
    exact h2 c (by omega) hd
theorem outer (h0 : ∃ C, cs0 = TG G :: C) (hz : ∀ z ∈ zs, z ∈ nms) (hn : zs.length ≤ 24) : ∃ T x3 x4, loopF (tgN 3) (bd_shortest_2 G) (rngL 1 (((zs.length + 1 : Nat) : Int) - 1).toNat) [.dat d, .dat (.lst (zs.map D.str)), .dat (.ref cs0.length), .un, .un] (cs0 ++ [.obj 0 []]) = .nx [.dat d, .dat (.lst (zs.map D.str)), .dat (.ref cs0.length), x3, x4] (cs0 ++ [.obj 0 T]) ∧ (∀ c d, c < d → d ≤ zs.length → Has T c d) := by
  obtain ⟨s2, c2, e2, T, x3, x4, rfl, rfl, h1, h2⟩ := loop_inv (t := tgN 3) (body := bd_shortest_2 G) (fun i sl c => ∃ T x3 x4, c = cs0 ++ [.obj 0 T] ∧ sl = [.dat d, .dat (.lst (zs.map D.str)), .dat (.ref cs0.length), x3, x4] ∧ (∀ c d, c < d → d ≤ zs.length → d - c < i + 1 → Has T c d) ∧ T.length ≤ 30 * i) (rngL 1 (((zs.length + 1 : Nat) : Int) - 1).toNat) 0 [.dat d, .dat (.lst (zs.map D.str)), .dat (.ref cs0.length), .un, .un] (cs0 ++ [.obj 0 []]) (by
    rintro i d' sl c _ hd ⟨T, x3, x4, rfl, rfl, h1, h2⟩
    obtain ⟨hi, rfl⟩ := rngL_get hd
    have hi : i < zs.length := by omega
    have ei : (1 : Int) + ((i - 0 : Nat) : Int) = ((i + 1 : Nat) : Int) := by omega
    rw [ei]
    obtain ⟨T2, y4, e2, h3, h4⟩ := inner (G := G) (cs0 := cs0) (zs := zs) (d := d) (m := i + 1) (T0 := T) (y4 := x4) h0 hz hn (by omega) (by omega) h1 (by omega)
    exact ⟨[.dat d, .dat (.lst (zs.map D.str)), .dat (.ref cs0.length), .dat (.int ((i + 1 : Nat) : Int)), x4], rfl, _, _, .inl (f2_walk (n := ((zs.map D.str).length : Nat)) rfl (e := ((zs.length - (i + 1) + 1 : Nat) : Int)) (by rw [List.length_map]; omega) (by omega) (by omega) e2), T2, _, y4, rfl, rfl, h3, by omega⟩)
    ⟨[], .un, .un, rfl, rfl, (fun c d h1 h2 h3 => by omega), by decide⟩
  rw [rngL_length] at h1
  exact ⟨T, x3, x4, e2, fun c d h2 h3 => h1 c d h2 h3 (by omega)⟩
/-- words, joined -/
theorem join_ok {ws : List Str} {n : Nat} (h : WD ws n) (hn : n ≤ 1000) : ∃ s, gJoin " " (.lst (ws.map D.str)) = some (.dat (.str s)) := by
  have key : ∀ l : List Str, (∀ w ∈ l, w.length ≤ 30) → (l.map (·.length)).sum ≤ 30 * l.length := by
    intro l
    induction l with
    | nil => intro _; exact Nat.le_refl _
    | cons a l ih =>
      intro hl
      rw [List.map_cons, List.sum_cons, List.length_cons]
      have := ih fun w hw => hl w (List.mem_cons_of_mem _ hw)
      have := hl a List.mem_cons_self
      omega
  obtain ⟨-, h2, h3⟩ := h
  have := key ws h3
  have e1 : (" " : Str).length = 1 := by decide +kernel
  exact ⟨_, by rw [x_gJoin, strs_map]; exact x_joinO (by rw [e1]; omega)⟩
theorem short_ok (h00 : ∃ C, cs0 = TG G :: C) (hv : d.vw cs0 = some (.lst (zs.map D.str))) (hs : p_need_stitches [.dat d] cs0 = .ok (.dat .non, cs0)) (hz : ∀ z ∈ zs, z ∈ nms) (h0 : 0 < zs.length) (hn : zs.length ≤ 24) :
    ∃ s T, p_shortest G [.dat d] cs0 = .ok (.dat (.str s), cs0 ++ [.obj 0 T]) := by
  obtain ⟨T, x3, x4, e, h⟩ := outer (G := G) (cs0 := cs0) (zs := zs) (d := d) h00 hz hn
  obtain ⟨ws, g1, hw⟩ := h 0 zs.length h0 (Nat.le_refl _)
  obtain ⟨s, gj⟩ := join_ok hw (by omega)
  refine ⟨s, T, sh_run (φ := p_need_stitches) (n := ((zs.map D.str).length : Nat)) hs hv rfl (decide_eq_false (by rw [List.length_map]; omega)) (by cases zs with | nil => cases h0 | cons a l => rfl) (f1_walk (n := ((zs.map D.str).length : Nat)) rfl (m := ((zs.length + 1 : Nat) : Int)) (by rw [List.length_map]; omega) (by omega) (by omega) e) (j_walk (n := ((zs.map D.str).length : Nat)) getk rfl (by rw [List.length_map]; exact key_nn 0 _) g1 gj)⟩
theorem short_exc {c : Nat} {fs : List (Str × D)} {cs : List CO} (hs : p_need_stitches [.dat d] cs = .exc c fs cs) : p_shortest G [.dat d] cs = .exc c fs cs := sh_exc hs
theorem short_many {ds : List D} {cs : List CO} (hs : p_need_stitches [.dat d] cs = .ok (.dat .non, cs)) (hv : d.vw cs = some (.lst ds)) (hn : 24 < ds.length) : p_shortest G [.dat d] cs = .exc 2 [("value", d)] cs :=
  sh_many (n := (ds.length : Nat)) hs hv rfl (decide_eq_true (by omega))
end
end SL.L42

/-! K42e: the law, part by part. -/
namespace SL.L42
open PySem L2 Pk
section
variable {G P : Addr} {ns : List Int} {k : Nat} {cs c2 c3 : List CO} {x0 x1 x2 x3 x4 x5 x6 x7 x8 x9 x10 x11 x12 x13 : SV} {φ ψ σ : Phi} {gM : G2} {d e a c : Int} {o odd wh : D} {row sp M FL L1 L2 A B : List D} {b b1 b2 b3 b4 b5 : CO}
theorem row_walk (t : φ [.dat (.ref 2), .dat (.int 9)] cs = .ok (.dat (.int d), c2)) (g : gM (.lst [.str "k", .str "p2tog", .str "yo"]) (.int d) = some (.new (.lst row))) : (dOp gM (dLst (dCons (dCon (.str "k")) (dCons (dCon (.str "p2tog")) (dCons (dCon (.str "yo")) dNil)))) (dCall 2 φ [] (dCons (dVar 2) (dCons (dCon (.int 9)) dNil)))) [x0, x1, .dat (.ref 2), x3, x4, x5, x6, x7, x8, x9, x10, x11, x12, x13] cs = .ok (.new (.lst row), c2) := by
  walk_at "dl"
theorem at_walk (t : φ [.dat (.ref 2), .dat (.int 25)] cs = .ok (.dat (.int d), c2)) : (dCall 2 φ [] (dCons (dVar 2) (dCons (dCon (.int 25)) dNil))) [x0, x1, .dat (.ref 2), x3, x4, x5, x6, x7, x8, x9, x10, x11, x12, x13] cs = .ok (.dat (.int d), c2) := by
  walk_at "dl"
theorem odd_walk (t : φ [.dat (.ref 2), .dat (.int 9)] [TG G, TB P, b, .lst [.str "k"], .dct []] = .ok (.dat (.int d), cs)) (g : atI [D.non, .int 7, .str "K", .str "2k", .ref 3, .ref 4, .str "", .bl true, .str "("] d = some o) : (dOp gIx (dLst (dCons (dCon .non) (dCons (dCon (.int 7)) (dCons (dCon (.str "K")) (dCons (dCon (.str "2k")) (dCons (dCell (dLst (dCons (dCon (.str "k")) dNil))) (dCons (dCell dDict0) (dCons (dCon (.str "")) (dCons (dCon (.bl true)) (dCons (dCon (.str "(")) dNil)))))))))) (dCall 2 φ [] (dCons (dVar 2) (dCons (dCon (.int 9)) dNil)))) [x0, x1, .dat (.ref 2), x3, x4, x5, x6, x7, x8, x9, x10, x11, x12, x13] [TG G, TB P, b] = .ok (.dat o, cs) := by
  walk_at "dl"
theorem sp_walk (hA : cutD row none (some a) = A) (hB : cutD row (some a) none = B) (l1 : A.length + 1 ≤ 16777216) (l2 : A.length + 1 + B.length ≤ 16777216) (l3 : A.length + 1 + B.length + 1 ≤ 16777216) : (dOp gAdd (dOp gAdd (dOp gAdd (dSl (dVar 10) oNone (oSome (dVar 11))) (dLst (dCons (dVar 3) dNil))) (dSl (dVar 10) (oSome (dVar 11)) oNone)) (dLst (dCons (dCon .non) dNil))) [x0, x1, x2, .dat odd, x4, x5, x6, x7, x8, x9, .dat (.lst row), .dat (.int a), x12, x13] cs = .ok (.new (.lst (A ++ odd :: (B ++ [.non]))), cs) := by
  have g1 : gAdd (.lst A) (.lst [odd]) = some (.new (.lst (A ++ [odd]))) := s_gAddL l1
  have g2 : gAdd (.lst (A ++ [odd])) (.lst B) = some (.new (.lst (A ++ [odd] ++ B))) := s_gAddL (by rw [List.length_append]; exact l2)
  have g3 : gAdd (.lst (A ++ [odd] ++ B)) (.lst [.non]) = some (.new (.lst (A ++ [odd] ++ B ++ [.non]))) := s_gAddL (by rw [List.length_append, List.length_append]; exact l3)
  have e : A ++ odd :: (B ++ [.non]) = A ++ [odd] ++ B ++ [.non] := by simp
  rw [e]
  generalize A ++ [odd] = Q at *
  generalize Q ++ B = V at *
  generalize V ++ [D.non] = V2 at *
  clear l1 l2 l3 e
  walk_at "dl"
theorem many_walk (t : φ [.dat (.ref 2), .dat (.int 2)] cs = .ok (.dat (.int d), c2)) (g1 : gM (.lst [.str "k", .str "p"]) (.int 12) = some (.new (.lst A))) (g2 : gM (.lst [.str "k"]) (.int d) = some (.new (.lst B))) (ga : gAdd (.lst A) (.lst B) = some (.new (.lst M))) : (dOp gAdd (dOp gM (dLst (dCons (dCon (.str "k")) (dCons (dCon (.str "p")) dNil))) (dCon (.int 12))) (dOp gM (dLst (dCons (dCon (.str "k")) dNil)) (dCall 2 φ [] (dCons (dVar 2) (dCons (dCon (.int 2)) dNil))))) [x0, x1, .dat (.ref 2), x3, x4, x5, x6, x7, x8, x9, x10, x11, x12, x13] cs = .ok (.new (.lst M), c2) := by
  walk_at "dl"
theorem far_walk {sl : List SV} (g1 : gM (.lst [.str "k"]) (.int 1201) = some (.new (.lst A))) : (dOp gM (dLst (dCons (dCon (.str "k")) dNil)) (dCon (.int 1201))) sl cs = .ok (.new (.lst A), cs) := by
  walk_at "dl"
theorem whole_walk (t : φ [.dat (.ref 2), .dat (.int 6)] [TG G, TB P, b, .lst [.str "k"], .dct [], .lst M, .lst FL, .dct []] = .ok (.dat (.int d), cs)) (g : atI [D.non, .int 7, .str "k p", .ref 7, .bl true, .str "k"] d = some o) : (dOp gIx (dLst (dCons (dCon .non) (dCons (dCon (.int 7)) (dCons (dCon (.str "k p")) (dCons (dCell dDict0) (dCons (dCon (.bl true)) (dCons (dCon (.str "k")) dNil))))))) (dCall 2 φ [] (dCons (dVar 2) (dCons (dCon (.int 6)) dNil)))) [x0, x1, .dat (.ref 2), x3, x4, x5, x6, x7, x8, x9, x10, x11, x12, x13] [TG G, TB P, b, .lst [.str "k"], .dct [], .lst M, .lst FL] = .ok (.dat o, cs) := by
  walk_at "dl"
theorem c1_told {n : Int} (hj : cs[5]? = some (.lst M)) (hg : gLen [.lst M] = some (.dat (.int n))) (hn : decide (n = 24) = true) : (dLst (dCons (dTup (dCons (dVar 4) (dCons (dLst (dCons (dCon (.str "NoStitch")) (dCons (dVar 3) dNil))) dNil))) (dCons (dTup (dCons (dVar 5) (dCons (dIf (toT (dOp gEq (dCB gLen (dConsV (dVar 5) dNil)) (dCon (.int 24)))) (dLst (dCons (dCon (.str "told")) dNil)) (dLst (dCons (dCon (.str "NoStitches")) (dCons (dVar 5) dNil)))) dNil))) dNil))) [x0, x1, x2, .dat odd, .dat (.lst sp), .dat (.ref 5), x6, x7, x8, x9, x10, x11, x12, x13] cs = .ok (.new (.lst [.tup [.lst sp, .lst [.str "NoStitch", odd]], .tup [.ref 5, .lst [.str "told"]]]), cs) := by
  walk_at "dl"
theorem c1_no {n : Int} (hj : cs[5]? = some (.lst M)) (hg : gLen [.lst M] = some (.dat (.int n))) (hn : decide (n = 24) = false) : (dLst (dCons (dTup (dCons (dVar 4) (dCons (dLst (dCons (dCon (.str "NoStitch")) (dCons (dVar 3) dNil))) dNil))) (dCons (dTup (dCons (dVar 5) (dCons (dIf (toT (dOp gEq (dCB gLen (dConsV (dVar 5) dNil)) (dCon (.int 24)))) (dLst (dCons (dCon (.str "told")) dNil)) (dLst (dCons (dCon (.str "NoStitches")) (dCons (dVar 5) dNil)))) dNil))) dNil))) [x0, x1, x2, .dat odd, .dat (.lst sp), .dat (.ref 5), x6, x7, x8, x9, x10, x11, x12, x13] cs = .ok (.new (.lst [.tup [.lst sp, .lst [.str "NoStitch", odd]], .tup [.ref 5, .lst [.str "NoStitches", .ref 5]]]), cs) := by
  walk_at "dl"
theorem c2_walk (g1 : gM (.lst [.str "k"]) (.int 24) = some (.new (.lst A))) (ga : gAdd (.lst L1) (.lst [.tup [.ref 6, .lst [.str "NoStitches", .ref 6]], .tup [wh, .lst [.str "NoStitches", wh]], .tup [.lst A, .lst [.str "told"]]]) = some (.new (.lst L2))) : (dOp gAdd (dVar 8) (dLst (dCons (dTup (dCons (dVar 6) (dCons (dLst (dCons (dCon (.str "NoStitches")) (dCons (dVar 6) dNil))) dNil))) (dCons (dTup (dCons (dVar 7) (dCons (dLst (dCons (dCon (.str "NoStitches")) (dCons (dVar 7) dNil))) dNil))) (dCons (dTup (dCons (dOp gM (dLst (dCons (dCon (.str "k")) dNil)) (dCon (.int 24))) (dCons (dLst (dCons (dCon (.str "told")) dNil)) dNil))) dNil))))) [x0, x1, x2, x3, x4, x5, .dat (.ref 6), .dat wh, .dat (.lst L1), x9, x10, x11, x12, x13] cs = .ok (.new (.lst L2), cs) := by
  walk_at "dl"
theorem more_walk (g1 : gM (.lst [.str "yo"]) (.int 25) = some (.new (.lst A))) (ga : gAdd (.lst A) (.lst [odd]) = some (.new (.lst B))) : (dOp gAdd (dOp gM (dLst (dCons (dCon (.str "yo")) dNil)) (dCon (.int 25))) (dLst (dCons (dVar 3) dNil))) [x0, x1, x2, .dat odd, x4, x5, x6, x7, x8, x9, x10, x11, x12, x13] cs = .ok (.new (.lst B), cs) := by
  walk_at "dl"
theorem partA {rowF atF oddF spF manyF farF wholeF c1F c2F moreF : FE} {LOOP LAST : FS} {r : Flw} (e1 : ψ [.scr ns, .dat (.int k)] [TG G, TB P] = .ok (.dat (.int c), [TG G, TB P])) (e2 : φ [.dat (.int c)] [TG G, TB P] = .ok (.new b, [TG G, TB P]))
    (e3 : rowF [.scr ns, .dat (.int k), .dat (.ref 2), x3, x4, x5, x6, x7, x8, x9, x10, x11, x12, x13] [TG G, TB P, b] = .ok (.new (.lst row), [TG G, TB P, b1])) (e4 : atF [.scr ns, .dat (.int k), .dat (.ref 2), x3, x4, x5, x6, x7, x8, x9, x10, x11, x12, x13] [TG G, TB P, b1] = .ok (.dat (.int a), [TG G, TB P, b2]))
    (e5 : oddF [.scr ns, .dat (.int k), .dat (.ref 2), x3, x4, x5, x6, x7, x8, x9, .dat (.lst row), .dat (.int a), x12, x13] [TG G, TB P, b2] = .ok (.dat odd, [TG G, TB P, b3, .lst [.str "k"], .dct []])) (e6 : spF [.scr ns, .dat (.int k), .dat (.ref 2), .dat odd, x4, x5, x6, x7, x8, x9, .dat (.lst row), .dat (.int a), x12, x13] [TG G, TB P, b3, .lst [.str "k"], .dct []] = .ok (.new (.lst sp), [TG G, TB P, b3, .lst [.str "k"], .dct []])) (e7 : manyF [.scr ns, .dat (.int k), .dat (.ref 2), .dat odd, .dat (.lst sp), x5, x6, x7, x8, x9, .dat (.lst row), .dat (.int a), x12, x13] [TG G, TB P, b3, .lst [.str "k"], .dct []] = .ok (.new (.lst M), [TG G, TB P, b4, .lst [.str "k"], .dct []]))
    (e8 : farF [.scr ns, .dat (.int k), .dat (.ref 2), .dat odd, .dat (.lst sp), .dat (.ref 5), x6, x7, x8, x9, .dat (.lst row), .dat (.int a), x12, x13] [TG G, TB P, b4, .lst [.str "k"], .dct [], .lst M] = .ok (.new (.lst FL), [TG G, TB P, b4, .lst [.str "k"], .dct [], .lst M])) (e9 : wholeF [.scr ns, .dat (.int k), .dat (.ref 2), .dat odd, .dat (.lst sp), .dat (.ref 5), .dat (.ref 6), x7, x8, x9, .dat (.lst row), .dat (.int a), x12, x13] [TG G, TB P, b4, .lst [.str "k"], .dct [], .lst M, .lst FL] = .ok (.dat wh, [TG G, TB P, b5, .lst [.str "k"], .dct [], .lst M, .lst FL, .dct []]))
    (e10 : c1F [.scr ns, .dat (.int k), .dat (.ref 2), .dat odd, .dat (.lst sp), .dat (.ref 5), .dat (.ref 6), .dat wh, x8, x9, .dat (.lst row), .dat (.int a), x12, x13] [TG G, TB P, b5, .lst [.str "k"], .dct [], .lst M, .lst FL, .dct []] = .ok (.new (.lst L1), [TG G, TB P, b5, .lst [.str "k"], .dct [], .lst M, .lst FL, .dct []])) (e11 : c2F [.scr ns, .dat (.int k), .dat (.ref 2), .dat odd, .dat (.lst sp), .dat (.ref 5), .dat (.ref 6), .dat wh, .dat (.lst L1), x9, .dat (.lst row), .dat (.int a), x12, x13] [TG G, TB P, b5, .lst [.str "k"], .dct [], .lst M, .lst FL, .dct []] = .ok (.new (.lst L2), [TG G, TB P, b5, .lst [.str "k"], .dct [], .lst M, .lst FL, .dct []]))
    (h : (dSeq LOOP (dSeq (dAsg 9 moreF) (dFz 9 LAST))) [.scr ns, .dat (.int k), .dat (.ref 2), .dat odd, .dat (.lst sp), .dat (.ref 5), .dat (.ref 6), .dat wh, .dat (.lst L2), x9, .dat (.lst row), .dat (.int a), x12, x13] [TG G, TB P, b5, .lst [.str "k"], .dct [], .lst M, .lst FL, .dct []] = r) :
    (dSeq (dAsg 2 (dCall 1 φ [] (dCons (dCall 2 ψ [] (dCons (dVar 0) (dCons (dVar 1) dNil))) dNil))) (dPin 2 (dSeq (dPar 10 11 (dCons rowF (dCons atF dNil))) (dSeq (dAsg 3 oddF) (dSeq (dAsg 4 spF) (dFz 4 (dSeq (dAsg 5 manyF) (dPin 5 (dSeq (dAsg 6 farF) (dPin 6 (dSeq (dAsg 7 wholeF) (dSeq (dAsg 8 c1F) (dFz 8 (dSeq (dAsg 8 c2F) (dFz 8 (dSeq LOOP (dSeq (dAsg 9 moreF) (dFz 9 LAST)))))))))))))))))) [.scr ns, .dat (.int k), x2, x3, x4, x5, x6, x7, x8, x9, x10, x11, x12, x13] [TG G, TB P] = r := by
  generalize dSeq LOOP (dSeq (dAsg 9 moreF) (dFz 9 LAST)) = LR at *
  walk_at "dl"
theorem partB {moreF ct : FE} {LOOP : FS} {y12 y13 : SV} {ml : List D} (hl : LOOP [x0, x1, x2, .dat odd, x4, x5, x6, x7, x8, x9, x10, x11, x12, x13] cs = .nx [x0, x1, x2, .dat odd, x4, x5, x6, x7, x8, x9, x10, x11, y12, y13] c2) (e1 : moreF [x0, x1, x2, .dat odd, x4, x5, x6, x7, x8, x9, x10, x11, y12, y13] c2 = .ok (.new (.lst ml), c2))
    (e2 : ct [x0, x1, x2, .dat odd, x4, x5, x6, x7, x8, .dat (.lst ml), x10, x11, y12, y13] c2 = .ok (.new (.lst [.str "NoStitch", odd]), c3)) (e3 : σ [.dat (.lst [.str "NoStitch", odd]), .dat (.lst [.str "NoStitch", odd])] c3 = .ok (.dat (.bl true), c3)) :
    (dSeq LOOP (dSeq (dAsg 9 moreF) (dFz 9 (dIfS (tNot' (toTru (dCall 2 σ [] (dCons ct (dCons (dLst (dCons (dCon (.str "NoStitch")) (dCons (dVar 3) dNil))) dNil))))) (dRet (dCon (.bl false))) dNx)))) [x0, x1, x2, .dat odd, x4, x5, x6, x7, x8, x9, x10, x11, x12, x13] cs = .nx [x0, x1, x2, .dat odd, x4, x5, x6, x7, x8, .dat (.lst ml), x10, x11, y12, y13] c3 := by
  walk_at "dl"
theorem loop_walk {B : FS} {ds : List D} {sl : List SV} {r : Flw} (h8 : sl[8]? = some (.dat (.lst ds))) (h : loopF (tgT [12, 13]) B ds sl cs = r) : dFor (itemsOf (dVar 8)) (tgT [12, 13]) B sl cs = r := by
  walk_at "dl"
theorem turn_walk {ct : FE} {sl : List SV} {du : List D} (h13 : sl[13]? = some (.dat (.lst du))) (e1 : ct sl cs = .ok (.new (.lst du), c2)) (e2 : σ [.dat (.lst du), .dat (.lst du)] c2 = .ok (.dat (.bl true), c2)) : (dIfS (tNot' (toTru (dCall 2 σ [] (dCons ct (dCons (dVar 13) dNil))))) (dRet (dCon (.bl false))) dNx) sl cs = .nx sl c2 := by
  walk_at "dl"
end
/-! ### what is caught -/
section
variable {G P : Addr} {C C' : List CO} {sl : List SV} {d y : D} {s : Str}
theorem ct1_t (h : sl[12]? = some (.dat d)) (e : p_shortest G [.dat d] (TG G :: TB P :: C) = .ok (.dat (.str s), TG G :: TB P :: C')) : ct_law_1 G P sl (TG G :: TB P :: C) = .ok (.new (.lst [.str "told"]), TG G :: TB P :: C') := by
  unfold ct_law_1
  generalize p_shortest G = φ at *
  walk_at "dl"
theorem ct1_1 (h : sl[12]? = some (.dat d)) (e : p_shortest G [.dat d] (TG G :: TB P :: C) = .exc 1 [("value", y)] (TG G :: TB P :: C)) : ct_law_1 G P sl (TG G :: TB P :: C) = .ok (.new (.lst [.str "NoStitch", y]), TG G :: TB P :: C) := by
  unfold ct_law_1
  generalize p_shortest G = φ at *
  walk_at "dl"
theorem ct1_2 (h : sl[12]? = some (.dat d)) (e : p_shortest G [.dat d] (TG G :: TB P :: C) = .exc 2 [("value", y)] (TG G :: TB P :: C)) : ct_law_1 G P sl (TG G :: TB P :: C) = .ok (.new (.lst [.str "NoStitches", y]), TG G :: TB P :: C) := by
  unfold ct_law_1
  generalize p_shortest G = φ at *
  walk_at "dl"
theorem ct2_1 (h : sl[9]? = some (.dat d)) (e : p_shortest G [.dat d] (TG G :: TB P :: C) = .exc 1 [("value", y)] (TG G :: TB P :: C)) : ct_law_2 G P sl (TG G :: TB P :: C) = .ok (.new (.lst [.str "NoStitch", y]), TG G :: TB P :: C) := by
  unfold ct_law_2
  generalize p_shortest G = φ at *
  walk_at "dl"
end
/-! ### a cell's list of stitches -/
theorem ns_walkS {B : FS} {φ : Phi} {k : Nat} {ds : List D} {n : Int} {y : SV} {cs : List CO} (hk : cs[k]? = some (.lst ds)) (hg : gLen [.lst ds] = some (.dat (.int n))) (hn : decide (1200 < n) = false)
    (e : loopS (tgN 1) B (.cel k) 100000 0 [.dat (.ref k), .un] cs = .nx [.dat (.ref k), y] cs) :
    runB 1 (dSeq (dIfS (tOr' (tNot' (toTru (dIsi2 "list" "tuple" (dVar 0)))) (toT (dOp gGt (dCB gLen (dConsV (dVar 0) dNil)) (dCon (.int 1200))))) (dRaise 2 "value" (dVar 0)) dNx) (dFor (itemsOf (dVar 0)) (tgN 1) B)) [.dat (.ref k)] cs = .ok (.dat .non, cs) := by
  have hi : kItems (.dat (.ref k), cs) = .ok (.cel k, cs) := s_items_r (ds := ds) (by rw [hk]; rfl)
  walk_at "dl"
theorem ns_cell {k : Nat} {zs : List Str} {cs : List CO} (hk : cs[k]? = some (.lst (zs.map D.str))) (hz : ∀ z ∈ zs, z ∈ nms) (hl : zs.length ≤ 1200) : p_need_stitches [.dat (.ref k)] cs = .ok (.dat .non, cs) := by
  obtain ⟨s2, c2, e2, rfl, y, rfl⟩ := loop_invS (t := tgN 1) (body := bd_need_stitches_1) (k := k) (ds := zs.map D.str) (fun _ sl c => c = cs ∧ ∃ y, sl = [.dat (.ref k), y]) (by rintro i sl c ⟨rfl, _⟩; exact hk) (by
    rintro i d sl c hd ⟨rfl, y, rfl⟩
    obtain ⟨z, hz2, rfl⟩ := List.mem_map.mp (List.mem_of_getElem? hd)
    have e := need_stitch_ok (d := .str z) (x := .str z) (cs := c) rfl rfl (decide_eq_true (hz z hz2))
    exact ⟨[.dat (.ref k), .dat (.str z)], rfl, _, _, .inl (ns_one (y := y) (x := .non) e), rfl, _, rfl⟩)
    (zs.map D.str).length 0 100000 [.dat (.ref k), .un] cs rfl (Nat.zero_le _) (by rw [List.length_map]; omega) ⟨rfl, .un, rfl⟩
  exact ns_walkS (φ := p_need_stitch) (n := ((zs.map D.str).length : Nat)) hk rfl (decide_eq_false (by rw [List.length_map]; omega)) e2
end SL.L42

/-! K42f: the law's mirror tells True. -/
namespace SL.L42
open PySem L2 Pk
/-! ### values -/
theorem nms_sm {z : Str} (h : z ∈ nms) : (D.str z).sm = true ∧ z.length ≤ 5 := all_nms (P := fun z => (D.str z).sm = true ∧ z.length ≤ 5) (by decide +kernel) h
theorem strs_sm : ∀ zs : List Str, (∀ z ∈ zs, (D.str z).sm = true ∧ z.length ≤ 5) → smAll (zs.map D.str) = true ∧ wtAll (zs.map D.str) ≤ 10 * zs.length ∧ depAll (zs.map D.str) = 0
  | [], _ => ⟨rfl, Nat.zero_le _, rfl⟩
  | z :: zs, h => by
    obtain ⟨a, b, c⟩ := strs_sm zs fun w hw => h w (List.mem_cons_of_mem _ hw)
    obtain ⟨s1, s2⟩ := h z List.mem_cons_self
    refine ⟨?_, ?_, ?_⟩
    · show ((D.str z).sm && smAll (zs.map D.str)) = true
      rw [s1, a]; rfl
    · show (D.str z).wt + 1 + wtAll (zs.map D.str) ≤ _
      have : (D.str z).wt ≤ 5 := s2
      rw [List.length_cons]; omega
    · show max 0 (depAll (zs.map D.str)) = 0
      rw [c]; rfl
theorem pure_strs : ∀ zs : List Str, pureAll (zs.map D.str) = true
  | [] => rfl
  | z :: zs => pure_strs zs
theorem same_strs {cs : List CO} {i : Nat} {zs : List Str} (h : cs[i]? = some (.lst (zs.map D.str))) (hz : ∀ z ∈ zs, z ∈ nms) (hl : zs.length ≤ 2000) : SameOk cs (.ref i) := by
  have m : ∀ z ∈ zs ++ [more], (D.str z).sm = true ∧ z.length ≤ 5 := by
    intro z hz2
    rcases List.mem_append.mp hz2 with hz2 | hz2
    · exact nms_sm (hz z hz2)
    · rw [List.mem_singleton.mp hz2]; exact ⟨by decide +kernel, by decide +kernel⟩
  obtain ⟨a, b, c⟩ := strs_sm _ m
  have e : (zs ++ [more]).map D.str = zs.map D.str ++ [.str more] := List.map_append
  rw [e] at a b c
  have l : (zs ++ [more]).length = zs.length + 1 := by rw [List.length_append]; rfl
  rw [l] at b
  have d0 : depAll (zs.map D.str) = 0 := (strs_sm _ fun z hz => m z (List.mem_append_left _ hz)).2.2
  exact .l h (pure_strs _) (by rw [d0]; decide) (reprOk_of (d := D.lst (zs.map D.str ++ [D.str more])) (show smAll _ = true from a) (by show depAll _ + 1 ≤ 60; rw [c]; decide) (by show _ ≤ 1048576; simp only [D.wt]; omega)) (by rw [List.length_map]; omega)
structure OddP (cs : List CO) (o : D) : Prop where
  ex : ∃ x, o.vw cs = some x ∧ kd x = true ∧ isSt x = false
  same : SameOk cs o
theorem rf {cs : List CO} {i : Nat} {c : CO} {y : D} (h : cs[i]? = some c) (v : c.vw = some y) : D.vw cs (.ref i) = some y := by show cs[_]?.bind CO.vw = _; rw [h]; exact v
def OddF (o : D) : Prop := ∀ cs : List CO, cs[3]? = some (.lst [.str "k"]) → cs[4]? = some (.dct []) → OddP cs o
theorem odd_at {d : Int} (h0 : 0 ≤ d) (h1 : d < 9) : ∃ o, atI [D.non, .int 7, .str "K", .str "2k", .ref 3, .ref 4, .str "", .bl true, .str "("] d = some o ∧ OddF o := by
  refine atI_all (P := OddF) ?_ h0 (by simpa using h1)
  simp only [List.mem_cons, List.not_mem_nil, or_false, forall_eq_or_imp, forall_eq]
  exact ⟨fun cs _ _ => ⟨⟨_, rfl, rfl, rfl⟩, .non⟩, fun cs _ _ => ⟨⟨_, rfl, rfl, rfl⟩, .int (by decide +kernel)⟩, fun cs _ _ => ⟨⟨_, rfl, rfl, by decide +kernel⟩, .str (by decide +kernel)⟩, fun cs _ _ => ⟨⟨_, rfl, rfl, by decide +kernel⟩, .str (by decide +kernel)⟩,
    fun cs hi _ => ⟨⟨_, rf hi rfl, rfl, rfl⟩, .l hi rfl (by decide) (by decide +kernel) (by decide)⟩, fun cs _ hj => ⟨⟨_, rf hj rfl, rfl, rfl⟩, .d (ps := [(.str Pk.more, .int 7)]) hj rfl rfl (by decide +kernel) (by decide) (by simp)⟩, fun cs _ _ => ⟨⟨_, rfl, rfl, by decide +kernel⟩, .str (by decide +kernel)⟩,
    fun cs _ _ => ⟨⟨_, rfl, rfl, rfl⟩, .bl _⟩, fun cs _ _ => ⟨⟨_, rfl, rfl, by decide +kernel⟩, .str (by decide +kernel)⟩⟩
structure WhP (cs : List CO) (o : D) : Prop where
  ex : ∃ x, o.vw cs = some x ∧ kd x = true ∧ noSeq x = true
  same : SameOk cs o
def WhF (o : D) : Prop := ∀ cs : List CO, cs[7]? = some (.dct []) → WhP cs o
theorem wh_at {d : Int} (h0 : 0 ≤ d) (h1 : d < 6) : ∃ o, atI [D.non, .int 7, .str "k p", .ref 7, .bl true, .str "k"] d = some o ∧ WhF o := by
  refine atI_all (P := WhF) ?_ h0 (by simpa using h1)
  simp only [List.mem_cons, List.not_mem_nil, or_false, forall_eq_or_imp, forall_eq]
  exact ⟨fun cs _ => ⟨⟨_, rfl, rfl, rfl⟩, .non⟩, fun cs _ => ⟨⟨_, rfl, rfl, rfl⟩, .int (by decide +kernel)⟩, fun cs _ => ⟨⟨_, rfl, rfl, rfl⟩, .str (by decide +kernel)⟩,
    fun cs hj => ⟨⟨_, rf hj rfl, rfl, rfl⟩, .d (ps := [(.str Pk.more, .int 7)]) hj rfl rfl (by decide +kernel) (by decide) (by simp)⟩, fun cs _ => ⟨⟨_, rfl, rfl, rfl⟩, .bl _⟩, fun cs _ => ⟨⟨_, rfl, rfl, rfl⟩, .str (by decide +kernel)⟩⟩
/-! ### lists at times -/
def reps (ws : List Str) (n : Int) : List Str := (List.replicate n.toNat ws).flatten
theorem reps_mem {ws : List Str} {n : Int} (h : ∀ w ∈ ws, w ∈ nms) : ∀ z ∈ reps ws n, z ∈ nms := by
  intro z hz
  obtain ⟨l, hl, hz2⟩ := List.mem_flatten.mp hz
  obtain ⟨-, e⟩ := List.mem_replicate.mp hl
  rw [e] at hz2
  exact h z hz2
theorem reps_len (ws : List Str) (n : Int) : (reps ws n).length = n.toNat * ws.length := by
  unfold reps
  rw [List.length_flatten, List.map_replicate, List.sum_replicate_nat]
theorem reps_mul {ws : List Str} {n : Int} (h0 : 0 ≤ n) (h1 : n ≤ 2000) (hw : ws.length ≤ 10) : gMul (.lst (ws.map D.str)) (.int n) = some (.new (.lst ((reps ws n).map D.str))) := by
  have e : (ws.map D.str).length * n.toNat ≤ 10 * 2000 := Nat.mul_le_mul (by rw [List.length_map]; exact hw) (by omega)
  rw [x_gMulL (by omega) (by omega) (by omega)]
  unfold reps
  rw [List.map_flatten, List.map_replicate]
/-! ### cases -/
section
variable {G P : Addr} {b : CO} {Mz Fz : List Str} {ns : List Int} {k : Nat} {x0 x1 x2 x3 x4 x5 x6 x7 x8 x9 x10 x11 x12 x13 : SV}
abbrev base (G P : Addr) (b : CO) (Mz Fz : List Str) (E : List CO) : List CO := TG G :: TB P :: b :: .lst [.str "k"] :: .dct [] :: .lst (Mz.map D.str) :: .lst (Fz.map D.str) :: .dct [] :: E
def CaseOk (G P : Addr) (b : CO) (Mz Fz : List Str) (v : D) (due : List D) : Prop := ∀ E : List CO, ∃ E', (∀ sl : List SV, sl[12]? = some (.dat v) → ct_law_1 G P sl (base G P b Mz Fz E) = .ok (.new (.lst due), base G P b Mz Fz E')) ∧ p__law_same [.dat (.lst due), .dat (.lst due)] (base G P b Mz Fz E') = .ok (.dat (.bl true), base G P b Mz Fz E')
theorem case_t {v : D} {zs : List Str} (hv : ∀ E, v.vw (base G P b Mz Fz E) = some (.lst (zs.map D.str))) (hs : ∀ E, p_need_stitches [.dat v] (base G P b Mz Fz E) = .ok (.dat .non, base G P b Mz Fz E)) (hz : ∀ z ∈ zs, z ∈ nms) (h0 : 0 < zs.length) (hn : zs.length ≤ 24) : CaseOk G P b Mz Fz v [.str "told"] := by
  intro E
  obtain ⟨s, T, e⟩ := short_ok (G := G) (cs0 := base G P b Mz Fz E) ⟨_, rfl⟩ (hv E) (hs E) hz h0 hn
  exact ⟨E ++ [.obj 0 T], fun sl h => ct1_t h e, same_told⟩
theorem case_1 {v y : D} (h : ∀ E, p_need_stitches [.dat v] (base G P b Mz Fz E) = .exc 1 [("value", y)] (base G P b Mz Fz E)) (hs : ∀ E, SameOk (base G P b Mz Fz E) y) : CaseOk G P b Mz Fz v [.str "NoStitch", y] := by
  intro E
  exact ⟨E, fun sl h12 => ct1_1 h12 (short_exc (h E)), same_ok (hs E)⟩
theorem case_2 {v y : D} (h : ∀ E, p_shortest G [.dat v] (base G P b Mz Fz E) = .exc 2 [("value", y)] (base G P b Mz Fz E)) (hs : ∀ E, SameOk (base G P b Mz Fz E) y) : CaseOk G P b Mz Fz v [.str "NoStitches", y] := by
  intro E
  exact ⟨E, fun sl h12 => ct1_2 h12 (h E), same_ok (hs E)⟩
theorem loopC : ∀ (ds : List D), (∀ d ∈ ds, ∃ v due, d = .tup [v, .lst due] ∧ CaseOk G P b Mz Fz v due) → ∀ (E : List CO) (x12 x13 : SV), ∃ E' y12 y13, loopF (tgT [12, 13]) (bd_law_1 G P) ds [x0, x1, x2, x3, x4, x5, x6, x7, x8, x9, x10, x11, x12, x13] (base G P b Mz Fz E) = .nx [x0, x1, x2, x3, x4, x5, x6, x7, x8, x9, x10, x11, y12, y13] (base G P b Mz Fz E')
  | [], _, E, x12, x13 => ⟨E, x12, x13, rfl⟩
  | d :: ds, h, E, x12, x13 => by
    obtain ⟨v, due, rfl, hc⟩ := h d List.mem_cons_self
    obtain ⟨E1, e1, e2⟩ := hc E
    obtain ⟨E2, y12, y13, e3⟩ := loopC ds (fun a ha => h a (List.mem_cons_of_mem _ ha)) E1 (.dat v) (.dat (.lst due))
    refine ⟨E2, y12, y13, (loopF_nx (s1 := [x0, x1, x2, x3, x4, x5, x6, x7, x8, x9, x10, x11, .dat v, .dat (.lst due)]) rfl (turn_walk (σ := p__law_same) (du := due) rfl (e1 _ rfl) e2)).trans e3⟩
theorem k_nm : ∀ w ∈ [("k" : Str)], w ∈ nms := by decide +kernel
theorem turn : OkL [TG G, TB P] ns 13 (bd_law_2 G P [.scr ns, .dat (.int k), x2, x3, x4, x5, x6, x7, x8, x9, x10, x11, x12, x13] [TG G, TB P]) := by
  obtain ⟨c, e1⟩ := cl (ns := ns) (i := k) (cs := [TG G, TB P])
  obtain ⟨b, e2, hb⟩ := lbox_ok c [TG G, TB P]
  obtain ⟨d1, b1, t1, p1, q1, hb⟩ := tk (T := TG G) (U := TB P) (cs := []) (m := 9) hb (by decide) (by decide) (by decide)
  obtain ⟨a, b2, t2, p2, q2, hb⟩ := tk (T := TG G) (U := TB P) (cs := []) (m := 25) hb (by decide) (by decide) (by decide)
  obtain ⟨d3, b3, t3, p3, q3, hb⟩ := tk (T := TG G) (U := TB P) (cs := [.lst [.str "k"], .dct []]) (m := 9) hb (by decide) (by decide) (by decide)
  obtain ⟨odd, go, ho⟩ := odd_at p3 q3
  obtain ⟨d4, b4, t4, p4, q4, hb⟩ := tk (T := TG G) (U := TB P) (cs := [.lst [.str "k"], .dct []]) (m := 2) hb (by decide) (by decide) (by decide)
  have hz : ∀ z ∈ reps ["k", "p2tog", "yo"] d1, z ∈ nms := reps_mem (by decide +kernel)
  have lz : (reps ["k", "p2tog", "yo"] d1).length ≤ 24 := by rw [reps_len]; show d1.toNat * 3 ≤ 24; omega
  have gr : gMul (.lst [.str "k", .str "p2tog", .str "yo"]) (.int d1) = some (.new (.lst ((reps ["k", "p2tog", "yo"] d1).map D.str))) := reps_mul (ws := ["k", "p2tog", "yo"]) p1 (by omega) (by decide)
  generalize reps ["k", "p2tog", "yo"] d1 = zs at *
  have hA : cutD (zs.map D.str) none (some a) = (zs.take a.toNat).map D.str := by rw [x_cut_to p2, List.map_take]
  have hB : cutD (zs.map D.str) (some a) none = (zs.drop a.toNat).map D.str := by rw [x_cut_from p2, List.map_drop]
  have la1 : ((zs.take a.toNat).map D.str).length ≤ 24 := by rw [List.length_map, List.length_take]; omega
  have lb1 : ((zs.drop a.toNat).map D.str).length ≤ 24 := by rw [List.length_map, List.length_drop]; omega
  have g1 : gMul (.lst [.str "k", .str "p"]) (.int 12) = some (.new (.lst ((reps ["k", "p"] 12).map D.str))) := reps_mul (ws := ["k", "p"]) (by decide) (by decide) (by decide)
  have g2 : gMul (.lst [.str "k"]) (.int d4) = some (.new (.lst ((reps ["k"] d4).map D.str))) := reps_mul (ws := ["k"]) p4 (by omega) (by decide)
  have ga : gAdd (.lst ((reps ["k", "p"] 12).map D.str)) (.lst ((reps ["k"] d4).map D.str)) = some (.new (.lst ((reps ["k", "p"] 12 ++ reps ["k"] d4).map D.str))) := add_strs (by rw [reps_len, reps_len]; show 24 + d4.toNat * 1 ≤ 1000; omega)
  have lM : (reps ["k", "p"] 12 ++ reps ["k"] d4).length = 24 + d4.toNat := by rw [List.length_append, reps_len, reps_len]; show 24 + d4.toNat * 1 = _; omega
  have hM : ∀ z ∈ reps ["k", "p"] 12 ++ reps ["k"] d4, z ∈ nms := fun z h => by
    rcases List.mem_append.mp h with h | h
    · exact reps_mem (by decide +kernel) z h
    · exact reps_mem k_nm z h
  generalize hA1 : reps ["k", "p"] 12 = A1 at *
  generalize reps ["k"] d4 = B1 at *
  generalize A1 ++ B1 = Mz at *
  have g3 : gMul (.lst [.str "k"]) (.int 1201) = some (.new (.lst ((reps ["k"] 1201).map D.str))) := reps_mul (ws := ["k"]) (by decide) (by decide) (by decide)
  have lF : (reps ["k"] 1201).length = 1201 := by rw [reps_len]; rfl
  have hF : ∀ z ∈ reps ["k"] 1201, z ∈ nms := reps_mem k_nm
  generalize reps ["k"] 1201 = Fz at *
  have g4 : gMul (.lst [.str "k"]) (.int 24) = some (.new (.lst ((reps ["k"] 24).map D.str))) := reps_mul (ws := ["k"]) (by decide) (by decide) (by decide)
  have l24 : (reps ["k"] 24).length = 24 := by rw [reps_len]; rfl
  have h24 : ∀ z ∈ reps ["k"] 24, z ∈ nms := reps_mem k_nm
  generalize reps ["k"] 24 = K24 at *
  have g5 : gMul (.lst [.str "yo"]) (.int 25) = some (.new (.lst ((reps ["yo"] 25).map D.str))) := reps_mul (ws := ["yo"]) (by decide) (by decide) (by decide)
  have l25 : (reps ["yo"] 25).length = 25 := by rw [reps_len]; rfl
  have h25 : ∀ z ∈ reps ["yo"] 25, z ∈ nms := reps_mem (by decide +kernel)
  generalize reps ["yo"] 25 = Y25 at *
  obtain ⟨d5, b5, t5, p5, q5, hb⟩ := tk (T := TG G) (U := TB P) (cs := [.lst [.str "k"], .dct [], .lst (Mz.map D.str), .lst (Fz.map D.str), .dct []]) (m := 6) hb (by decide) (by decide) (by decide)
  obtain ⟨wh, gw, hwh⟩ := wh_at p5 q5
  have hodd := fun E => ho (base G P b5 Mz Fz E) rfl rfl
  have hw := fun E => hwh (base G P b5 Mz Fz E) rfl
  -- the cases
  have cs1 : CaseOk G P b5 Mz Fz (.lst ((zs.take a.toNat).map D.str ++ odd :: ((zs.drop a.toNat).map D.str ++ [.non]))) [.str "NoStitch", odd] := by
    refine case_1 (fun E => ?_) fun E => (hodd E).same
    obtain ⟨x, v1, v2, v3⟩ := (hodd E).ex
    exact ns_bad (fun z h => hz z (List.mem_of_mem_take h)) v1 v2 v3 (by
      have e1 : ((zs.drop a.toNat).map D.str ++ [D.non]).length = ((zs.drop a.toNat).map D.str).length + 1 := by rw [List.length_append]; rfl
      rw [e1]
      rw [List.length_map] at la1
      omega)
  have cs3 : CaseOk G P b5 Mz Fz (.ref 6) [.str "NoStitches", .ref 6] := by
    refine case_2 (fun E => short_exc ?_) fun E => same_strs (zs := Fz) rfl hF (by omega)
    exact ns_no (x := .lst (Fz.map D.str)) rfl rfl (by show decide (1200 < ((Fz.map D.str).length : Int)) = true; rw [List.length_map, lF]; rfl)
  have cs4 : CaseOk G P b5 Mz Fz wh [.str "NoStitches", wh] := by
    refine case_2 (fun E => short_exc ?_) fun E => (hw E).same
    obtain ⟨x, v1, v2, v3⟩ := (hw E).ex
    exact ns_no v1 v2 v3
  have cs5 : CaseOk G P b5 Mz Fz (.lst (K24.map D.str)) [.str "told"] := case_t (zs := K24) (fun E => rfl) (fun E => ns_l h24 (by omega)) h24 (by omega) (by omega)
  obtain ⟨due2, hc1, cs2⟩ : ∃ due2, (∀ (x0 x1 x2 x6 x7 x8 x9 x10 x11 x12 x13 : SV), (dLst (dCons (dTup (dCons (dVar 4) (dCons (dLst (dCons (dCon (.str "NoStitch")) (dCons (dVar 3) dNil))) dNil))) (dCons (dTup (dCons (dVar 5) (dCons (dIf (toT (dOp gEq (dCB gLen (dConsV (dVar 5) dNil)) (dCon (.int 24)))) (dLst (dCons (dCon (.str "told")) dNil)) (dLst (dCons (dCon (.str "NoStitches")) (dCons (dVar 5) dNil)))) dNil))) dNil))) [x0, x1, x2, .dat odd, .dat (.lst ((zs.take a.toNat).map D.str ++ odd :: ((zs.drop a.toNat).map D.str ++ [.non]))), .dat (.ref 5), x6, x7, x8, x9, x10, x11, x12, x13] (base G P b5 Mz Fz []) = .ok (.new (.lst [.tup [.lst ((zs.take a.toNat).map D.str ++ odd :: ((zs.drop a.toNat).map D.str ++ [.non])), .lst [.str "NoStitch", odd]], .tup [.ref 5, .lst due2]]), base G P b5 Mz Fz [])) ∧ CaseOk G P b5 Mz Fz (.ref 5) due2 := by
    by_cases h : d4 = 0
    · subst h
      refine ⟨[.str "told"], fun _ _ _ _ _ _ _ _ _ _ _ => c1_told (M := Mz.map D.str) (n := ((Mz.map D.str).length : Nat)) rfl rfl (decide_eq_true (by rw [List.length_map, lM]; rfl)), case_t (zs := Mz) (fun E => rfl) (fun E => ns_cell rfl hM (by rw [lM]; decide)) hM (by rw [lM]; decide) (by rw [lM]; decide)⟩
    · have hd : d4 = 1 := by omega
      subst hd
      refine ⟨[.str "NoStitches", .ref 5], fun _ _ _ _ _ _ _ _ _ _ _ => c1_no (M := Mz.map D.str) (n := ((Mz.map D.str).length : Nat)) rfl rfl (decide_eq_false (by rw [List.length_map, lM]; decide)), case_2 (fun E => short_many (ds := Mz.map D.str) (ns_cell rfl hM (by rw [lM]; decide)) rfl (by rw [List.length_map, lM]; decide)) fun E => same_strs (zs := Mz) rfl hM (by rw [lM]; decide)⟩
  generalize hsp : (zs.take a.toNat).map D.str ++ odd :: ((zs.drop a.toNat).map D.str ++ [D.non]) = sp at *
  obtain ⟨E', y12, y13, lp⟩ := loopC (G := G) (P := P) (b := b5) (Mz := Mz) (Fz := Fz) (x0 := .scr ns) (x1 := .dat (.int k)) (x2 := .dat (.ref 2)) (x3 := .dat odd) (x4 := .dat (.lst sp)) (x5 := .dat (.ref 5)) (x6 := .dat (.ref 6)) (x7 := .dat wh) (x8 := .dat (.lst ([.tup [.lst sp, .lst [.str "NoStitch", odd]], .tup [.ref 5, .lst due2]] ++ [.tup [.ref 6, .lst [.str "NoStitches", .ref 6]], .tup [wh, .lst [.str "NoStitches", wh]], .tup [.lst (K24.map D.str), .lst [.str "told"]]]))) (x9 := x9) (x10 := .dat (.lst (zs.map D.str))) (x11 := .dat (.int a))
    ([.tup [.lst sp, .lst [.str "NoStitch", odd]], .tup [.ref 5, .lst due2]] ++ [.tup [.ref 6, .lst [.str "NoStitches", .ref 6]], .tup [wh, .lst [.str "NoStitches", wh]], .tup [.lst (K24.map D.str), .lst [.str "told"]]]) (by
      intro d hd
      simp only [List.mem_append, List.mem_cons, List.not_mem_nil, or_false] at hd
      rcases hd with (rfl | rfl) | rfl | rfl | rfl
      · exact ⟨_, _, rfl, cs1⟩
      · exact ⟨_, _, rfl, cs2⟩
      · exact ⟨_, _, rfl, cs3⟩
      · exact ⟨_, _, rfl, cs4⟩
      · exact ⟨_, _, rfl, cs5⟩) [] x12 x13
  have gc : gAdd (.lst [.tup [.lst sp, .lst [.str "NoStitch", odd]], .tup [.ref 5, .lst due2]]) (.lst [.tup [.ref 6, .lst [.str "NoStitches", .ref 6]], .tup [wh, .lst [.str "NoStitches", wh]], .tup [.lst (K24.map D.str), .lst [.str "told"]]]) = some (.new (.lst ([.tup [.lst sp, .lst [.str "NoStitch", odd]], .tup [.ref 5, .lst due2]] ++ [.tup [.ref 6, .lst [.str "NoStitches", .ref 6]], .tup [wh, .lst [.str "NoStitches", wh]], .tup [.lst (K24.map D.str), .lst [.str "told"]]]))) := s_gAddL (by simp)
  generalize ([.tup [.lst sp, .lst [.str "NoStitch", odd]], .tup [.ref 5, .lst due2]] ++ [.tup [.ref 6, .lst [.str "NoStitches", .ref 6]], .tup [wh, .lst [.str "NoStitches", wh]], .tup [.lst (K24.map D.str), .lst [.str "told"]]] : List D) = L2 at *
  have gm : gAdd (.lst (Y25.map D.str)) (.lst [odd]) = some (.new (.lst (Y25.map D.str ++ odd :: []))) := s_gAddL (by rw [List.length_map, l25]; show 25 + 1 ≤ 16777216; decide)
  obtain ⟨x, v1, v2, v3⟩ := (hodd E').ex
  have nm := ns_bad (zs := Y25) (post := []) (cs := base G P b5 Mz Fz E') h25 v1 v2 v3 (by rw [l25]; decide)
  refine ⟨_, _, partA (rowF := (dOp gMul (dLst (dCons (dCon (.str "k")) (dCons (dCon (.str "p2tog")) (dCons (dCon (.str "yo")) dNil)))) (dCall 2 p__law_take [] (dCons (dVar 2) (dCons (dCon (.int 9)) dNil))))) (atF := (dCall 2 p__law_take [] (dCons (dVar 2) (dCons (dCon (.int 25)) dNil)))) (oddF := (dOp gIx (dLst (dCons (dCon .non) (dCons (dCon (.int 7)) (dCons (dCon (.str "K")) (dCons (dCon (.str "2k")) (dCons (dCell (dLst (dCons (dCon (.str "k")) dNil))) (dCons (dCell dDict0) (dCons (dCon (.str "")) (dCons (dCon (.bl true)) (dCons (dCon (.str "(")) dNil)))))))))) (dCall 2 p__law_take [] (dCons (dVar 2) (dCons (dCon (.int 9)) dNil))))) (spF := (dOp gAdd (dOp gAdd (dOp gAdd (dSl (dVar 10) oNone (oSome (dVar 11))) (dLst (dCons (dVar 3) dNil))) (dSl (dVar 10) (oSome (dVar 11)) oNone)) (dLst (dCons (dCon .non) dNil)))) (manyF := (dOp gAdd (dOp gMul (dLst (dCons (dCon (.str "k")) (dCons (dCon (.str "p")) dNil))) (dCon (.int 12))) (dOp gMul (dLst (dCons (dCon (.str "k")) dNil)) (dCall 2 p__law_take [] (dCons (dVar 2) (dCons (dCon (.int 2)) dNil)))))) (farF := (dOp gMul (dLst (dCons (dCon (.str "k")) dNil)) (dCon (.int 1201)))) (wholeF := (dOp gIx (dLst (dCons (dCon .non) (dCons (dCon (.int 7)) (dCons (dCon (.str "k p")) (dCons (dCell dDict0) (dCons (dCon (.bl true)) (dCons (dCon (.str "k")) dNil))))))) (dCall 2 p__law_take [] (dCons (dVar 2) (dCons (dCon (.int 6)) dNil))))) (c1F := (dLst (dCons (dTup (dCons (dVar 4) (dCons (dLst (dCons (dCon (.str "NoStitch")) (dCons (dVar 3) dNil))) dNil))) (dCons (dTup (dCons (dVar 5) (dCons (dIf (toT (dOp gEq (dCB gLen (dConsV (dVar 5) dNil)) (dCon (.int 24)))) (dLst (dCons (dCon (.str "told")) dNil)) (dLst (dCons (dCon (.str "NoStitches")) (dCons (dVar 5) dNil)))) dNil))) dNil)))) (c2F := (dOp gAdd (dVar 8) (dLst (dCons (dTup (dCons (dVar 6) (dCons (dLst (dCons (dCon (.str "NoStitches")) (dCons (dVar 6) dNil))) dNil))) (dCons (dTup (dCons (dVar 7) (dCons (dLst (dCons (dCon (.str "NoStitches")) (dCons (dVar 7) dNil))) dNil))) (dCons (dTup (dCons (dOp gMul (dLst (dCons (dCon (.str "k")) dNil)) (dCon (.int 24))) (dCons (dLst (dCons (dCon (.str "told")) dNil)) dNil))) dNil)))))) (moreF := (dOp gAdd (dOp gMul (dLst (dCons (dCon (.str "yo")) dNil)) (dCon (.int 25))) (dLst (dCons (dVar 3) dNil)))) (LOOP := dFor (itemsOf (dVar 8)) (tgT [12, 13]) (bd_law_1 G P)) (LAST := (dIfS (tNot' (toTru (dCall 2 p__law_same [] (dCons (ct_law_2 G P) (dCons (dLst (dCons (dCon (.str "NoStitch")) (dCons (dVar 3) dNil))) dNil))))) (dRet (dCon (.bl false))) dNx)) (φ := p__law_box) (ψ := p__law_cell)
    e1 e2 (row_walk t1 gr) (at_walk t2) (odd_walk t3 go) ((sp_walk hA hB (by omega) (by omega) (by omega)).trans (by rw [hsp])) (many_walk t4 g1 g2 ga) (far_walk g3) (whole_walk t5 gw) (hc1 _ _ _ _ _ _ _ _ _ _ _) (c2_walk g4 gc)
    (partB (σ := p__law_same) (loop_walk rfl lp) (more_walk g5 gm) (ct2_1 rfl (short_exc nm)) (same_ok (hodd E').same)), rfl⟩
theorem told (G P : Addr) (ns : List Int) (hl : ns.length ≤ 63) : ∃ cs, p_law G P [.scr ns] [TG G, TB P] = .ok (.dat (.bl true), cs) := by
  refine ⟨_, told_ofL (L := [TG G, TB P]) rfl (M := 8) (n := 12) (by decide) fun k xs hx => ?_⟩
  match xs, hx with
  | [x2, x3, x4, x5, x6, x7, x8, x9, x10, x11, x12, x13], _ => exact turn
end
end SL.L42

theorem PySem.Challenge.cw_knitrows_k42_writing_refused_holds : PySem.Challenge.rw_knitrows_k42_writing_refused.Holds := by
  exact SL.L42.holds SL.L42.told
