import PyProof.Rows.All
import Wide.All
import OpenK.AllK
import Wide.FinOn
import HandS.ForMost
import HandS.ForExc
import HandS.Walk
import HandS.Lambda
import HandS.TupAny
import HandS.IsInst
import HandS.Wide
import HandS.Deep
import HandS.Zip
import HandS.ExcOwn
import HandS.Defaults
import HandS.ExcCtx
import HandS.HeadHook4
import HandS.RaiseMore
import HandS.SortInts
import HandS.Style
import HandS.HotCalls
import HandS.ExcIs
import HandS.Head0
import HandS.Head1
import HandS.Head2
import HandS.HeadEnd
import HandS.HeadWalk
import KE.KNestM
import KE.KStateDown
import KE.DataMinMax
import KE.SortData
import KE.SortCalls
import HandS.CallLocal
import HandS.TupSets
import HandS.SetFor
import HandS.TupLe
import KE.KDictKeyed
import PySem.Challenge.RW_billrules_k20_whole_alike
set_option Elab.async false
set_option linter.all false
set_option maxRecDepth 100000
set_option maxHeartbeats 8000000
namespace Py
open PySem PySem.Spec PyProof.Rows L2 LamX

/-! ### results -/
inductive Er where
  | BadRule | BadBill | NoRule | BadText | BadGood | TooFew | NoReceipt | Nothing
  deriving DecidableEq
inductive R (α : Type) where
  | ok (a : α) | err (c : Er) | bad
@[reducible] def R.bind {α β : Type} (r : R α) (f : α → R β) : R β := match r with
  | .ok a => f a
  | .err c => .err c
  | .bad => .bad
abbrev D := PyData
/-- the script, told apart from the lists that are made -/
def scrD (ns : List Int) : D := .dict [(.none, .list (ns.map .int))]
@[reducible] def scrOf : List (D × D) → Option (List D)
  | [(.none, .list ds)] => some ds
  | _ => none
@[reducible] def kD : Key → D
  | .inl i => .int i
  | .inr x => .str x

/-! ### data in a heap -/
mutual
inductive Dd (K : PySem.W.Frag) (F : Hp) : V → D → Prop
  | non : Dd K F .non .none
  | bl (b : Bool) : Dd K F (.bl b) (.bool b)
  | int (i : Int) : Dd K F (.int i) (.int i)
  | str (x : Str) : Dd K F (.str x) (.str x)
  | lst {a : Addr} {xs : List V} {ds : List D} : F a = some (.lst xs) → DdAll K F xs ds → Dd K F (.ref a) (.list ds)
  | tup {a : Addr} {xs : List V} {ds : List D} : SqT K F a xs → DdAll K F xs ds → Dd K F (.ref a) (.tuple ds)
  | scr {a : Addr} {ns : List Int} : SqL K F a (ns.map V.int) → Dd K F (.ref a) (scrD ns)
  | dct {a : Addr} {kvs : List (Key × V)} {ds : List (D × D)} : F a = some (.dK kvs) → DdKv K F kvs ds → Dd K F (.ref a) (.dict ds)
inductive DdAll (K : PySem.W.Frag) (F : Hp) : List V → List D → Prop
  | nil : DdAll K F [] []
  | cons {v : V} {vs : List V} {d : D} {ds : List D} : Dd K F v d → DdAll K F vs ds → DdAll K F (v :: vs) (d :: ds)
inductive DdKv (K : PySem.W.Frag) (F : Hp) : List (Key × V) → List (D × D) → Prop
  | nil : DdKv K F [] []
  | cons {k : Key} {v : V} {vs : List (Key × V)} {d : D} {ds : List (D × D)} : Dd K F v d → DdKv K F vs ds → DdKv K F ((k, v) :: vs) ((kD k, d) :: ds)
end
theorem DdKv.noScr {K : PySem.W.Frag} {F : Hp} {kvs : List (Key × V)} {ds : List (D × D)} (h : DdKv K F kvs ds) : scrOf ds = none := by
  cases h with
  | nil => rfl
  | @cons k v vs d ds _ t =>
    cases k <;> cases t <;> rfl

/-- the frozen part of a heap -/
def Sub (F F' : Hp) : Prop := ∀ a o, F a = some o → F' a = some o
theorem Sub.refl (F : Hp) : Sub F F := fun _ _ h => h
theorem Sub.trans {F F1 F2 : Hp} (a : Sub F F1) (b : Sub F1 F2) : Sub F F2 := fun x o h => b x o (a x o h)
theorem Sub.rd {F F' : Hp} {a : Addr} {u : HO} (e : Sub F F') (h : Rd F a u) : Rd F' a u := by
  rcases h with h | ⟨o, h⟩
  · exact Or.inl (e a _ h)
  · exact Or.inr ⟨o, e a _ h⟩
theorem Sub.sqL {K : PySem.W.Frag} {F F' : Hp} {a : Addr} {xs : List V} (e : Sub F F') (h : SqL K F a xs) : SqL K F' a xs := by
  rcases h with h | h
  · exact Or.inl (e.rd h)
  · exact Or.inr h
theorem Sub.sqT {K : PySem.W.Frag} {F F' : Hp} {a : Addr} {xs : List V} (e : Sub F F') (h : SqT K F a xs) : SqT K F' a xs := by
  rcases h with h | h
  · exact Or.inl (e.rd h)
  · exact Or.inr h
mutual
theorem Dd.mono {K : PySem.W.Frag} {F F' : Hp} (e : Sub F F') : ∀ {v : V} {d : D}, Dd K F v d → Dd K F' v d
  | _, _, .non => .non
  | _, _, .bl b => .bl b
  | _, _, .int i => .int i
  | _, _, .str x => .str x
  | _, _, .lst h a => .lst (e _ _ h) (DdAll.mono e a)
  | _, _, .tup h a => .tup (e.sqT h) (DdAll.mono e a)
  | _, _, .scr h => .scr (e.sqL h)
  | _, _, .dct h a => .dct (e _ _ h) (DdKv.mono e a)
theorem DdAll.mono {K : PySem.W.Frag} {F F' : Hp} (e : Sub F F') : ∀ {vs : List V} {ds : List D}, DdAll K F vs ds → DdAll K F' vs ds
  | _, _, .nil => .nil
  | _, _, .cons h t => .cons (Dd.mono e h) (DdAll.mono e t)
theorem DdKv.mono {K : PySem.W.Frag} {F F' : Hp} (e : Sub F F') : ∀ {vs : List (Key × V)} {ds : List (D × D)}, DdKv K F vs ds → DdKv K F' vs ds
  | _, _, .nil => .nil
  | _, _, .cons h t => .cons (Dd.mono e h) (DdKv.mono e t)
end
theorem DdAll.length {K : PySem.W.Frag} {F : Hp} : ∀ {vs : List V} {ds : List D}, DdAll K F vs ds → vs.length = ds.length
  | _, _, .nil => rfl
  | _, _, .cons _ t => by rw [List.length_cons, List.length_cons, DdAll.length t]
theorem DdAll.append {K : PySem.W.Frag} {F : Hp} : ∀ {vs ws : List V} {ds es : List D}, DdAll K F vs ds → DdAll K F ws es → DdAll K F (vs ++ ws) (ds ++ es)
  | _, _, _, _, .nil, s => s
  | _, _, _, _, .cons h t, s => .cons h (DdAll.append t s)
theorem DdAll.get {K : PySem.W.Frag} {F : Hp} : ∀ {vs : List V} {ds : List D} {i : Nat} {d : D}, DdAll K F vs ds → ds[i]? = some d → ∃ v, vs[i]? = some v ∧ Dd K F v d
  | _, _, _, _, .nil, e => by simp at e
  | _, _, 0, _, .cons h _, e => by
    simp at e
    subst e
    exact ⟨_, rfl, h⟩
  | _, _, i + 1, d, .cons _ t, e => by
    obtain ⟨v, h1, h2⟩ := DdAll.get (i := i) (d := d) t (by simpa using e)
    exact ⟨v, by simpa using h1, h2⟩
theorem DdAll.get' {K : PySem.W.Frag} {F : Hp} : ∀ {vs : List V} {ds : List D} {i : Nat} {v : V}, DdAll K F vs ds → vs[i]? = some v → ∃ d, ds[i]? = some d ∧ Dd K F v d
  | _, _, _, _, .nil, e => by simp at e
  | _, _, 0, _, .cons h _, e => by
    simp at e
    subst e
    exact ⟨_, rfl, h⟩
  | _, _, i + 1, v, .cons _ t, e => by
    obtain ⟨d, h1, h2⟩ := DdAll.get' (i := i) (v := v) t (by simpa using e)
    exact ⟨d, by simpa using h1, h2⟩
theorem DdAll.take {K : PySem.W.Frag} {F : Hp} : ∀ {vs : List V} {ds : List D} (n : Nat), DdAll K F vs ds → DdAll K F (vs.take n) (ds.take n)
  | _, _, 0, _ => .nil
  | _, _, _ + 1, .nil => .nil
  | _, _, n + 1, .cons h t => .cons h (DdAll.take n t)
theorem DdAll.drop {K : PySem.W.Frag} {F : Hp} : ∀ {vs : List V} {ds : List D} (n : Nat), DdAll K F vs ds → DdAll K F (vs.drop n) (ds.drop n)
  | _, _, 0, h => h
  | _, _, _ + 1, .nil => .nil
  | _, _, n + 1, .cons _ t => DdAll.drop n t
theorem DdAll.set {K : PySem.W.Frag} {F : Hp} {v : V} {d : D} (hd : Dd K F v d) : ∀ {vs : List V} {ds : List D} (i : Nat), DdAll K F vs ds → DdAll K F (vs.set i v) (ds.set i d)
  | _, _, _, .nil => .nil
  | _, _, 0, .cons _ t => .cons hd t
  | _, _, i + 1, .cons h t => .cons h (DdAll.set hd i t)
theorem DdAll.reverse {K : PySem.W.Frag} {F : Hp} : ∀ {vs : List V} {ds : List D}, DdAll K F vs ds → DdAll K F vs.reverse ds.reverse
  | _, _, .nil => .nil
  | _, _, .cons h t => by
    rw [List.reverse_cons, List.reverse_cons]
    exact (DdAll.reverse t).append (.cons h .nil)

/-! ### the parameters of a text; steps -/
structure Gb where
  K : PySem.W.Frag
  xc : Er → Addr
  T : List (Addr × Str)
structure Base (G : Gb) (F H : Hp) : Prop where
  sub : Sub F H
  nt : ∀ a ps, F a ≠ some (.tbl ps)
  tab : Tabs G.T H
structure Step (G : Gb) (F H F' H' : Hp) : Prop where
  ff : Sub F F'
  hh : ExtN H H'
  base : Base G F' H'
  own : ∀ a o, H a = some o → (∀ ps, o ≠ .tbl ps) → F a = none → F' a = none
theorem Step.refl {G : Gb} {F H : Hp} (b : Base G F H) : Step G F H F H := ⟨.refl F, .refl H, b, fun _ _ _ _ h => h⟩
theorem Base.ntbl {G : Gb} {F H : Hp} (b : Base G F H) {a : Addr} {o : HO} (h : F a = some o) : ∀ ps, o ≠ .tbl ps := fun ps z => b.nt a ps (by rw [h, z])
theorem Step.trans {G : Gb} {F H F1 H1 F2 H2 : Hp} (s : Step G F H F1 H1) (t : Step G F1 H1 F2 H2) : Step G F H F2 H2 :=
  ⟨s.ff.trans t.ff, s.hh.trans t.hh, t.base, fun a o h z n => t.own a o (s.hh a o h z) z (s.own a o h z n)⟩
/-- a new object -/
theorem Step.new {G : Gb} {F H : Hp} {p : Addr} {o : HO} (b : Base G F H) (hp : H p = none) (ht : ∀ ps, o ≠ .tbl ps) : Step G F H (upd F p o) (upd H p o) := by
  have hF : F p = none := by
    cases e : F p with
    | none => rfl
    | some u =>
      rw [b.sub p u e] at hp
      cases hp
  have hh : ∀ a u, H a = some u → upd H p o a = some u := fun a u h => by
    rw [upd_ne (ne_of_none h hp)]
    exact h
  refine ⟨fun a u h => ?_, fun a u h _ => hh a u h, ⟨fun a u h => ?_, fun a ps h => ?_, b.tab.ext hh⟩, fun a u h z n => ?_⟩
  · rw [upd_ne (ne_of_none h hF)]
    exact h
  · by_cases e : a = p
    · subst e
      rw [upd_same] at h ⊢
      exact h
    · rw [upd_ne e] at h ⊢
      exact b.sub a u h
  · by_cases e : a = p
    · subst e
      rw [upd_same] at h
      exact ht ps (Option.some.inj h)
    · rw [upd_ne e] at h
      exact b.nt a ps h
  · rw [upd_ne (ne_of_none h hp)]
    exact n
theorem Base.free {G : Gb} {F H : Hp} {p : Addr} (b : Base G F H) (hp : H p = none) : F p = none := by
  cases e : F p with
  | none => rfl
  | some u =>
    rw [b.sub p u e] at hp
    cases hp
theorem lst_ne {xs : List V} (ps : Array Value) : HO.lst xs ≠ .tbl ps := fun z => by cases z
theorem tup_ne {xs : List V} (ps : Array Value) : HO.tup xs ≠ .tbl ps := fun z => by cases z

/-! ### dicts keyed by tuples, that are read alone -/
def TabO (hs : List Key → Int) (p : Addr) (xs : List (List Key × Addr × Value)) : HO := .ext fun h =>
  ∃ o es ep, h.get? p = some o ∧ o.ExactDict ∧ o.data = .dict es ep ∧ es.toList = xs.map (fun x => (⟨hs x.1, .ref x.2.1, x.2.2⟩ : DictEntry)) ∧ (xs.map (·.1)).Nodup
inductive KvT (K : PySem.W.Frag) (F : Hp) : List (List Key × Addr × Value) → List (List Key × D) → Prop
  | nil : KvT K F [] []
  | cons {k : List Key} {b : Addr} {y : Value} {v : V} {d : D} {xs : List (List Key × Addr × Value)} {t : List (List Key × D)} : SqT K F b (k.map kV) → RelV v y → Dd K F v d → KvT K F xs t → KvT K F ((k, b, y) :: xs) ((k, d) :: t)
theorem KvT.mono {K : PySem.W.Frag} {F F' : Hp} (e : Sub F F') {xs : List (List Key × Addr × Value)} {t : List (List Key × D)} (h : KvT K F xs t) : KvT K F' xs t := by
  induction h with
  | nil => exact .nil
  | cons a r d _ ih => exact .cons (e.sqT a) r (d.mono e) ih

/-! ### slots -/
inductive Sl where
  | no | dat (d : D) | own (ds : List D) | raw (v : V) | tab (hs : List Key → Int) (t : List (List Key × D))
abbrev Rho := List Sl
def Sl.isOwn : Sl → Bool
  | .own _ => true
  | _ => false
/-- what a slot's value is worth -/
def SlOk (K : PySem.W.Frag) (F H : Hp) : Option V → Sl → Prop
  | _, .no => True
  | ov, .dat d => ∃ v, ov = some v ∧ Dd K F v d
  | ov, .own ds => ∃ p vs, ov = some (.ref p) ∧ F p = none ∧ H p = some (.lst vs) ∧ DdAll K F vs ds
  | ov, .raw v => ov = some v
  | ov, .tab hs t => ∃ p xs, ov = some (.ref p) ∧ F p = some (TabO hs p xs) ∧ KvT K F xs t
structure EnvOk (K : PySem.W.Frag) (F H : Hp) (σ : L2.St) (ρ : Rho) : Prop where
  len : σ.length = ρ.length
  at_ : ∀ (i : Nat) (s : Sl) (ov : Option V), ρ[i]? = some s → σ[i]? = some ov → SlOk K F H ov s
  apart : ∀ (i j : Nat) (p : Addr) (s t : Sl), i ≠ j → ρ[i]? = some s → ρ[j]? = some t → s.isOwn = true → t.isOwn = true → σ[i]? = some (some (.ref p)) → σ[j]? ≠ some (some (.ref p))
theorem SlOk.step {G : Gb} {F H F' H' : Hp} (s : Step G F H F' H') {ov : Option V} {x : Sl} (h : SlOk G.K F H ov x) : SlOk G.K F' H' ov x := by
  cases x with
  | no => trivial
  | dat d =>
    obtain ⟨v, e, h⟩ := h
    exact ⟨v, e, h.mono s.ff⟩
  | own ds =>
    obtain ⟨p, vs, e, n, h1, h2⟩ := h
    exact ⟨p, vs, e, s.own p _ h1 (fun ps => lst_ne ps) n, s.hh p _ h1 (fun ps => lst_ne ps), h2.mono s.ff⟩
  | raw v => exact h
  | tab hs t =>
    obtain ⟨p, xs, e, h1, h2⟩ := h
    exact ⟨p, xs, e, s.ff p _ h1, h2.mono s.ff⟩
theorem EnvOk.step {G : Gb} {F H F' H' : Hp} {σ : L2.St} {ρ : Rho} (s : Step G F H F' H') (e : EnvOk G.K F H σ ρ) : EnvOk G.K F' H' σ ρ :=
  ⟨e.len, fun i x ov h1 h2 => (e.at_ i x ov h1 h2).step s, e.apart⟩
def getS (ρ : Rho) (i : Nat) : R D := match ρ[i]? with
  | some (.dat d) => .ok d
  | _ => .bad
theorem EnvOk.get {K : PySem.W.Frag} {F H : Hp} {σ : L2.St} {ρ : Rho} (e : EnvOk K F H σ ρ) {i : Nat} {d : D} (h : ρ[i]? = some (.dat d)) : ∃ v, σ[i]? = some (some v) ∧ Dd K F v d := by
  have hi : i < σ.length := by
    rw [e.len]
    exact (List.getElem?_eq_some_iff.mp h).1
  obtain ⟨v, e1, e2⟩ := e.at_ i _ σ[i] h (List.getElem?_eq_getElem hi)
  exact ⟨v, by rw [List.getElem?_eq_getElem hi, e1], e2⟩
theorem EnvOk.getOwn {K : PySem.W.Frag} {F H : Hp} {σ : L2.St} {ρ : Rho} (e : EnvOk K F H σ ρ) {i : Nat} {ds : List D} (h : ρ[i]? = some (.own ds)) : ∃ p vs, σ[i]? = some (some (.ref p)) ∧ F p = none ∧ H p = some (.lst vs) ∧ DdAll K F vs ds := by
  have hi : i < σ.length := by
    rw [e.len]
    exact (List.getElem?_eq_some_iff.mp h).1
  obtain ⟨p, vs, e1, e2⟩ := e.at_ i _ σ[i] h (List.getElem?_eq_getElem hi)
  exact ⟨p, vs, by rw [List.getElem?_eq_getElem hi, e1], e2⟩
/-- a slot is set to data -/
theorem EnvOk.set {K : PySem.W.Frag} {F H : Hp} {σ : L2.St} {ρ : Rho} (e : EnvOk K F H σ ρ) (i : Nat) {v : V} {d : D} (h : Dd K F v d) : EnvOk K F H (σ.set i (some v)) (ρ.set i (.dat d)) := by
  refine ⟨by rw [List.length_set, List.length_set, e.len], fun j s ov h1 h2 => ?_, fun j k p s t hjk h1 h2 o1 o2 => ?_⟩
  · by_cases hj : i = j
    · subst hj
      rw [List.getElem?_set_self' ] at h1 h2
      cases e1 : ρ[i]? with
      | none =>
        rw [e1] at h1
        cases h1
      | some s0 =>
        rw [e1] at h1
        cases e2 : σ[i]? with
        | none =>
          rw [e2] at h2
          cases h2
        | some o0 =>
          rw [e2] at h2
          cases h1
          cases h2
          exact ⟨v, rfl, h⟩
    · rw [List.getElem?_set_ne hj] at h1 h2
      exact e.at_ j s ov h1 h2
  · have nj : i ≠ j := fun z => by
      subst z
      rw [List.getElem?_set_self'] at h1
      cases e1 : ρ[i]? with
      | none =>
        rw [e1] at h1
        cases h1
      | some s0 =>
        rw [e1] at h1
        cases h1
        cases o1
    have nk : i ≠ k := fun z => by
      subst z
      rw [List.getElem?_set_self'] at h2
      cases e1 : ρ[i]? with
      | none =>
        rw [e1] at h2
        cases h2
      | some s0 =>
        rw [e1] at h2
        cases h2
        cases o2
    rw [List.getElem?_set_ne nj] at h1 ⊢
    rw [List.getElem?_set_ne nk] at h2 ⊢
    exact e.apart j k p s t hjk h1 h2 o1 o2
/-- a slot is forgotten, what it holds whatever -/
theorem EnvOk.drop {K : PySem.W.Frag} {F H : Hp} {σ : L2.St} {ρ : Rho} (e : EnvOk K F H σ ρ) (i : Nat) (ov : Option V) : EnvOk K F H (σ.set i ov) (ρ.set i .no) := by
  refine ⟨by rw [List.length_set, List.length_set, e.len], fun j s ov' h1 h2 => ?_, fun j k p s t hjk h1 h2 o1 o2 => ?_⟩
  · by_cases hj : i = j
    · subst hj
      rw [List.getElem?_set_self'] at h1
      cases e1 : ρ[i]? with
      | none =>
        rw [e1] at h1
        cases h1
      | some s0 =>
        rw [e1] at h1
        cases h1
        trivial
    · rw [List.getElem?_set_ne hj] at h1 h2
      exact e.at_ j s ov' h1 h2
  · have nj : i ≠ j := fun z => by
      subst z
      rw [List.getElem?_set_self'] at h1
      cases e1 : ρ[i]? with
      | none =>
        rw [e1] at h1
        cases h1
      | some s0 =>
        rw [e1] at h1
        cases h1
        cases o1
    have nk : i ≠ k := fun z => by
      subst z
      rw [List.getElem?_set_self'] at h2
      cases e1 : ρ[i]? with
      | none =>
        rw [e1] at h2
        cases h2
      | some s0 =>
        rw [e1] at h2
        cases h2
        cases o2
    rw [List.getElem?_set_ne nj] at h1 ⊢
    rw [List.getElem?_set_ne nk] at h2 ⊢
    exact e.apart j k p s t hjk h1 h2 o1 o2

/-! ### readings -/
def PostR {α β : Type} (G : Gb) (rel : Hp → β → α → Prop) (E : XK) (F H : Hp) (Q : β → Hp → Prop) : R α → Prop
  | .ok a => ∀ x F' H', Step G F H F' H' → rel F' x a → Q x H'
  | .err c => ∀ F' H', Step G F H F' H' → E (.ref (G.xc c)) none H'
  | .bad => False
def tR {α β : Type} (G : Gb) (rel : Hp → β → α → Prop) (E : XK) (f : Rho → R α) : L2.St → Hp → (β → Hp → Prop) → Prop := fun σ H Q =>
  ∃ ρ F, EnvOk G.K F H σ ρ ∧ Base G F H ∧ PostR G rel E F H Q (f ρ)
abbrev tE (G : Gb) (E : XK) (f : Rho → R D) : TE := tR G (Dd G.K) E f
abbrev tT (G : Gb) (E : XK) (f : Rho → R Bool) : TT := tR G (fun _ b c => b = c) E f
abbrev tA (G : Gb) (E : XK) (f : Rho → R (List D)) : TA := tR G (DdAll G.K) E f
section
variable {α β γ δ : Type} {G : Gb} {rel : Hp → β → α → Prop} {rel2 : Hp → δ → γ → Prop} {E : XK} {F H : Hp} {Q : β → Hp → Prop} {Q2 : δ → Hp → Prop}
theorem PostR.step {r : R α} (h : PostR G rel E F H Q r) {F' H' : Hp} (s : Step G F H F' H') : PostR G rel E F' H' Q r := by
  cases r with
  | ok a => exact fun x F2 H2 t q => h x F2 H2 (s.trans t) q
  | err c => exact fun F2 H2 t => h F2 H2 (s.trans t)
  | bad => exact h
/-- first r, then k: what r's reading is to bring -/
theorem PostR.seq {r : R γ} {k : γ → R α} (h : PostR G rel E F H Q (r.bind k))
    (h2 : ∀ a x F' H', r = .ok a → Step G F H F' H' → rel2 F' x a → PostR G rel E F' H' Q (k a) → Q2 x H') : PostR G rel2 E F H Q2 r := by
  cases r with
  | ok a => exact fun x F' H' s q => h2 a x F' H' rfl s q (PostR.step (show PostR G rel E F H Q (k a) from h) s)
  | err c => exact h
  | bad => exact h
theorem PostR.val {a : α} {x : β} (h : PostR G rel E F H Q (.ok a)) (b : Base G F H) (q : rel F x a) : Q x H := h x F H (.refl b) q
theorem PostR.new {a : α} {x : β} {p : Addr} {o : HO} (h : PostR G rel E F H Q (.ok a)) (b : Base G F H) (hp : H p = none) (ht : ∀ ps, o ≠ .tbl ps) (q : rel (upd F p o) x a) : Q x (upd H p o) := h x _ _ (.new b hp ht) q
end
theorem pe_imp {X : Cx} {e : Expr} {t t' : TE} (h : PE X e t) (i : ∀ σ H Q, t' σ H Q → t σ H Q) : PE X e t' := ⟨fun pins s σ H Q I hw => h.run pins s σ H Q I (i σ H Q hw)⟩
theorem pt_imp {X : Cx} {e : Expr} {t t' : TT} (h : PT X e t) (i : ∀ σ H Q, t' σ H Q → t σ H Q) : PT X e t' := ⟨fun pins s σ H Q I hw => h.run pins s σ H Q I (i σ H Q hw)⟩
theorem pw_imp {X : Cx} {e : Expr} {t t' : TT} (h : PW X e t) (i : ∀ σ H Q, t' σ H Q → t σ H Q) : PW X e t' := ⟨fun wh pins s σ H Q I hw => h.run wh pins s σ H Q I (i σ H Q hw)⟩
theorem pa_imp {X : Cx} {es : List Expr} {t t' : TA} (h : PA X es t) (i : ∀ σ H Q, t' σ H Q → t σ H Q) : PA X es t' := ⟨fun pos pins s σ H Q I hw => h.run pos pins s σ H Q I (i σ H Q hw)⟩
theorem ps_imp {X : Cx} {st : Stmt} {t t' : TS} (h : PS X st t) (i : ∀ D σ H, t' D σ H → t D σ H) : PS X st t' := ⟨fun pins s σ H D I hw => h.run pins s σ H D I (i D σ H hw)⟩
theorem pss_imp {X : Cx} {st : List Stmt} {t t' : TS} (h : PSs X st t) (i : ∀ D σ H, t' D σ H → t D σ H) : PSs X st t' := ⟨fun pins s σ H D I hw => h.run pins s σ H D I (i D σ H hw)⟩
end Py

namespace Py
open PySem PySem.Spec PyProof.Rows L2 LamX
section
variable {X : Cx} {G : Gb} {E : XK} {a b c : Expr} {fa fb fc : Rho → R D} {pos : Pos}

/-! ### names, constants -/
theorem e_int {i j pos} : PE X (.Constant (.int i) j pos) (tE G E fun _ => .ok (.int i)) :=
  pe_imp pe_int fun σ H Q ⟨ρ, F, e, b, h⟩ => PostR.val h b (.int i)
theorem e_bl {v j pos} : PE X (.Constant (.bool v) j pos) (tE G E fun _ => .ok (.bool v)) :=
  pe_imp pe_bl fun σ H Q ⟨ρ, F, e, b, h⟩ => PostR.val h b (.bl v)
theorem e_none {j pos} : PE X (.Constant .none j pos) (tE G E fun _ => .ok .none) :=
  pe_imp pe_non fun σ H Q ⟨ρ, F, e, b, h⟩ => PostR.val h b .non
theorem e_str {x j pos} : PE X (.Constant (.str x) j pos) (tE G E fun _ => .ok (.str x)) :=
  pe_imp pe_str fun σ H Q ⟨ρ, F, e, b, h⟩ => PostR.val h b (.str x)
theorem tE_var (i : Nat) {σ : L2.St} {H : Hp} {Q : VK} (h : tE G E (fun ρ => getS ρ i) σ H Q) : tVar i σ H Q := by
  obtain ⟨ρ, F, e, b, h⟩ := h
  have h1 : PostR G (Dd G.K) E F H Q (getS ρ i) := h
  unfold getS at h1
  split at h1
  · rename_i d q
    obtain ⟨v, e1, e2⟩ := e.get q
    exact ⟨v, e1, h1.val b e2⟩
  · exact (show False from h1).elim
theorem e_var (i : Nat) {x : Str} {pos : Pos} (hN : X.N[i]? = some x := by rfl) (hv : Vis X.env.scope x := by first | exact Or.inl rfl | exact Or.inr (Or.inl rfl) | exact Or.inr (Or.inr rfl)) (hd : (x == ("__debug__" : Str)) = false := by decide)
    (hcd : (x == ("__classdict__" : Str)) = false := by decide) : PE X (.Name x pos) (tE G E fun ρ => getS ρ i) :=
  pe_imp (pe_var hN hv hd hcd) fun σ H Q h => tE_var i h
/-- a constant of the module -/
theorem e_glob {x : Str} {v : V} {u : Value} {d : D} (hm : X.mg x = some u) (r : RelV v u) (hd : ∀ F, Dd G.K F v d) (hg : Gl X x := by rfl) (hdb : (x == ("__debug__" : Str)) = false := by decide) : PE X (.Name x pos) (tE G E fun _ => .ok d) :=
  pe_imp (pe_glob hg hm r hdb) fun σ H Q ⟨ρ, F, e, b, h⟩ => PostR.val h b (hd F)

/-! ### operators -/
def OpD (G : Gb) (r : R2) (f : D → D → R D) : Prop := ∀ (E : XK) (F H : Hp) (x y : V) (a b : D) (Q : VK), Base G F H → Dd G.K F x a → Dd G.K F y b → PostR G (Dd G.K) E F H Q (f a b) → r x y H Q
@[reducible] def r2 (fa fb : Rho → R D) (f : D → D → R D) : Rho → R D := fun ρ => (fa ρ).bind fun x => (fb ρ).bind fun y => f x y
theorem tE_op {r : R2} {f : D → D → R D} (hd : OpD G r f) {σ : L2.St} {H : Hp} {Q : VK} (h : tE G E (r2 fa fb f) σ H Q) : tOp r (tE G E fa) (tE G E fb) σ H Q := by
  obtain ⟨ρ, F, e, b, h⟩ := h
  refine ⟨ρ, F, e, b, PostR.seq h fun x v F1 H1 _ s1 d1 h1 => ?_⟩
  refine ⟨ρ, F1, e.step s1, s1.base, PostR.seq h1 fun y w F2 H2 _ s2 d2 h2 => ?_⟩
  exact hd E F2 H2 v w x y Q s2.base (d1.mono s2.ff) d2 h2
theorem e_op {op : Operator} {r : R2} {f : D → D → R D} (ho : OpR X (binaryOp op) r) (hd : OpD G r f) (ha : PE X a (tE G E fa)) (hb : PE X b (tE G E fb)) : PE X (.BinOp a op b pos) (tE G E (r2 fa fb f)) :=
  pe_imp (pe_op ho ha hb) fun σ H Q h => tE_op hd h
theorem e_cmp {op : CmpOp} {r : R2} {f : D → D → R D} (ho : OpR X (compareOp op) r) (hd : OpD G r f) (ha : PE X a (tE G E fa)) (hb : PE X b (tE G E fb)) (hm : behindInMarks op b = false) : PE X (.Compare a [op] [b] pos) (tE G E (r2 fa fb f)) :=
  pe_imp (pe_cmpR ho ha hb hm) fun σ H Q h => tE_op hd h
/-- a bool out of data -/
@[reducible] def asB : D → R Bool
  | .bool b => .ok b
  | _ => .bad
@[reducible] def rB (f : Rho → R D) : Rho → R Bool := fun ρ => (f ρ).bind asB
theorem PostR.asB {F H : Hp} {Q : Bool → Hp → Prop} {r : R D} (h : PostR G (fun _ b c => b = c) E F H Q (r.bind asB)) : PostR G (Dd G.K) E F H (fun x H' => ∃ k, x = .bl k ∧ Q k H') r := by
  refine PostR.seq h fun d x F1 H1 _ s1 d1 h1 => ?_
  cases d1 with
  | bl k => exact ⟨k, rfl, h1.val s1.base rfl⟩
  | non => exact (show False from h1).elim
  | int i => exact (show False from h1).elim
  | str i => exact (show False from h1).elim
  | lst _ _ => exact (show False from h1).elim
  | tup _ _ => exact (show False from h1).elim
  | scr _ => exact (show False from h1).elim
  | dct _ _ => exact (show False from h1).elim
theorem t_cmp {op : CmpOp} {r : R2} {f : D → D → R D} (ho : OpR X (compareOp op) r) (hd : OpD G r f) (ha : PE X a (tE G E fa)) (hb : PE X b (tE G E fb)) (hm : behindInMarks op b = false) : PT X (.Compare a [op] [b] pos) (tT G E (rB (r2 fa fb f))) :=
  pt_imp (pt_cmpR ho ha hb hm) fun σ H Q ⟨ρ, F, e, b, h⟩ => tE_op (E := E) hd ⟨ρ, F, e, b, h.asB⟩
/-- an expression that gives a bool, as a test -/
theorem t_val (h : PE X a (tE G E fa)) (he : ∀ whole, isTrue a X.env whole = (do let v ← whole; standAt a.pos; holding [v] (truthy v)) := by intro _; rfl) : PT X a (tT G E (rB fa)) :=
  pt_imp (pt_val h he) fun σ H Q ⟨ρ, F, e, b, h⟩ => ⟨ρ, F, e, b, h.asB⟩
/-- truth of data -/
@[reducible] def tru : D → R Bool
  | .none => .ok false
  | .bool b => .ok b
  | .int i => .ok (i != 0)
  | .str y => if y.length ≤ sizeLine then .ok ((y.length : Int) != 0) else .bad
  | .list ds => .ok (!ds.isEmpty)
  | .tuple ds => .ok (!ds.isEmpty)
  | .dict _ => .bad
@[reducible] def rTru (f : Rho → R D) : Rho → R Bool := fun ρ => (f ρ).bind tru
theorem isEmpty_dd {K : PySem.W.Frag} {F : Hp} {vs : List V} {ds : List D} (h : DdAll K F vs ds) : (!ds.isEmpty) = !vs.isEmpty := by cases h <;> rfl
theorem t_truth (ha : PE X a (tE G E fa)) (he : ∀ whole, isTrue a X.env whole = (do let v ← whole; standAt a.pos; holding [v] (truthy v)) := by intro _; rfl) (hK : X.K = G.K := by rfl) : PT X a (tT G E (rTru fa)) :=
  pt_imp (pt_truth ha he) fun σ H Q ⟨ρ, F, e, b, h⟩ => ⟨ρ, F, e, b, PostR.seq h fun d x F1 H1 _ s1 d1 h1 => by
    rw [hK]
    cases d1 with
    | non => exact ⟨false, rfl, h1.val s1.base rfl⟩
    | bl k => exact ⟨k, rfl, h1.val s1.base rfl⟩
    | int i => exact ⟨i != 0, rfl, h1.val s1.base rfl⟩
    | str y =>
      have h2 : PostR G (fun _ b c => b = c) E F1 H1 Q (if y.length ≤ sizeLine then .ok ((y.length : Int) != 0) else .bad) := h1
      split at h2
      · rename_i q
        exact ⟨_, ⟨q, rfl⟩, h2.val s1.base rfl⟩
      · exact (show False from h2).elim
    | lst h2 h3 => exact ⟨_, .inl ⟨_, SqL.of (s1.base.sub _ _ h2), rfl⟩, h1.val s1.base (isEmpty_dd h3).symm⟩
    | tup h2 h3 => exact ⟨_, .inr (.inl ⟨_, s1.base.sub.sqT h2, rfl⟩), h1.val s1.base (isEmpty_dd h3).symm⟩
    | scr _ => exact (show False from h1).elim
    | dct _ _ => exact (show False from h1).elim⟩

/-! ### and, or, not, if -/
variable {ta tb tc : Rho → R Bool} {rest : List Expr}
@[reducible] def rAnd (ta tb : Rho → R Bool) : Rho → R Bool := fun ρ => (ta ρ).bind fun k => if k = true then tb ρ else .ok false
@[reducible] def rOr (ta tb : Rho → R Bool) : Rho → R Bool := fun ρ => (ta ρ).bind fun k => if k = true then .ok true else tb ρ
@[reducible] def rNot (ta : Rho → R Bool) : Rho → R Bool := fun ρ => (ta ρ).bind fun k => .ok (!k)
theorem w_and1 (ha : PT X a (tT G E ta)) : PW X (.BoolOp .And [a] pos) (tT G E ta) := pw_and1 ha
theorem w_or1 (ha : PT X a (tT G E ta)) : PW X (.BoolOp .Or [a] pos) (tT G E ta) := pw_or1 ha
theorem w_and (ha : PT X a (tT G E ta)) (hb : PW X (.BoolOp .And (b :: rest) pos) (tT G E tb)) : PW X (.BoolOp .And (a :: b :: rest) pos) (tT G E (rAnd ta tb)) :=
  pw_imp (pw_and ha hb) fun σ H Q ⟨ρ, F, e, b, h⟩ => ⟨ρ, F, e, b, PostR.seq h fun k x F1 H1 _ s1 d1 h1 => by
    subst d1
    cases x with
    | true => exact ⟨ρ, F1, e.step s1, s1.base, h1⟩
    | false => exact PostR.val (show PostR G (fun _ b c => b = c) E F1 H1 Q (.ok false) from h1) s1.base rfl⟩
theorem w_or (ha : PT X a (tT G E ta)) (hb : PW X (.BoolOp .Or (b :: rest) pos) (tT G E tb)) : PW X (.BoolOp .Or (a :: b :: rest) pos) (tT G E (rOr ta tb)) :=
  pw_imp (pw_or ha hb) fun σ H Q ⟨ρ, F, e, b, h⟩ => ⟨ρ, F, e, b, PostR.seq h fun k x F1 H1 _ s1 d1 h1 => by
    subst d1
    cases x with
    | false => exact ⟨ρ, F1, e.step s1, s1.base, h1⟩
    | true => exact PostR.val (show PostR G (fun _ b c => b = c) E F1 H1 Q (.ok true) from h1) s1.base rfl⟩
theorem t_not (ha : PT X a (tT G E ta)) : PT X (.UnaryOp .Not a pos) (tT G E (rNot ta)) :=
  pt_imp (pt_not ha) fun σ H Q ⟨ρ, F, e, b, h⟩ => ⟨ρ, F, e, b, PostR.seq h fun k x F1 H1 _ s1 d1 h1 => by
    subst d1
    exact h1.val s1.base rfl⟩
/-- as values -/
@[reducible] def rAndV (fa fb : Rho → R D) : Rho → R D := fun ρ => ((fa ρ).bind asB).bind fun k => if k = true then fb ρ else .ok (.bool false)
@[reducible] def rOrV (fa fb : Rho → R D) : Rho → R D := fun ρ => ((fa ρ).bind asB).bind fun k => if k = true then .ok (.bool true) else fb ρ
@[reducible] def rNotV (ta : Rho → R D) : Rho → R D := fun ρ => ((ta ρ).bind asB).bind fun k => .ok (.bool (!k))
theorem e_one {op} (h : PE X a (tE G E fa)) : PE X (.BoolOp op [a] pos) (tE G E fa) := pe_one h
theorem e_and (ha : PE X a (tE G E fa)) (hb : PE X (.BoolOp .And (b :: rest) pos) (tE G E fb)) : PE X (.BoolOp .And (a :: b :: rest) pos) (tE G E (rAndV fa fb)) :=
  pe_imp (pe_and ha hb) fun σ H Q ⟨ρ, F, e, b, h⟩ => ⟨ρ, F, e, b, PostR.asB (PostR.seq h fun k x F1 H1 _ s1 d1 h1 => by
    subst d1
    cases x with
    | true => exact ⟨ρ, F1, e.step s1, s1.base, h1⟩
    | false => exact PostR.val (show PostR G (Dd G.K) E F1 H1 Q (.ok (.bool false)) from h1) s1.base (.bl _))⟩
theorem e_or (ha : PE X a (tE G E fa)) (hb : PE X (.BoolOp .Or (b :: rest) pos) (tE G E fb)) : PE X (.BoolOp .Or (a :: b :: rest) pos) (tE G E (rOrV fa fb)) :=
  pe_imp (pe_or ha hb) fun σ H Q ⟨ρ, F, e, b, h⟩ => ⟨ρ, F, e, b, PostR.asB (PostR.seq h fun k x F1 H1 _ s1 d1 h1 => by
    subst d1
    cases x with
    | false => exact ⟨ρ, F1, e.step s1, s1.base, h1⟩
    | true => exact PostR.val (show PostR G (Dd G.K) E F1 H1 Q (.ok (.bool true)) from h1) s1.base (.bl _))⟩
theorem e_not (ha : PE X a (tE G E fa)) : PE X (.UnaryOp .Not a pos) (tE G E (rNotV fa)) :=
  pe_imp (pe_not ha) fun σ H Q ⟨ρ, F, e, b, h⟩ => ⟨ρ, F, e, b, PostR.asB (PostR.seq h fun k x F1 H1 _ s1 d1 h1 => by
    subst d1
    exact h1.val s1.base (.bl _))⟩
@[reducible] def rIf {α : Type} (t : Rho → R Bool) (fa fb : Rho → R α) : Rho → R α := fun ρ => (t ρ).bind fun k => if k = true then fa ρ else fb ρ
theorem e_if (hc : PT X c (tT G E tc)) (ha : PE X a (tE G E fa)) (hb : PE X b (tE G E fb)) : PE X (.IfExp c a b pos) (tE G E (rIf tc fa fb)) :=
  pe_imp (pe_ifExp hc ha hb) fun σ H Q ⟨ρ, F, e, b, h⟩ => ⟨ρ, F, e, b, PostR.seq h fun k x F1 H1 _ s1 d1 h1 => by
    subst d1
    cases x with
    | true => exact ⟨ρ, F1, e.step s1, s1.base, h1⟩
    | false => exact ⟨ρ, F1, e.step s1, s1.base, h1⟩⟩
/-- a chain of two comparisons -/
@[reducible] def rChain (f g : D → D → R D) (fa fb fc : Rho → R D) : Rho → R D := fun ρ => (fa ρ).bind fun x => (fb ρ).bind fun y => ((f x y).bind asB).bind fun k => if k = true then (fc ρ).bind fun z => g y z else .ok (.bool false)
theorem e_chain {op op' : CmpOp} {r r' : R2} {f g : D → D → R D} (ho : OpR X (compareOp op) r) (hd : OpD G r f) (ho' : OpR X (compareOp op') r') (hd' : OpD G r' g) (ha : PE X a (tE G E fa)) (hb : PE X b (tE G E fb)) (hc : PE X c (tE G E fc))
    (hm : lastMarks [op, op'] [b, c] = false := by with_unfolding_all rfl) : PE X (.Compare a [op, op'] [b, c] pos) (tE G E (rChain f g fa fb fc)) :=
  pe_imp (pe_chain ho ho' ha hb hc hm) fun σ H Q ⟨ρ, F, e, b, h⟩ => ⟨ρ, F, e, b, PostR.seq h fun x v F1 H1 _ s1 d1 h1 => ⟨ρ, F1, e.step s1, s1.base, PostR.seq h1 fun y w F2 H2 _ s2 d2 h2 =>
    hd E F2 H2 v w x y _ s2.base (d1.mono s2.ff) d2 (PostR.asB (PostR.seq h2 fun k z F3 H3 _ s3 d3 h3 => by
      subst d3
      cases z with
      | true => exact ⟨ρ, F3, ((e.step s1).step s2).step s3, s3.base, PostR.seq h3 fun z u F4 H4 _ s4 d4 h4 => hd' E F4 H4 w u y z Q s4.base (d2.mono (s3.ff.trans s4.ff)) d4 h4⟩
      | false => exact PostR.val (show PostR G (Dd G.K) E F3 H3 Q (.ok (.bool false)) from h3) s3.base (.bl _)))⟩⟩
theorem t_chain {op op' : CmpOp} {r r' : R2} {f g : D → D → R D} (ho : OpR X (compareOp op) r) (hd : OpD G r f) (ho' : OpR X (compareOp op') r') (hd' : OpD G r' g) (ha : PE X a (tE G E fa)) (hb : PE X b (tE G E fb)) (hc : PE X c (tE G E fc))
    (hm : lastMarks [op, op'] [b, c] = false := by with_unfolding_all rfl) : PT X (.Compare a [op, op'] [b, c] pos) (tT G E (rB (rChain f g fa fb fc))) :=
  pt_imp (pt_chain ho ho' ha hb hc hm) fun σ H Q ⟨ρ, F, e, b, h⟩ => ⟨ρ, F, e, b, PostR.seq (PostR.asB h) fun x v F1 H1 _ s1 d1 h1 => ⟨ρ, F1, e.step s1, s1.base, PostR.seq h1 fun y w F2 H2 _ s2 d2 h2 =>
    hd E F2 H2 v w x y _ s2.base (d1.mono s2.ff) d2 (PostR.asB (PostR.seq h2 fun k z F3 H3 _ s3 d3 h3 => by
      subst d3
      cases z with
      | true => exact ⟨ρ, F3, ((e.step s1).step s2).step s3, s3.base, PostR.seq h3 fun z u F4 H4 _ s4 d4 h4 => hd' E F4 H4 w u y z _ s4.base (d2.mono (s3.ff.trans s4.ff)) d4 h4⟩
      | false => exact PostR.val (show PostR G (Dd G.K) E F3 H3 _ (.ok (.bool false)) from h3) s3.base (.bl _)))⟩⟩

/-! ### arguments, displays -/
variable {es : List Expr} {fs : Rho → R (List D)}
theorem a_nil : PA X [] (tA G E fun _ => .ok []) := pa_imp pa_nil fun σ H Q ⟨ρ, F, e, b, h⟩ => PostR.val h b .nil
@[reducible] def rCons (fa : Rho → R D) (fs : Rho → R (List D)) : Rho → R (List D) := fun ρ => (fa ρ).bind fun x => (fs ρ).bind fun xs => .ok (x :: xs)
theorem a_cons (ha : PE X a (tE G E fa)) (hr : PA X es (tA G E fs)) (hs : starEach (a :: es) X.env = (false, eval a X.env) :: starEach es X.env := by rfl) : PA X (a :: es) (tA G E (rCons fa fs)) :=
  pa_imp (pa_cons ha hr hs) fun σ H Q ⟨ρ, F, e, b, h⟩ => ⟨ρ, F, e, b, PostR.seq h fun x v F1 H1 _ s1 d1 h1 => ⟨ρ, F1, e.step s1, s1.base, PostR.seq h1 fun xs vs F2 H2 _ s2 d2 h2 => h2.val s2.base (.cons (d1.mono s2.ff) d2)⟩⟩
/-- the longest list that is made here -/
def maxL : Nat := 100000
theorem maxL_line {n : Nat} (h : n ≤ maxL) : n ≤ sizeLine := Nat.le_trans h (by decide)
theorem maxL_lt {n : Nat} (h : n ≤ maxL) : n < sizeLine := Nat.lt_of_le_of_lt h (by decide)
@[reducible] def mkTup (xs : List D) : R D := if xs.length ≤ maxL then .ok (.tuple xs) else .bad
@[reducible] def mkLst (xs : List D) : R D := if xs.length ≤ maxL then .ok (.list xs) else .bad
theorem dd_self {K : PySem.W.Frag} {F : Hp} {p : Addr} {o : HO} (hp : F p = none) {vs : List V} {ds : List D} (h : DdAll K F vs ds) : DdAll K (upd F p o) vs ds :=
  h.mono fun a u e => by
    rw [upd_ne (ne_of_none e hp)]
    exact e
theorem PostR.tup {F H : Hp} {Q : VK} {vs : List V} {ds : List D} (h : PostR G (Dd G.K) E F H Q (mkTup ds)) (b : Base G F H) (hd : DdAll G.K F vs ds) : vs.length ≤ maxL ∧ ∀ p, H p = none → Q (.ref p) (upd H p (.tup vs)) := by
  have h1 : PostR G (Dd G.K) E F H Q (if ds.length ≤ maxL then .ok (.tuple ds) else .bad) := h
  split at h1
  · rename_i q
    exact ⟨by rw [hd.length]; exact q, fun p hp => h1.new b hp tup_ne (.tup (SqT.of upd_same) (dd_self (b.free hp) hd))⟩
  · exact (show False from h1).elim
theorem PostR.lst {F H : Hp} {Q : VK} {vs : List V} {ds : List D} (h : PostR G (Dd G.K) E F H Q (mkLst ds)) (b : Base G F H) (hd : DdAll G.K F vs ds) : vs.length ≤ maxL ∧ ∀ p, H p = none → Q (.ref p) (upd H p (.lst vs)) := by
  have h1 : PostR G (Dd G.K) E F H Q (if ds.length ≤ maxL then .ok (.list ds) else .bad) := h
  split at h1
  · rename_i q
    exact ⟨by rw [hd.length]; exact q, fun p hp => h1.new b hp lst_ne (.lst upd_same (dd_self (b.free hp) hd))⟩
  · exact (show False from h1).elim
@[reducible] def rTup (fs : Rho → R (List D)) : Rho → R D := fun ρ => (fs ρ).bind mkTup
@[reducible] def rLst (fs : Rho → R (List D)) : Rho → R D := fun ρ => (fs ρ).bind mkLst
theorem e_tup {x1} (h : PA X es (tA G E fs)) : PE X (.Tuple es x1 pos) (tE G E (rTup fs)) :=
  pe_imp (pe_tup h) fun σ H Q ⟨ρ, F, e, b, h⟩ => ⟨ρ, F, e, b, PostR.seq h fun xs vs F1 H1 _ s1 d1 h1 => by
    obtain ⟨h2, h3⟩ := h1.tup s1.base d1
    exact ⟨maxL_line h2, h3⟩⟩
theorem e_lst (h : PA X es (tA G E fs)) : PE X (.List es pos) (tE G E (rLst fs)) :=
  pe_imp (pe_lst h) fun σ H Q ⟨ρ, F, e, b, h⟩ => ⟨ρ, F, e, b, PostR.seq h fun xs vs F1 H1 _ s1 d1 h1 => by
    obtain ⟨h2, h3⟩ := h1.lst s1.base d1
    exact ⟨maxL_line h2, h3⟩⟩

/-! ### calls of what stands in the library -/
def CallD (G : Gb) (r : List V → Hp → VK → Prop) (f : List D → R D) : Prop := ∀ (E : XK) (F H : Hp) (xs : List V) (ds : List D) (Q : VK), Base G F H → DdAll G.K F xs ds → PostR G (Dd G.K) E F H Q (f ds) → r xs H Q
@[reducible] def rCall (fs : Rho → R (List D)) (f : List D → R D) : Rho → R D := fun ρ => (fs ρ).bind f
theorem e_callB {r : List V → Hp → VK → Prop} {f : List D → R D} {x : Str} {id : String} {p : Pos} (hc : CallR X (.builtin id) r) (hd : CallD G r f) (hm : X.mg x = none) (hv : bootBuiltins x = some (.builtin id)) (ha : PA X (a :: es) (tA G E fs)) (hg : Gl X x := by rfl) (hn : x ≠ "__name__" := by decide) (hdb : (x == ("__debug__" : Str)) = false := by decide)
    (he : starEach (a :: es) X.env = (false, eval a X.env) :: starEach es X.env := by rfl) (hpl : (backTo pos (starEach es X.env)).any (·.1) = false := by rfl) : PE X (.Call (.Name x p) (a :: es) [] pos) (tE G E (rCall fs f)) :=
  pe_imp (pe_callB hc hg hm hv ha hn hdb he hpl) fun σ H Q ⟨ρ, F, e, b, h⟩ => ⟨ρ, F, e, b, PostR.seq h fun xs vs F1 H1 _ s1 d1 h1 => hd E F1 H1 vs xs Q s1.base d1 h1⟩
theorem e_callTy {r : List V → Hp → VK → Prop} {f : List D → R D} {x : Str} {T : String} {p : Pos} (hc : CallR X (.type T) r) (hd : CallD G r f) (hm : X.mg x = none) (hv : bootBuiltins x = some (.type T)) (ha : PA X (a :: es) (tA G E fs)) (hg : Gl X x := by rfl) (hn : x ≠ "__name__" := by decide) (hdb : (x == ("__debug__" : Str)) = false := by decide)
    (he : starEach (a :: es) X.env = (false, eval a X.env) :: starEach es X.env := by rfl) (hpl : (backTo pos (starEach es X.env)).any (·.1) = false := by rfl) : PE X (.Call (.Name x p) (a :: es) [] pos) (tE G E (rCall fs f)) :=
  pe_imp (pe_callTy hc hg hm hv ha hn hdb he hpl) fun σ H Q ⟨ρ, F, e, b, h⟩ => ⟨ρ, F, e, b, PostR.seq h fun xs vs F1 H1 _ s1 d1 h1 => hd E F1 H1 vs xs Q s1.base d1 h1⟩

/-! ### calls of the text's own defs -/
/-- the promise of a def whose worth is m -/
def spD (G : Gb) (n : Nat) (m : List D → R D) : Sp := fun vs H Q E => vs.length = n ∧ ∃ F ds, Base G F H ∧ DdAll G.K F vs ds ∧ PostR G (Dd G.K) E F H Q (m ds)
theorem spD_len {n : Nat} {m : List D → R D} : ∀ vs H Q E, spD G n m vs H Q E → vs.length = n := fun _ _ _ _ h => h.1
theorem e_call {CX : CXT} {k : Nat} {f : Addr} {fd : FuncData} {ps : List Str} {m : List D → R D} {x : Str} {p : Pos} (Fk : FnOk X.prog X.w X.K X.mg X.base CX k f fd ps (spD G ps.length m)) (hr : Room k X.A) (hm : X.mg x = some (.ref f)) (hk : PySem.W.keepIn X.K (.ref f) = true) (hb : Binds X.K fd ps []) (hx : Passes CX X E)
    (ha : PA X (a :: es) (tA G E fs)) (hl : (a :: es).length = ps.length := by rfl) (hg : Gl X x := by rfl) (hdb : (x == ("__debug__" : Str)) = false := by decide) (he : starEach (a :: es) X.env = (false, eval a X.env) :: starEach es X.env := by rfl) (hpl : (backTo pos (starEach es X.env)).any (·.1) = false := by rfl) :
    PE X (.Call (.Name x p) (a :: es) [] pos) (tE G E (rCall (fun ρ => (fs ρ).bind fun ds => if ds.length = ps.length then .ok ds else .bad) m)) :=
  pe_imp (pe_call Fk hr hg hm hk hb .nil hx ha hdb he hpl) fun σ H Q ⟨ρ, F, e, b, h⟩ => by
    have h0 : PostR G (Dd G.K) E F H Q (((fs ρ).bind fun ds => if ds.length = ps.length then .ok ds else .bad).bind m) := h
    have h1 : PostR G (Dd G.K) E F H Q ((fs ρ).bind fun ds => (if ds.length = ps.length then .ok ds else .bad : R (List D)).bind m) := by
      cases q : fs ρ with
      | ok ds =>
        rw [q] at h0
        exact h0
      | err c =>
        rw [q] at h0
        exact h0
      | bad =>
        rw [q] at h0
        exact h0
    refine ⟨ρ, F, e, b, PostR.seq h1 fun xs vs F1 H1 _ s1 d1 h2 => ?_⟩
    by_cases ql : xs.length = ps.length
    · rw [if_pos ql] at h2
      rw [List.append_nil]
      exact ⟨by rw [d1.length]; exact ql, F1, xs, s1.base, d1, h2⟩
    · rw [if_neg ql] at h2
      exact (show False from h2).elim
end
end Py

namespace Py
open PySem PySem.Spec PyProof.Rows L2 LamX

/-! ### == -/
mutual
theorem Dd.toDp {K : PySem.W.Frag} {F H : Hp} (e : Sub F H) : ∀ {v : V} {d : D}, Dd K F v d → d.canLay0 = true → Dp K H v d
  | _, _, .non, _ => .non
  | _, _, .bl b, _ => .bl b
  | _, _, .int i, _ => .int i
  | _, _, .str x, _ => .str x
  | _, _, .lst h a, q => .lst (SqL.of (e _ _ h)) (DdAll.toDp e a (by simpa only [PyData.canLay0] using q))
  | _, _, .tup h a, q => .tup (e.sqT h) (DdAll.toDp e a (by simpa only [PyData.canLay0] using q))
  | _, _, .scr h, q => by
    have z : (PyData.dict [(.none, .list _)]).canLay0 = true := q
    simp [PyData.canLay0] at z
  | _, _, .dct h a, q => by simp [PyData.canLay0] at q
theorem DdAll.toDp {K : PySem.W.Frag} {F H : Hp} (e : Sub F H) : ∀ {vs : List V} {ds : List D}, DdAll K F vs ds → PyData.canLayAll0 ds = true → DpAll K H vs ds
  | _, _, .nil, _ => .nil
  | _, _, .cons h t, q => by
    have q2 := q
    simp only [PyData.canLayAll0, Bool.and_eq_true] at q2
    exact .cons (Dd.toDp e h q2.1) (DdAll.toDp e t q2.2)
end
theorem dpInts {K : PySem.W.Frag} {H : Hp} : ∀ ns : List Int, DpAll K H (ns.map V.int) (ns.map PyData.int)
  | [] => .nil
  | n :: ns => .cons (.int n) (dpInts ns)
/-- the script as a list -/
@[reducible] def unscr : D → D
  | .dict kv => match scrOf kv with
    | some ds => .list ds
    | none => .dict kv
  | d => d
theorem Dd.toDpS {K : PySem.W.Frag} {F H : Hp} (e : Sub F H) {v : V} {d : D} (h : Dd K F v d) (q : (unscr d).canLay0 = true) : Dp K H v (unscr d) := by
  cases h with
  | non => exact .non
  | bl b => exact .bl b
  | int i => exact .int i
  | str x => exact .str x
  | lst h a => exact Dd.toDp e (.lst h a) q
  | tup h a => exact Dd.toDp e (.tup h a) q
  | scr h => exact .lst (e.sqL h) (dpInts _)
  | @dct p kvs ds h a =>
    have z : (match scrOf ds with | some ds => PyData.list ds | none => .dict ds).canLay0 = true := q
    rw [a.noScr] at z
    simp [PyData.canLay0] at z
@[reducible] def pEq (a b : D) : R D := if (SeqAt.shaped (unscr a) && SeqAt.shaped (unscr b)) = true then .ok (.bool (PyData.eqv (unscr a) (unscr b))) else .bad
@[reducible] def pNe (a b : D) : R D := if (SeqAt.shaped (unscr a) && SeqAt.shaped (unscr b)) = true then .ok (.bool (!PyData.eqv (unscr a) (unscr b))) else .bad
section
variable {X : Cx} {G : Gb}
theorem d_eq : OpD G (rEqD G.K) pEq := fun E F H x y a b Q bs ha hb h => by
  have h1 : PostR G (Dd G.K) E F H Q (if (SeqAt.shaped (unscr a) && SeqAt.shaped (unscr b)) = true then .ok (.bool (PyData.eqv (unscr a) (unscr b))) else .bad) := h
  split at h1
  · rename_i q
    obtain ⟨q1, q2⟩ := Bool.and_eq_true_iff.mp q
    exact ⟨unscr a, unscr b, ha.toDpS bs.sub (SeqAt.canLay_of_shaped q1), hb.toDpS bs.sub (SeqAt.canLay_of_shaped q2), q1, q2, h1.val bs (.bl _)⟩
  · exact (show False from h1).elim
theorem d_ne : OpD G (rNeD G.K) pNe := fun E F H x y a b Q bs ha hb h => by
  have h1 : PostR G (Dd G.K) E F H Q (if (SeqAt.shaped (unscr a) && SeqAt.shaped (unscr b)) = true then .ok (.bool (!PyData.eqv (unscr a) (unscr b))) else .bad) := h
  split at h1
  · rename_i q
    obtain ⟨q1, q2⟩ := Bool.and_eq_true_iff.mp q
    exact ⟨unscr a, unscr b, ha.toDpS bs.sub (SeqAt.canLay_of_shaped q1), hb.toDpS bs.sub (SeqAt.canLay_of_shaped q2), q1, q2, h1.val bs (.bl _)⟩
  · exact (show False from h1).elim

/-! ### ints -/
theorem d_I0 {g : Int → Int → V} {f : D → D → R D} (h1 : ∀ i j, ∃ d, f (.int i) (.int j) = .ok d ∧ ∀ K F, Dd K F (g i j) d) (h2 : ∀ a b, (∀ i j, ¬ (a = .int i ∧ b = .int j)) → f a b = .bad) : OpD G (rI0 g) f := fun E F H x y a b Q bs ha hb h => by
  by_cases q : ∃ i j, a = .int i ∧ b = .int j
  · obtain ⟨i, j, rfl, rfl⟩ := q
    cases ha
    cases hb
    obtain ⟨d, e, hd⟩ := h1 i j
    rw [e] at h
    exact ⟨i, j, rfl, rfl, h.val bs (hd _ _)⟩
  · rw [h2 a b fun i j z => q ⟨i, j, z⟩] at h
    exact (show False from h).elim
@[reducible] def pSub : D → D → R D
  | .int i, .int j => .ok (.int (i - j))
  | _, _ => .bad
@[reducible] def pLt : D → D → R D
  | .int i, .int j => .ok (.bool (decide (i < j)))
  | _, _ => .bad
@[reducible] def pLe : D → D → R D
  | .int i, .int j => .ok (.bool (decide (i ≤ j)))
  | _, _ => .bad
@[reducible] def pGt : D → D → R D
  | .int i, .int j => .ok (.bool (decide (j < i)))
  | _, _ => .bad
@[reducible] def pGe : D → D → R D
  | .int i, .int j => .ok (.bool (decide (j ≤ i)))
  | _, _ => .bad
theorem not_ints {f : D → D → R D} (h : ∀ a b, f a b = .bad ∨ ∃ i j, a = .int i ∧ b = .int j) : ∀ a b, (∀ i j, ¬ (a = .int i ∧ b = .int j)) → f a b = .bad := fun a b n => by
  rcases h a b with q | ⟨i, j, q⟩
  · exact q
  · exact (n i j q).elim
theorem d_sub : OpD G (rI0 fun i j => .int (i - j)) pSub := d_I0 (fun i j => ⟨_, rfl, fun _ _ => .int _⟩) (not_ints fun a b => by cases a <;> cases b <;> first | exact .inl rfl | exact .inr ⟨_, _, rfl, rfl⟩)
theorem d_lt : OpD G (rI0 fun i j => .bl (decide (i < j))) pLt := d_I0 (fun i j => ⟨_, rfl, fun _ _ => .bl _⟩) (not_ints fun a b => by cases a <;> cases b <;> first | exact .inl rfl | exact .inr ⟨_, _, rfl, rfl⟩)
theorem d_le : OpD G (rI0 fun i j => .bl (decide (i ≤ j))) pLe := d_I0 (fun i j => ⟨_, rfl, fun _ _ => .bl _⟩) (not_ints fun a b => by cases a <;> cases b <;> first | exact .inl rfl | exact .inr ⟨_, _, rfl, rfl⟩)
theorem d_gt : OpD G (rI0 fun i j => .bl (decide (j < i))) pGt := d_I0 (fun i j => ⟨_, rfl, fun _ _ => .bl _⟩) (not_ints fun a b => by cases a <;> cases b <;> first | exact .inl rfl | exact .inr ⟨_, _, rfl, rfl⟩)
theorem d_ge : OpD G (rI0 fun i j => .bl (decide (j ≤ i))) pGe := d_I0 (fun i j => ⟨_, rfl, fun _ _ => .bl _⟩) (not_ints fun a b => by cases a <;> cases b <;> first | exact .inl rfl | exact .inr ⟨_, _, rfl, rfl⟩)
/-- // and % by a positive number -/
@[reducible] def pDiv : D → D → R D
  | .int i, .int j => if 0 < j ∧ j < 2 ^ 200 then .ok (.int (i / j)) else .bad
  | _, _ => .bad
@[reducible] def pMod : D → D → R D
  | .int i, .int j => if 0 < j then .ok (.int (i % j)) else .bad
  | _, _ => .bad
@[reducible] def pPow : D → D → R D
  | .int i, .int j => if 0 ≤ j ∧ j ≤ 1000 ∧ i.natAbs < 2 ^ 64 then .ok (.int (i ^ j.toNat)) else .bad
  | _, _ => .bad
theorem d_div : OpD G (rI CDivW fun i j => .int (i / j)) pDiv := fun E F H x y a b Q bs ha hb h => by
  cases ha <;> cases hb <;> first | exact (show False from h).elim | skip
  rename_i i j
  have h1 : PostR G (Dd G.K) E F H Q (if 0 < j ∧ j < 2 ^ 200 then .ok (.int (i / j)) else .bad) := h
  split at h1
  · rename_i q
    exact ⟨i, j, rfl, rfl, wide_div (b := 200) q.1 (by have := q.2; omega) (by decide) (by decide), h1.val bs (.int _)⟩
  · exact (show False from h1).elim
theorem d_mod : OpD G (rI (fun _ j => 0 < j) fun i j => .int (i % j)) pMod := fun E F H x y a b Q bs ha hb h => by
  cases ha <;> cases hb <;> first | exact (show False from h).elim | skip
  rename_i i j
  have h1 : PostR G (Dd G.K) E F H Q (if 0 < j then .ok (.int (i % j)) else .bad) := h
  split at h1
  · rename_i q
    exact ⟨i, j, rfl, rfl, q, h1.val bs (.int _)⟩
  · exact (show False from h1).elim
theorem d_pow : OpD G (rI CPow fun i j => .int (i ^ j.toNat)) pPow := fun E F H x y a b Q bs ha hb h => by
  cases ha <;> cases hb <;> first | exact (show False from h).elim | skip
  rename_i i j
  have h1 : PostR G (Dd G.K) E F H Q (if 0 ≤ j ∧ j ≤ 1000 ∧ i.natAbs < 2 ^ 64 then .ok (.int (i ^ j.toNat)) else .bad) := h
  split at h1
  · rename_i q
    exact ⟨i, j, rfl, rfl, ⟨q.1, by have := q.2.1; omega, q.2.2⟩, h1.val bs (.int _)⟩
  · exact (show False from h1).elim

/-! ### + -/
def rAddAll (K : PySem.W.Frag) : R2 := fun x y H Q => rI0 (fun i j => .int (i + j)) x y H Q ∨ ((∃ i j, x = .str i ∧ y = .str j ∧ i.length + j.length ≤ sizeLine ∧ Q (.str (i ++ j)) H) ∨ (rCat x y H Q ∨ rCatA K x y H Q))
theorem op_addAll : OpR X (binaryOp .Add) (rAddAll X.K) := op_add.or (op_add_str.or (op_cat.or op_catA))
@[reducible] def pAdd : D → D → R D
  | .int i, .int j => .ok (.int (i + j))
  | .str x, .str y => if x.length + y.length ≤ maxL then .ok (.str (x ++ y)) else .bad
  | .list xs, .list ys => mkLst (xs ++ ys)
  | .tuple xs, .tuple ys => mkTup (xs ++ ys)
  | _, _ => .bad
theorem d_add : OpD G (rAddAll G.K) pAdd := fun E F H x y a b Q bs ha hb h => by
  cases ha <;> cases hb <;> first | exact (show False from h).elim | skip
  · exact .inl ⟨_, _, rfl, rfl, PostR.val (show PostR G (Dd G.K) E F H Q (.ok (.int _)) from h) bs (.int _)⟩
  · rename_i x y
    have h1 : PostR G (Dd G.K) E F H Q (if x.length + y.length ≤ maxL then .ok (.str (x ++ y)) else .bad) := h
    split at h1
    · rename_i q
      exact .inr (.inl ⟨x, y, rfl, rfl, maxL_line q, h1.val bs (.str _)⟩)
    · exact (show False from h1).elim
  · rename_i p vs ds hp hd q ws es hq he
    obtain ⟨h1, h2⟩ := PostR.lst (show PostR G (Dd G.K) E F H Q (mkLst (ds ++ es)) from h) bs (hd.append he)
    exact .inr (.inr (.inl ⟨p, q, vs, ws, rfl, rfl, bs.sub _ _ hp, bs.sub _ _ hq, by rw [List.length_append] at h1; exact maxL_line h1, h2⟩))
  · rename_i p vs ds hp hd q ws es hq he
    have h0 : PostR G (Dd G.K) E F H Q (mkTup (ds ++ es)) := h
    obtain ⟨h1, h2⟩ := PostR.tup h0 bs (hd.append he)
    refine .inr (.inr (.inr ⟨p, q, vs, ws, rfl, rfl, bs.sub.sqT hp, bs.sub.sqT hq, by rw [List.length_append] at h1; exact maxL_line h1, fun z => ?_, fun _ z => ?_, fun _ _ => h2⟩))
    · subst z
      cases hd
      have h3 : PostR G (Dd G.K) E F H Q (if es.length ≤ maxL then .ok (.tuple es) else .bad) := h0
      split at h3
      · exact h3.val bs (.tup hq he)
      · exact (show False from h3).elim
    · subst z
      cases he
      rw [List.append_nil] at h0
      have h3 : PostR G (Dd G.K) E F H Q (if ds.length ≤ maxL then .ok (.tuple ds) else .bad) := h0
      split at h3
      · exact h3.val bs (.tup hp hd)
      · exact (show False from h3).elim

/-! ### * -/
def rMulAll : R2 := fun x y H Q => rI IntMulOk (fun i j => .int (i * j)) x y H Q ∨ rRep x y H Q
theorem op_mulO : OpR X (binaryOp .Mult) (rI IntMulOk fun i j => .int (i * j)) := opI fun _ _ _ _ _ _ _ hc q => mul_int q hc
theorem op_mulAll : OpR X (binaryOp .Mult) rMulAll := op_mulO.or op_rep
@[reducible] def okMul (i j : Int) : Bool := decide (i.natAbs < 2 ^ 64) || (decide (j.natAbs < 2 ^ 64) || (decide (i.natAbs < 2 ^ 400) && decide (j.natAbs < 2 ^ 400)))
theorem okMul_ok {i j : Int} (h : okMul i j = true) : IntMulOk i j := by
  rcases Bool.or_eq_true_iff.mp h with h | h
  · have h := of_decide_eq_true h
    exact .of_left (intBits_le_64 (by omega) (by omega))
  · rcases Bool.or_eq_true_iff.mp h with h | h
    · have h := of_decide_eq_true h
      exact .of_right (intBits_le_64 (by omega) (by omega))
    · obtain ⟨h1, h2⟩ := Bool.and_eq_true_iff.mp h
      exact CMulW.ok (wide_mul (a := 400) (b := 400) (of_decide_eq_true h1) (of_decide_eq_true h2) (by decide) (by decide) (by decide))
@[reducible] def pMul : D → D → R D
  | .int i, .int j => if okMul i j = true then .ok (.int (i * j)) else .bad
  | .list xs, .int k => if -(2 ^ 20) ≤ k ∧ k ≤ 2 ^ 20 then mkLst (List.replicate k.toNat xs).flatten else .bad
  | _, _ => .bad
theorem dd_rep {K : PySem.W.Frag} {F : Hp} {vs : List V} {ds : List D} (h : DdAll K F vs ds) : ∀ n : Nat, DdAll K F (List.replicate n vs).flatten (List.replicate n ds).flatten
  | 0 => .nil
  | n + 1 => by
    rw [List.replicate_succ, List.replicate_succ, List.flatten_cons, List.flatten_cons]
    exact h.append (dd_rep h n)
theorem len_rep {α : Type} (xs : List α) : ∀ n : Nat, (List.replicate n xs).flatten.length = xs.length * n
  | 0 => rfl
  | n + 1 => by rw [List.replicate_succ, List.flatten_cons, List.length_append, len_rep xs n, Nat.mul_succ, Nat.add_comm]
theorem d_mul : OpD G rMulAll pMul := fun E F H x y a b Q bs ha hb h => by
  cases ha <;> cases hb <;> first | exact (show False from h).elim | skip
  · rename_i i j
    have h1 : PostR G (Dd G.K) E F H Q (if okMul i j = true then .ok (.int (i * j)) else .bad) := h
    split at h1
    · rename_i q
      exact .inl ⟨i, j, rfl, rfl, okMul_ok q, h1.val bs (.int _)⟩
    · exact (show False from h1).elim
  · rename_i p vs ds hp hd k
    have h1 : PostR G (Dd G.K) E F H Q (if -(2 ^ 20) ≤ k ∧ k ≤ 2 ^ 20 then mkLst (List.replicate k.toNat ds).flatten else .bad) := h
    split at h1
    · rename_i q
      obtain ⟨h2, h3⟩ := PostR.lst h1 bs (dd_rep hd k.toNat)
      exact .inr ⟨p, k, vs, rfl, rfl, bs.sub _ _ hp, by omega, by omega, by rw [len_rep] at h2; exact maxL_line h2, h3⟩
    · exact (show False from h1).elim

/-! ### is None -/
@[reducible] def pIsN (a _b : D) : R D := .ok (.bool (match a with | .none => true | _ => false))
@[reducible] def pNotN (a _b : D) : R D := .ok (.bool (match a with | .none => false | _ => true))
def rIsN : R2 := fun x y H Q => y = .non ∧ Q (.bl (decide (x = .non))) H
def rNotN : R2 := fun x y H Q => y = .non ∧ Q (.bl (!decide (x = .non))) H
@[reducible] def pIs (a b : D) : R D := match b with
  | .none => pIsN a b
  | _ => .bad
@[reducible] def pIsNot (a b : D) : R D := match b with
  | .none => pNotN a b
  | _ => .bad
theorem d_is : OpD G rIsN pIs := fun E F H x y a b Q bs ha hb h => by
  cases hb <;> first | exact (show False from h).elim | skip
  refine ⟨rfl, ?_⟩
  cases ha <;> exact PostR.val (show PostR G (Dd G.K) E F H Q (.ok (.bool _)) from h) bs (.bl _)
theorem d_isNot : OpD G rNotN pIsNot := fun E F H x y a b Q bs ha hb h => by
  cases hb <;> first | exact (show False from h).elim | skip
  refine ⟨rfl, ?_⟩
  cases ha <;> exact PostR.val (show PostR G (Dd G.K) E F H Q (.ok (.bool _)) from h) bs (.bl _)

/-! ### in -/
@[reducible] def flatD : D → Bool
  | .none | .bool _ | .int _ | .str _ => true
  | _ => false
theorem flat_dd {K : PySem.W.Frag} {F : Hp} {v : V} {d : D} (h : Dd K F v d) (q : flatD d = true) : flatV v = true := by
  cases h <;> first | rfl | (cases q; done) | (have q2 : false = true := q; cases q2)
theorem flats_dd {K : PySem.W.Frag} {F : Hp} : ∀ {vs : List V} {ds : List D}, DdAll K F vs ds → ds.all flatD = true → vs.all flatV = true
  | _, _, .nil, _ => rfl
  | _, _, .cons h t, q => by
    rw [List.all_cons, Bool.and_eq_true] at q ⊢
    exact ⟨flat_dd h q.1, flats_dd t q.2⟩
theorem eqV_dd {K : PySem.W.Frag} {F : Hp} {v w : V} {d e : D} (h : Dd K F v d) (h2 : Dd K F w e) (q : flatD d = true) (q2 : flatD e = true) : eqV v w = PyData.eqv d e := by
  cases h <;> first | (cases q; done) | skip
  all_goals (cases h2 <;> first | (cases q2; done) | (simp only [eqV, PyData.eqv]))
theorem inV_dd {K : PySem.W.Frag} {F : Hp} {v : V} {d : D} (h : Dd K F v d) (q : flatD d = true) : ∀ {vs : List V} {ds : List D}, DdAll K F vs ds → ds.all flatD = true → inV v vs = ds.any fun z => PyData.eqv z d
  | _, _, .nil, _ => rfl
  | _, _, .cons h1 t, q1 => by
    rw [List.all_cons, Bool.and_eq_true] at q1
    have e := inV_dd h q t q1.2
    unfold inV at e ⊢
    rw [List.any_cons, List.any_cons, e, eqV_dd h1 h q1.1 q]
def rInAll (K : PySem.W.Frag) : R2 := fun x y H Q => rIn K false x y H Q ∨ (rInD K x y H Q ∨ ∃ i j, x = .str i ∧ y = .str j ∧ Q (.bl (!(Builtin.Str.occurrences j i 0 j.length 1).isEmpty)) H)
def rNotInAll (K : PySem.W.Frag) : R2 := fun x y H Q => rIn K true x y H Q ∨ (rNotInD K x y H Q ∨ ∃ i j, x = .str i ∧ y = .str j ∧ Q (.bl (!(!(Builtin.Str.occurrences j i 0 j.length 1).isEmpty))) H)
theorem op_inAll (hu : X.A.units + 65 < cLine) : OpR X (compareOp .In) (rInAll X.K) := op_in_seq.or ((op_inD hu).or op_in_str)
theorem op_notInAll (hu : X.A.units + 65 < cLine) : OpR X (compareOp .NotIn) (rNotInAll X.K) := op_notIn_seq.or ((op_notInD hu).or op_notin_str)
@[reducible] def inD (a : D) : D → R Bool
  | .tuple ds => if (flatD a && ds.all flatD) = true then .ok (ds.any fun z => PyData.eqv z a) else .bad
  | .list ds => if (SeqAt.shaped a && SeqAt.shaped (.list ds)) = true then .ok (ds.any fun z => PyData.eqv z a) else .bad
  | .str j => match a with
    | .str i => .ok (!(Builtin.Str.occurrences j i 0 j.length 1).isEmpty)
    | _ => .bad
  | _ => .bad
@[reducible] def pIn (a b : D) : R D := (inD a b).bind fun k => .ok (.bool k)
@[reducible] def pNotIn (a b : D) : R D := (inD a b).bind fun k => .ok (.bool (!k))
theorem d_in : OpD G (rInAll G.K) pIn := fun E F H x y a b Q bs ha hb h => by
  cases hb <;> first | exact (show False from h).elim | skip
  · rename_i j
    refine .inr (.inr ?_)
    cases ha <;> first | exact (show False from h).elim | skip
    rename_i i
    exact ⟨i, j, rfl, rfl, PostR.val (show PostR G (Dd G.K) E F H Q (.ok (.bool (!(Builtin.Str.occurrences j i 0 j.length 1).isEmpty))) from h) bs (.bl _)⟩
  · rename_i p vs ds hp hd
    have h1 : PostR G (Dd G.K) E F H Q ((if (SeqAt.shaped a && SeqAt.shaped (.list ds)) = true then .ok (ds.any fun z => PyData.eqv z a) else .bad : R Bool).bind fun k => .ok (.bool k)) := h
    split at h1
    · rename_i q
      obtain ⟨q1, q2⟩ := Bool.and_eq_true_iff.mp q
      exact .inr (.inl ⟨a, ds, ha.toDp bs.sub (SeqAt.canLay_of_shaped q1), Dd.toDp bs.sub (.lst hp hd) (SeqAt.canLay_of_shaped q2), q1, q2, PostR.val (show PostR G (Dd G.K) E F H Q (.ok (.bool (ds.any fun z => PyData.eqv z a))) from h1) bs (.bl _)⟩)
    · exact (show False from h1).elim
  · rename_i p vs ds hp hd
    have h1 : PostR G (Dd G.K) E F H Q ((if (flatD a && ds.all flatD) = true then .ok (ds.any fun z => PyData.eqv z a) else .bad : R Bool).bind fun k => .ok (.bool k)) := h
    split at h1
    · rename_i q
      obtain ⟨q1, q2⟩ := Bool.and_eq_true_iff.mp q
      refine .inl ⟨p, vs, rfl, .inr (bs.sub.sqT hp), flat_dd ha q1, flats_dd hd q2, ?_⟩
      rw [inV_dd ha q1 hd q2]
      exact PostR.val (show PostR G (Dd G.K) E F H Q (.ok (.bool (ds.any fun z => PyData.eqv z a))) from h1) bs (.bl _)
    · exact (show False from h1).elim
theorem d_notIn : OpD G (rNotInAll G.K) pNotIn := fun E F H x y a b Q bs ha hb h => by
  cases hb <;> first | exact (show False from h).elim | skip
  · rename_i j
    refine .inr (.inr ?_)
    cases ha <;> first | exact (show False from h).elim | skip
    rename_i i
    exact ⟨i, j, rfl, rfl, PostR.val (show PostR G (Dd G.K) E F H Q (.ok (.bool (!(!(Builtin.Str.occurrences j i 0 j.length 1).isEmpty)))) from h) bs (.bl _)⟩
  · rename_i p vs ds hp hd
    have h1 : PostR G (Dd G.K) E F H Q ((if (SeqAt.shaped a && SeqAt.shaped (.list ds)) = true then .ok (ds.any fun z => PyData.eqv z a) else .bad : R Bool).bind fun k => .ok (.bool (!k))) := h
    split at h1
    · rename_i q
      obtain ⟨q1, q2⟩ := Bool.and_eq_true_iff.mp q
      exact .inr (.inl ⟨a, ds, ha.toDp bs.sub (SeqAt.canLay_of_shaped q1), Dd.toDp bs.sub (.lst hp hd) (SeqAt.canLay_of_shaped q2), q1, q2, PostR.val (show PostR G (Dd G.K) E F H Q (.ok (.bool (!ds.any fun z => PyData.eqv z a))) from h1) bs (.bl _)⟩)
    · exact (show False from h1).elim
  · rename_i p vs ds hp hd
    have h1 : PostR G (Dd G.K) E F H Q ((if (flatD a && ds.all flatD) = true then .ok (ds.any fun z => PyData.eqv z a) else .bad : R Bool).bind fun k => .ok (.bool (!k))) := h
    split at h1
    · rename_i q
      obtain ⟨q1, q2⟩ := Bool.and_eq_true_iff.mp q
      refine .inl ⟨p, vs, rfl, .inr (bs.sub.sqT hp), flat_dd ha q1, flats_dd hd q2, ?_⟩
      rw [inV_dd ha q1 hd q2]
      exact PostR.val (show PostR G (Dd G.K) E F H Q (.ok (.bool (!ds.any fun z => PyData.eqv z a))) from h1) bs (.bl _)
    · exact (show False from h1).elim

/-! ### subscripts -/
theorem atI_dd {K : PySem.W.Frag} {F : Hp} {vs : List V} {ds : List D} {i : Int} {d : D} (h : DdAll K F vs ds) (e : atI ds i = some d) : ∃ v, atI vs i = some v ∧ Dd K F v d := by
  unfold atI at e ⊢
  rw [h.length]
  cases q : ixN ds.length i with
  | none =>
    rw [q] at e
    cases e
  | some j =>
    rw [q] at e
    exact h.get e
theorem ddInts {K : PySem.W.Frag} {F : Hp} : ∀ ns : List Int, DdAll K F (ns.map V.int) (ns.map PyData.int)
  | [] => .nil
  | n :: ns => .cons (.int n) (ddInts ns)
@[reducible] def orBad {α : Type} : Option α → R α
  | some a => .ok a
  | none => .bad
@[reducible] def pIx : D → D → R D
  | .list ds, .int i => orBad (atI ds i)
  | .tuple ds, .int i => orBad (atI ds i)
  | .str z, .int i => if z.length ≤ maxL then (orBad (atI z.cps.toList i)).bind fun c => .ok (.str ⟨#[c]⟩) else .bad
  | .dict kv, .int i => match scrOf kv with
    | some ds => orBad (atI ds i)
    | none => .bad
  | _, _ => .bad
theorem d_ix : OpD G (rIx G.K) pIx := fun E F H x y a b Q bs ha hb h => by
  cases hb <;> first | (cases ha <;> exact (show False from h).elim) | skip
  rename_i i
  cases ha <;> first | exact (show False from h).elim | skip
  · rename_i z
    have h1 : PostR G (Dd G.K) E F H Q (if z.length ≤ maxL then (orBad (atI z.cps.toList i)).bind fun c => .ok (.str ⟨#[c]⟩) else .bad) := h
    split at h1
    · rename_i q
      cases e : atI z.cps.toList i with
      | none =>
        rw [e] at h1
        exact (show False from h1).elim
      | some c =>
        rw [e] at h1
        exact .inr (.inr ⟨z, i, c, rfl, rfl, maxL_line q, e, PostR.val (show PostR G (Dd G.K) E F H Q (.ok (.str ⟨#[c]⟩)) from h1) bs (.str _)⟩)
    · exact (show False from h1).elim
  · rename_i p vs ds hp hd
    have h1 : PostR G (Dd G.K) E F H Q (orBad (atI ds i)) := h
    cases e : atI ds i with
    | none =>
      rw [e] at h1
      exact (show False from h1).elim
    | some c =>
      rw [e] at h1
      obtain ⟨v, e1, e2⟩ := atI_dd hd e
      exact .inl ⟨p, vs, i, v, rfl, rfl, SqL.of (bs.sub _ _ hp), e1, PostR.val (show PostR G (Dd G.K) E F H Q (.ok c) from h1) bs e2⟩
  · rename_i p vs ds hp hd
    have h1 : PostR G (Dd G.K) E F H Q (orBad (atI ds i)) := h
    cases e : atI ds i with
    | none =>
      rw [e] at h1
      exact (show False from h1).elim
    | some c =>
      rw [e] at h1
      obtain ⟨v, e1, e2⟩ := atI_dd hd e
      exact .inr (.inl ⟨p, vs, i, v, rfl, rfl, bs.sub.sqT hp, e1, PostR.val (show PostR G (Dd G.K) E F H Q (.ok c) from h1) bs e2⟩)
  · rename_i p ns hp
    have h1 : PostR G (Dd G.K) E F H Q (orBad (atI (ns.map PyData.int) i)) := h
    cases e : atI (ns.map PyData.int) i with
    | none =>
      rw [e] at h1
      exact (show False from h1).elim
    | some c =>
      rw [e] at h1
      obtain ⟨v, e1, e2⟩ := atI_dd (ddInts (K := G.K) (F := F) ns) e
      exact .inl ⟨p, ns.map V.int, i, v, rfl, rfl, bs.sub.sqL hp, e1, PostR.val (show PostR G (Dd G.K) E F H Q (.ok c) from h1) bs e2⟩
  · rename_i p kvs ds hp hd
    have h1 : PostR G (Dd G.K) E F H Q (match scrOf ds with | some ds => orBad (atI ds i) | none => .bad) := h
    rw [hd.noScr] at h1
    exact (show False from h1).elim
variable {E : XK} {a b c : Expr} {fa fb fc : Rho → R D} {pos p2 : Pos}
theorem e_ix (ha : PE X a (tE G E fa)) (hb : PE X b (tE G E fb)) (hs : PlainIx b := by exact fun _ _ => rfl) (hK : X.K = G.K := by rfl) : PE X (.Subscript a b pos) (tE G E (r2 fa fb pIx)) :=
  pe_imp (pe_ix ix_seq ha hb hs) fun σ H Q h => by
    rw [hK]
    exact tE_op d_ix h

/-! ### slices -/
@[reducible] def cut {α : Type} (xs : List α) (lo hi : Option Int) : List α := (xs.drop (HT.sIx xs.length 0 lo)).take (HT.sIx xs.length xs.length hi - HT.sIx xs.length 0 lo)
theorem cut_dd {K : PySem.W.Frag} {F : Hp} {vs : List V} {ds : List D} (h : DdAll K F vs ds) (lo hi : Option Int) : DdAll K F (cutV vs lo hi) (cut ds lo hi) := by
  unfold cutV cut
  rw [h.length]
  exact (h.drop _).take _
theorem cut_le {α : Type} (xs : List α) (lo hi : Option Int) : (cut xs lo hi).length ≤ xs.length := by
  unfold cut
  rw [List.length_take, List.length_drop]
  omega
theorem cut_all {α : Type} {xs : List α} {lo hi : Option Int} (h : HT.sIx xs.length 0 lo = 0 ∧ HT.sIx xs.length xs.length hi = xs.length) : cut xs lo hi = xs := by
  unfold cut
  rw [h.1, h.2, List.drop_zero, Nat.sub_zero, List.take_length]
abbrev tO (G : Gb) (E : XK) (f : Rho → R (Option Int)) : TO := tR G (fun _ x y => x = y) E f
@[reducible] def asI : D → R (Option Int)
  | .int i => .ok (some i)
  | _ => .bad
theorem o_none : PO X none (tO G E fun _ => .ok none) := ⟨fun pins s σ H Q I ⟨ρ, F, e, b, h⟩ => po_none.run pins s σ H Q I (PostR.val h b rfl)⟩
@[reducible] def rPart (fa : Rho → R D) : Rho → R (Option Int) := fun ρ => (fa ρ).bind asI
theorem o_some (ha : PE X a (tE G E fa)) : PO X (some a) (tO G E (rPart fa)) := ⟨fun pins s σ H Q I ⟨ρ, F, e, b, h⟩ => (po_some ha).run pins s σ H Q I ⟨ρ, F, e, b, PostR.seq h fun d x F1 H1 _ s1 d1 h1 => by
  cases d1 with
  | int i => exact ⟨i, rfl, PostR.val (show PostR G (fun _ x y => x = y) E F1 H1 Q (.ok (some i)) from h1) s1.base rfl⟩
  | _ => exact (show False from h1).elim⟩⟩
def rSlAll (K : PySem.W.Frag) : V → Option Int → Option Int → Hp → VK → Prop := fun x lo hi H Q => rSlL K x lo hi H Q ∨ rSlA K x lo hi H Q
theorem sl_all : SlR X (rSlAll X.K) := sl_list.or sl_tupA
@[reducible] def pSl (x : D) (lo hi : Option Int) : R D := match x with
  | .list ds => .ok (.list (cut ds lo hi))
  | .tuple ds => .ok (.tuple (cut ds lo hi))
  | _ => .bad
@[reducible] def rSlice (fa : Rho → R D) (fl fh : Rho → R (Option Int)) : Rho → R D := fun ρ => (fa ρ).bind fun x => (fl ρ).bind fun l => (fh ρ).bind fun u => pSl x l u
theorem e_slice {lo hi : Option Expr} {fl fh : Rho → R (Option Int)} (ha : PE X a (tE G E fa)) (hl : PO X lo (tO G E fl)) (hh : PO X hi (tO G E fh)) (hK : X.K = G.K := by rfl) : PE X (.Subscript a (.Slice lo hi none p2) pos) (tE G E (rSlice fa fl fh)) :=
  pe_imp (pe_slice sl_all ha hl hh) fun σ H Q ⟨ρ, F, e, b, h⟩ => ⟨ρ, F, e, b, PostR.seq h fun d x F1 H1 _ s1 d1 h1 => ⟨ρ, F1, e.step s1, s1.base, PostR.seq h1 fun l l' F2 H2 _ s2 d2 h2 => ⟨ρ, F2, (e.step s1).step s2, s2.base, PostR.seq h2 fun u u' F3 H3 _ s3 d3 h3 => by
    subst d2 d3
    rw [hK]
    have d1' := d1.mono (s2.ff.trans s3.ff)
    cases d1' with
    | @lst p vs ds hp hd =>
      have h4 : PostR G (Dd G.K) E F3 H3 Q (.ok (.list (cut ds l' u'))) := h3
      exact .inl ⟨p, vs, rfl, SqL.of (s3.base.sub _ _ hp), fun q hq => h4.new s3.base hq lst_ne (.lst upd_same (dd_self (s3.base.free hq) (cut_dd hd l' u')))⟩
    | @tup p vs ds hp hd =>
      have h4 : PostR G (Dd G.K) E F3 H3 Q (.ok (.tuple (cut ds l' u'))) := h3
      refine .inr ⟨p, vs, rfl, s3.base.sub.sqT hp, fun z => ?_, fun _ q hq => h4.new s3.base hq tup_ne (.tup (SqT.of upd_same) (dd_self (s3.base.free hq) (cut_dd hd l' u')))⟩
      rw [hd.length] at z
      rw [cut_all z] at h4
      exact h4.val s3.base (.tup hp hd)
    | _ => exact (show False from h3).elim⟩⟩⟩
end
end Py

namespace Py
open PySem PySem.Spec PyProof.Rows L2 LamX

/-! ### outcomes of a block -/
inductive O where
  | nx (ρ : Rho) | ret (d : D) | err (c : Er) | bad | brk (ρ : Rho) | ct (ρ : Rho)
@[reducible] def oB {α : Type} (r : R α) (k : α → O) : O := match r with
  | .ok a => k a
  | .err c => .err c
  | .bad => .bad
@[reducible] def oS (o : O) (k : Rho → O) : O := match o with
  | .nx ρ => k ρ
  | o => o
structure In0 (G : Gb) (F0 H0 F H : Hp) (σ : L2.St) (ρ : Rho) : Prop where
  st : Step G F0 H0 F H
  env : EnvOk G.K F H σ ρ
  ow : ∀ (i : Nat) (p : Addr) (s : Sl) (o : HO), ρ[i]? = some s → s.isOwn = true → σ[i]? = some (some (.ref p)) → H0 p = some o → ∃ ps, o = .tbl ps
theorem In0.base {G : Gb} {F0 H0 F H : Hp} {σ : L2.St} {ρ : Rho} (i : In0 G F0 H0 F H σ ρ) : Base G F H := i.st.base
theorem In0.step {G : Gb} {F0 H0 F H F' H' : Hp} {σ : L2.St} {ρ : Rho} (i : In0 G F0 H0 F H σ ρ) (s : Step G F H F' H') : In0 G F0 H0 F' H' σ ρ := ⟨i.st.trans s, i.env.step s, i.ow⟩
/-- a greater frozen part as the start -/
theorem In0.rebase {G : Gb} {F0 H0 F1 F H : Hp} {σ : L2.St} {ρ : Rho} (i : In0 G F0 H0 F1 H σ ρ) : In0 G F1 H0 F1 H σ ρ := ⟨⟨.refl _, i.st.hh, i.st.base, fun _ _ _ _ n => n⟩, i.env, i.ow⟩
theorem Step.unbase {G : Gb} {F0 H0 F1 H1 F H : Hp} (s : Step G F0 H0 F1 H1) (t : Step G F1 H0 F H) : Step G F0 H0 F H := ⟨s.ff.trans t.ff, t.hh, t.base, fun a o h z n => t.own a o h z (s.own a o h z n)⟩
theorem In0.unbase {G : Gb} {F0 H0 F1 H1 F H : Hp} {σ : L2.St} {ρ : Rho} (s : Step G F0 H0 F1 H1) (i : In0 G F1 H0 F H σ ρ) : In0 G F0 H0 F H σ ρ := ⟨s.unbase i.st, i.env, i.ow⟩
def PostO (G : Gb) (E : XK) (F0 H0 : Hp) (D : Ends) : O → Prop
  | .nx ρ' => ∀ σ' F' H', In0 G F0 H0 F' H' σ' ρ' → D.nx σ' H'
  | .ret d => ∀ v F' H', Step G F0 H0 F' H' → Dd G.K F' v d → D.rt v H'
  | .err c => ∀ F' H', Step G F0 H0 F' H' → E (.ref (G.xc c)) none H'
  | .brk ρ' => ∀ σ' F' H', In0 G F0 H0 F' H' σ' ρ' → D.bk σ' H'
  | .ct ρ' => ∀ σ' F' H', In0 G F0 H0 F' H' σ' ρ' → D.ct σ' H'
  | .bad => False
def tS (G : Gb) (E : XK) (g : Rho → O) : TS := fun D σ H => ∃ F0 H0 ρ F, In0 G F0 H0 F H σ ρ ∧ PostO G E F0 H0 D (g ρ)
section
variable {G : Gb} {E : XK} {F0 H0 F H : Hp} {σ : L2.St} {ρ : Rho} {D : Ends}
theorem PostO.seq {γ δ : Type} {rel2 : Hp → δ → γ → Prop} {Q2 : δ → Hp → Prop} {r : R γ} {k : γ → O} (h : PostO G E F0 H0 D (oB r k)) (s0 : Step G F0 H0 F H)
    (h2 : ∀ a x F' H', r = .ok a → Step G F H F' H' → rel2 F' x a → PostO G E F0 H0 D (k a) → Q2 x H') : PostR G rel2 E F H Q2 r := by
  cases r with
  | ok a => exact fun x F' H' s q => h2 a x F' H' rfl s q h
  | err c => exact fun F' H' s => h F' H' (s0.trans s)
  | bad => exact h
theorem PostO.rebase {F1 H1 : Hp} {o : O} (s : Step G F0 H0 F1 H1) (h : PostO G E F0 H0 D o) : PostO G E F1 H0 D o := by
  cases o with
  | nx ρ => exact fun σ' F' H' i => h σ' F' H' (i.unbase s)
  | ret d => exact fun v F' H' t q => h v F' H' (s.unbase t) q
  | err c => exact fun F' H' t => h F' H' (s.unbase t)
  | brk ρ => exact fun σ' F' H' i => h σ' F' H' (i.unbase s)
  | ct ρ => exact fun σ' F' H' i => h σ' F' H' (i.unbase s)
  | bad => exact h
/-- a slot set to data -/
theorem In0.set (i : In0 G F0 H0 F H σ ρ) (j : Nat) {v : V} {d : PyData} (h : Dd G.K F v d) : In0 G F0 H0 F H (σ.set j (some v)) (ρ.set j (.dat d)) := by
  refine ⟨i.st, i.env.set j h, fun k p s o h1 h2 h3 h4 => ?_⟩
  by_cases e : j = k
  · subst e
    rw [List.getElem?_set_self'] at h1
    cases e1 : ρ[j]? with
    | none =>
      rw [e1] at h1
      cases h1
    | some s0 =>
      rw [e1] at h1
      cases h1
      cases h2
  · rw [List.getElem?_set_ne e] at h1 h3
    exact i.ow k p s o h1 h2 h3 h4
theorem In0.forget (i : In0 G F0 H0 F H σ ρ) (j : Nat) (ov : Option V) : In0 G F0 H0 F H (σ.set j ov) (ρ.set j .no) := by
  refine ⟨i.st, i.env.drop j ov, fun k p s o h1 h2 h3 h4 => ?_⟩
  by_cases e : j = k
  · subst e
    rw [List.getElem?_set_self'] at h1
    cases e1 : ρ[j]? with
    | none =>
      rw [e1] at h1
      cases h1
    | some s0 =>
      rw [e1] at h1
      cases h1
      cases h2
  · rw [List.getElem?_set_ne e] at h1 h3
    exact i.ow k p s o h1 h2 h3 h4
end

/-! ### sequences, small statements -/
section
variable {X : Cx} {G : Gb} {E : XK} {a b c : Expr} {fa fb fc : Rho → R D} {pos : Pos} {st : Stmt} {rest : List Stmt} {g g1 g2 : Rho → O} {tc : Rho → R Bool}
@[reducible] def gSeq (g1 g2 : Rho → O) : Rho → O := fun ρ => oS (g1 ρ) g2
theorem PostO.oS {F0 H0 : Hp} {D : Ends} {o : O} (h : PostO G E F0 H0 D (Py.oS o g2)) : PostO G E F0 H0 { D with nx := tS G E g2 D } o := by
  cases o with
  | nx ρ => exact fun σ' F' H' i => ⟨F0, H0, ρ, F', i, h⟩
  | ret d => exact h
  | err c => exact h
  | brk ρ => exact h
  | ct ρ => exact h
  | bad => exact h
theorem ss_nil : PSs X [] (tS G E .nx) := pss_imp pss_nil fun D σ H ⟨F0, H0, ρ, F, i, h⟩ => h σ F H i
theorem ss_cons (h1 : PS X st (tS G E g1)) (h2 : PSs X rest (tS G E g2)) : PSs X (st :: rest) (tS G E (gSeq g1 g2)) :=
  pss_imp (pss_cons h1 h2) fun D σ H ⟨F0, H0, ρ, F, i, h⟩ => ⟨F0, H0, ρ, F, i, h.oS⟩
theorem ss_one (h1 : PS X st (tS G E g)) : PSs X [st] (tS G E g) := pss_one h1
theorem s_pass : PS X (.Pass pos) (tS G E .nx) := ps_imp ps_pass fun D σ H ⟨F0, H0, ρ, F, i, h⟩ => h σ F H i
theorem s_break : PS X (.Break pos) (tS G E .brk) := ps_imp ps_break fun D σ H ⟨F0, H0, ρ, F, i, h⟩ => h σ F H i
theorem s_continue : PS X (.Continue pos) (tS G E .ct) := ps_imp ps_continue fun D σ H ⟨F0, H0, ρ, F, i, h⟩ => h σ F H i
@[reducible] def gRet (f : Rho → R D) : Rho → O := fun ρ => oB (f ρ) .ret
theorem s_ret (h : PE X a (tE G E fa)) : PS X (.Return (some a) pos) (tS G E (gRet fa)) :=
  ps_imp (ps_ret h) fun D σ H ⟨F0, H0, ρ, F, i, h⟩ => ⟨ρ, F, i.env, i.base, PostO.seq h i.st fun d x F1 H1 _ s1 d1 h1 => h1 x F1 H1 (i.st.trans s1) d1⟩
theorem s_retN : PS X (.Return none pos) (tS G E fun _ => .ret .none) := ps_imp ps_retN fun D σ H ⟨F0, H0, ρ, F, i, h⟩ => h .non F H i.st .non
@[reducible] def gDrop (f : Rho → R D) : Rho → O := fun ρ => oB (f ρ) fun _ => .nx ρ
theorem s_expr (h : PE X a (tE G E fa)) (hs : swapsWith a none pos.line X.env = pure false := by rfl) : PS X (.Expr a pos) (tS G E (gDrop fa)) :=
  ps_imp (ps_expr h hs) fun D σ H ⟨F0, H0, ρ, F, i, h⟩ => ⟨ρ, F, i.env, i.base, PostO.seq h i.st fun d x F1 H1 _ s1 d1 h1 => h1 σ F1 H1 (i.step s1)⟩
@[reducible] def gIf (t : Rho → R Bool) (g1 g2 : Rho → O) : Rho → O := fun ρ => oB (t ρ) fun k => if k = true then g1 ρ else g2 ρ
theorem s_if {p q : List Stmt} (hc : PT X c (tT G E tc)) (h1 : PSs X p (tS G E g1)) (h2 : PSs X q (tS G E g2)) : PS X (.If c p q pos) (tS G E (gIf tc g1 g2)) :=
  ps_imp (ps_if hc h1 h2) fun D σ H ⟨F0, H0, ρ, F, i, h⟩ => ⟨ρ, F, i.env, i.base, PostO.seq h i.st fun k x F1 H1 _ s1 d1 h1 => by
    subst d1
    cases x with
    | true => exact ⟨F0, H0, ρ, F1, i.step s1, h1⟩
    | false => exact ⟨F0, H0, ρ, F1, i.step s1, h1⟩⟩
@[reducible] def gSet (i : Nat) (f : Rho → R D) : Rho → O := fun ρ => oB (f ρ) fun d => .nx (ρ.set i (.dat d))
theorem s_set (i : Nat) {x : Str} {pos' : Pos} (hN : X.N.Nodup) (ha : PE X a (tE G E fa)) (hi : X.N[i]? = some x := by rfl) (hx : Loc X.env.scope x := by first | exact Or.inl rfl | exact Or.inr rfl) (hs : swapsWith a (some (.Name x pos')) pos.line X.env = pure false := by rfl) (hf : X.fn x = true ∨ X.env.scope.names.lookup x = some .local := by first | exact .inl rfl | exact .inr rfl | assumption) :
    PS X (.Assign [.Name x pos'] a pos) (tS G E (gSet i fa)) :=
  ps_imp (ps_set hN hi hx ha hs hf) fun D σ H ⟨F0, H0, ρ, F, i0, h⟩ => ⟨ρ, F, i0.env, i0.base, PostO.seq h i0.st fun d v F1 H1 _ s1 d1 h1 => h1 _ F1 H1 ((i0.step s1).set i d1)⟩

/-! ### the frozen slots -/
@[reducible] def fz1 (ρ : Rho) (j : Nat) : Rho := match ρ[j]? with
  | some (.own ds) => ρ.set j (.dat (.list ds))
  | _ => ρ
@[reducible] def fzs (js : List Nat) (ρ : Rho) : Rho := js.foldl fz1 ρ
theorem upd_sub {F H : Hp} {p : Addr} {o : HO} (h : Sub F H) (hp : H p = some o) : Sub (upd F p o) H := fun a u e => by
  by_cases z : a = p
  · subst z
    rw [upd_same] at e
    rw [← e]
    exact hp
  · rw [upd_ne z] at e
    exact h a u e
theorem sub_upd {F : Hp} {p : Addr} {o : HO} (hp : F p = none) : Sub F (upd F p o) := fun a u e => by
  rw [upd_ne (ne_of_none e hp)]
  exact e
/-- one own list is frozen: its address, the greater part -/
theorem fz1_ok {G : Gb} {F H : Hp} {σ : L2.St} {ρ : Rho} (e : EnvOk G.K F H σ ρ) (b : Base G F H) (j : Nat) : ∃ F', EnvOk G.K F' H σ (fz1 ρ j) ∧ Base G F' H ∧ Sub F F' ∧
    (∀ a, F' a ≠ F a → ∃ vs, F a = none ∧ F' a = some (.lst vs) ∧ ∃ s : Sl, ρ[j]? = some s ∧ s.isOwn = true ∧ σ[j]? = some (some (V.ref a))) := by
  unfold fz1
  split
  · rename_i ds q
    obtain ⟨p, vs, h1, h2, h3, h4⟩ := e.getOwn q
    refine ⟨upd F p (.lst vs), ?_, ⟨upd_sub b.sub h3, fun a ps z => ?_, b.tab⟩, sub_upd h2, fun a z => ?_⟩
    · refine ⟨by rw [List.length_set]; exact e.len, fun i s ov g1 g2 => ?_, fun i k r s t hik g1 g2 o1 o2 => ?_⟩
      · by_cases hj : j = i
        · subst hj
          rw [List.getElem?_set_self', q] at g1
          cases g1
          rw [h1] at g2
          cases g2
          exact ⟨.ref p, rfl, .lst upd_same (h4.mono (sub_upd h2))⟩
        · rw [List.getElem?_set_ne hj] at g1
          have z := e.at_ i s ov g1 g2
          cases s with
          | no => trivial
          | dat d =>
            obtain ⟨v, e1, e2⟩ := z
            exact ⟨v, e1, e2.mono (sub_upd h2)⟩
          | own es =>
            obtain ⟨r, ws, e1, e2, e3, e4⟩ := z
            have nr : r ≠ p := fun y => by
              subst y
              rw [e1] at g2
              exact e.apart j i r (.own ds) (.own es) hj q g1 rfl rfl h1 g2
            exact ⟨r, ws, e1, by rw [upd_ne nr]; exact e2, e3, e4.mono (sub_upd h2)⟩
          | raw v => exact z
          | tab hs t =>
            obtain ⟨r, xs, e1, e2, e3⟩ := z
            have nr : r ≠ p := fun y => by
              subst y
              rw [h2] at e2
              cases e2
            exact ⟨r, xs, e1, by rw [upd_ne nr]; exact e2, e3.mono (sub_upd h2)⟩
      · have nj : j ≠ i := fun z => by
          subst z
          rw [List.getElem?_set_self', q] at g1
          cases g1
          cases o1
        have nk : j ≠ k := fun z => by
          subst z
          rw [List.getElem?_set_self', q] at g2
          cases g2
          cases o2
        rw [List.getElem?_set_ne nj] at g1
        rw [List.getElem?_set_ne nk] at g2
        exact e.apart i k r s t hik g1 g2 o1 o2
    · by_cases y : a = p
      · subst y
        rw [upd_same] at z
        cases z
      · rw [upd_ne y] at z
        exact b.nt a ps z
    · by_cases y : a = p
      · subst y
        exact ⟨vs, h2, upd_same, _, q, rfl, h1⟩
      · rw [upd_ne y] at z
        exact (z rfl).elim
  · exact ⟨F, e, b, .refl F, fun a z => (z rfl).elim⟩
theorem fz1_own {ρ : Rho} {j k : Nat} {s : Sl} (h : (fz1 ρ j)[k]? = some s) (o : s.isOwn = true) : ρ[k]? = some s := by
  unfold fz1 at h
  split at h
  · rename_i ds q
    by_cases e : j = k
    · subst e
      rw [List.getElem?_set_self', q] at h
      cases h
      cases o
    · rw [List.getElem?_set_ne e] at h
      exact h
  · exact h
theorem fzs_ok {G : Gb} {H : Hp} {σ : L2.St} : ∀ (js : List Nat) {F : Hp} {ρ : Rho}, EnvOk G.K F H σ ρ → Base G F H → ∃ F', EnvOk G.K F' H σ (fzs js ρ) ∧ Base G F' H ∧ Sub F F' ∧
    (∀ a, F' a ≠ F a → ∃ vs, F a = none ∧ F' a = some (.lst vs) ∧ ∃ (j : Nat) (s : Sl), ρ[j]? = some s ∧ s.isOwn = true ∧ σ[j]? = some (some (V.ref a)))
  | [], F, ρ, e, b => ⟨F, e, b, .refl F, fun a z => (z rfl).elim⟩
  | j :: js, F, ρ, e, b => by
    obtain ⟨F1, e1, b1, s1, o1⟩ := fz1_ok e b j
    obtain ⟨F2, e2, b2, s2, o2⟩ := fzs_ok js e1 b1
    refine ⟨F2, e2, b2, s1.trans s2, fun a z => ?_⟩
    by_cases y : F2 a = F1 a
    · obtain ⟨vs, h1, h2, s, h3, h4, h5⟩ := o1 a (by rw [← y]; exact z)
      exact ⟨vs, h1, by rw [y]; exact h2, j, s, h3, h4, h5⟩
    · obtain ⟨vs, h1, h2, k, s, h3, h4, h5⟩ := o2 a y
      refine ⟨vs, ?_, h2, k, s, fz1_own h3 h4, h4, h5⟩
      cases q : F a with
      | none => rfl
      | some u =>
        rw [s1 a u q] at h1
        cases h1
theorem fzs_own : ∀ (js : List Nat) {ρ : Rho} {k : Nat} {s : Sl}, (fzs js ρ)[k]? = some s → s.isOwn = true → ρ[k]? = some s
  | [], _, _, _, h, _ => h
  | j :: js, _, _, _, h, o => fz1_own (fzs_own js h o) o
theorem In0.fz {F0 H0 F H : Hp} {σ : L2.St} {ρ : Rho} (i : In0 G F0 H0 F H σ ρ) (js : List Nat) : ∃ F', In0 G F0 H0 F' H σ (fzs js ρ) := by
  obtain ⟨F', e, b, s, o⟩ := fzs_ok js i.env i.base
  refine ⟨F', ⟨i.st.ff.trans s, i.st.hh, b, fun a u h z n => ?_⟩, e, fun k p t u h1 h2 h3 h4 => i.ow k p t u (fzs_own js h1 h2) h2 h3 h4⟩
  have n1 := i.st.own a u h z n
  cases q : F' a with
  | none => rfl
  | some y =>
    obtain ⟨vs, _, _, k, t, h1, h2, h3⟩ := o a (by rw [q, n1]; exact fun w => by cases w)
    obtain ⟨ps, e⟩ := i.ow k a t u h1 h2 h3 h
    exact (z ps e).elim
/-- from here on the own lists of these slots are frozen -/
@[reducible] def gFz (js : List Nat) (g : Rho → O) : Rho → O := fun ρ => g (fzs js ρ)
theorem s_fz (js : List Nat) (h : PS X st (tS G E g)) : PS X st (tS G E (gFz js g)) :=
  ps_imp h fun D σ H ⟨F0, H0, ρ, F, i, h⟩ => by
    obtain ⟨F', i'⟩ := i.fz js
    exact ⟨F0, H0, fzs js ρ, F', i', h⟩
/-- what is left of the greater part without the own lists -/
def less (F F1 F2 : Hp) : Hp := fun a => if ((F a).isNone && (F1 a).isSome) = true then none else F2 a
theorem less_none {F F1 F2 : Hp} {a : Addr} (h : F a = none) (h1 : ∃ o, F1 a = some o) : less F F1 F2 a = none := by
  obtain ⟨o, h1⟩ := h1
  unfold less
  rw [h, h1] <;> rfl
theorem less_eq {F F1 F2 : Hp} {a : Addr} (h : F a = F1 a) : less F F1 F2 a = F2 a := by
  unfold less
  rw [h]
  cases F1 a <;> rfl
theorem less_cases (F F1 F2 : Hp) (a : Addr) (o : HO) (h : less F F1 F2 a = some o) : F2 a = some o := by
  unfold less at h
  split at h
  · cases h
  · exact h
/-- a step over the greater part, seen from the lesser -/
theorem Step.tmp {F F1 H F2 H2 : Hp} (sf : Sub F F1) (s : Step G F1 H F2 H2) : Step G F H (less F F1 F2) H2 := by
  refine ⟨fun a o e => ?_, s.hh, ⟨fun a o e => s.base.sub a o (less_cases _ _ _ _ _ e), fun a ps e => s.base.nt a ps (less_cases _ _ _ _ _ e), s.base.tab⟩, fun a o h z n => ?_⟩
  · have e1 : F1 a = some o := sf a o e
    rw [less_eq (by rw [e, e1])]
    exact s.ff a o e1
  · cases q : F1 a with
    | some u => exact less_none n ⟨u, q⟩
    | none =>
      rw [less_eq (by rw [n, q])]
      exact s.own a o h z q
/-- a test that reads own lists -/
@[reducible] def rTmpB (js : List Nat) (t : Rho → R Bool) : Rho → R Bool := fun ρ => t (fzs js ρ)
theorem t_tmp (js : List Nat) (h : PT X c (tT G E tc)) : PT X c (tT G E (rTmpB js tc)) :=
  pt_imp h fun σ H Q ⟨ρ, F, e, b, h⟩ => by
    obtain ⟨F', e', b', s', o'⟩ := fzs_ok js e b
    refine ⟨fzs js ρ, F', e', b', ?_⟩
    have h1 : PostR G (fun _ b c => b = c) E F H Q (tc (fzs js ρ)) := h
    cases q : tc (fzs js ρ) with
    | ok k =>
      rw [q] at h1
      exact fun x F2 H2 s2 d2 => h1 x _ H2 (s2.tmp s') d2
    | err k =>
      rw [q] at h1
      exact fun F2 H2 s2 => h1 _ H2 (s2.tmp s')
    | bad =>
      rw [q] at h1
      exact h1
mutual
def lf : D → Bool
  | .list _ => false
  | .tuple ds => lfs ds
  | .dict _ => false
  | _ => true
def lfs : List D → Bool
  | [] => true
  | d :: ds => lf d && lfs ds
end
mutual
theorem Dd.lfree {K : PySem.W.Frag} {F F' : Hp} (hs : ∀ a xs, SqT K F a xs → SqT K F' a xs) : ∀ {v : V} {d : D}, Dd K F v d → lf d = true → Dd K F' v d
  | _, _, .non, _ => .non
  | _, _, .bl b, _ => .bl b
  | _, _, .int i, _ => .int i
  | _, _, .str x, _ => .str x
  | _, _, .lst h a, q => by simp [lf] at q
  | _, _, .tup h a, q => .tup (hs _ _ h) (DdAll.lfree hs a (by simpa only [lf] using q))
  | _, _, .scr h, q => by
    have z : lf (.dict [(.none, .list _)]) = true := q
    simp [lf] at z
  | _, _, .dct h a, q => by simp [lf] at q
theorem DdAll.lfree {K : PySem.W.Frag} {F F' : Hp} (hs : ∀ a xs, SqT K F a xs → SqT K F' a xs) : ∀ {vs : List V} {ds : List D}, DdAll K F vs ds → lfs ds = true → DdAll K F' vs ds
  | _, _, .nil, _ => .nil
  | _, _, .cons h t, q => by
    have q2 := q
    simp only [lfs, Bool.and_eq_true] at q2
    exact .cons (Dd.lfree hs h q2.1) (DdAll.lfree hs t q2.2)
end
@[reducible] def ckLf (d : D) : R D := if lf d = true then .ok d else .bad
@[reducible] def rTmp (js : List Nat) (f : Rho → R D) : Rho → R D := fun ρ => (f (fzs js ρ)).bind ckLf
theorem e_tmp (js : List Nat) (h : PE X a (tE G E fa)) : PE X a (tE G E (rTmp js fa)) :=
  pe_imp h fun σ H Q ⟨ρ, F, e, b, h⟩ => by
    obtain ⟨F', e', b', s', o'⟩ := fzs_ok js e b
    refine ⟨fzs js ρ, F', e', b', ?_⟩
    have h1 : PostR G (Dd G.K) E F H Q ((fa (fzs js ρ)).bind ckLf) := h
    cases q : fa (fzs js ρ) with
    | ok d =>
      rw [q] at h1
      have h2 : PostR G (Dd G.K) E F H Q (if lf d = true then .ok d else .bad) := h1
      split at h2
      · rename_i ql
        refine fun x F2 H2 s2 d2 => h2 x _ H2 (s2.tmp s') (d2.lfree (fun a xs z => ?_) ql)
        rcases z with (z | ⟨ob, z⟩) | z
        · refine .inl (.inl ?_)
          cases y : F' a with
          | none =>
            rw [less_eq (by
              rw [y]
              cases y2 : F a with
              | none => rfl
              | some u =>
                rw [s' a u y2] at y
                cases y)]
            exact z
          | some w =>
            by_cases y2 : F' a = F a
            · rw [less_eq y2.symm]
              exact z
            · obtain ⟨vs, _, h4, _⟩ := o' a y2
              rw [s2.ff a _ h4] at z
              cases z
        · refine .inl (.inr ⟨ob, ?_⟩)
          cases y : F' a with
          | none =>
            rw [less_eq (by
              rw [y]
              cases y2 : F a with
              | none => rfl
              | some u =>
                rw [s' a u y2] at y
                cases y)]
            exact z
          | some w =>
            by_cases y2 : F' a = F a
            · rw [less_eq y2.symm]
              exact z
            · obtain ⟨vs, _, h4, _⟩ := o' a y2
              rw [s2.ff a _ h4] at z
              cases z
        · exact .inr z
      · exact (show False from h2).elim
    | err k =>
      rw [q] at h1
      exact fun F2 H2 s2 => h1 _ H2 (s2.tmp s')
    | bad =>
      rw [q] at h1
      exact h1
end
end Py

namespace Py
open PySem PySem.Spec PyProof.Rows L2 LamX

/-! ### own lists: made, grown -/
theorem TabS.upd {H : Hp} {P p : Addr} {q : Str} {vs : List V} {o : HO} (t : TabS H P q) (hp : H p = some (.lst vs)) : TabS (upd H p o) P q := by
  obtain ⟨ps, h1, h2, h3⟩ := t
  have nP : P ≠ p := ne_of h1 hp (by intro z; cases z)
  refine ⟨ps, by rw [upd_ne nP]; exact h1, h2, fun pos cv hc => ?_⟩
  obtain ⟨c, e1, e2⟩ := h3 pos cv hc
  have nc : c ≠ p := ne_of e2 hp (by intro z; unfold CodeO at z; cases z)
  exact ⟨c, e1, by rw [upd_ne nc]; exact e2⟩
theorem Tabs.upd {T : List (Addr × Str)} {H : Hp} {p : Addr} {vs : List V} {o : HO} (t : Tabs T H) (hp : H p = some (.lst vs)) : Tabs T (upd H p o) := fun x hx => TabS.upd (t x hx) hp
section
variable {G : Gb} {E : XK} {F0 H0 F H : Hp} {σ : L2.St} {ρ : Rho}
/-- a new own list in slot j -/
theorem In0.mkOwn (i : In0 G F0 H0 F H σ ρ) (j : Nat) {p : Addr} {vs : List V} {ds : List D} (hp : H p = none) (hd : DdAll G.K F vs ds) : In0 G F0 H0 F (upd H p (.lst vs)) (σ.set j (some (.ref p))) (ρ.set j (.own ds)) := by
  have hx : ∀ a u, H a = some u → upd H p (.lst vs) a = some u := fun a u h => by
    rw [upd_ne (ne_of_none h hp)]
    exact h
  have hF : F p = none := i.base.free hp
  refine ⟨⟨i.st.ff, fun a u h z => hx a u (i.st.hh a u h z), ⟨fun a u h => hx a u (i.base.sub a u h), i.base.nt, i.base.tab.ext hx⟩, i.st.own⟩, ⟨by rw [List.length_set, List.length_set, i.env.len], fun k s ov h1 h2 => ?_, fun k l r s t hkl h1 h2 o1 o2 e1 e2 => ?_⟩, fun k r s o h1 h2 h3 h4 => ?_⟩
  · by_cases hj : j = k
    · subst hj
      rw [List.getElem?_set_self'] at h1 h2
      cases e1 : ρ[j]? with
      | none =>
        rw [e1] at h1
        cases h1
      | some s0 =>
        rw [e1] at h1
        cases e2 : σ[j]? with
        | none =>
          rw [e2] at h2
          cases h2
        | some o0 =>
          rw [e2] at h2
          cases h1
          cases h2
          exact ⟨p, vs, rfl, hF, upd_same, hd⟩
    · rw [List.getElem?_set_ne hj] at h1 h2
      have z := i.env.at_ k s ov h1 h2
      cases s with
      | no => trivial
      | dat d => exact z
      | own es =>
        obtain ⟨r, ws, q1, q2, q3, q4⟩ := z
        exact ⟨r, ws, q1, q2, hx _ _ q3, q4⟩
      | raw v => exact z
      | tab hs t => exact z
  · -- two own slots
    have old : ∀ {k : Nat} {s : Sl} {r : Addr}, j ≠ k → (ρ.set j (.own ds))[k]? = some s → s.isOwn = true → (σ.set j (some (.ref p)))[k]? = some (some (.ref r)) → r ≠ p := fun {k s r} hk g1 g2 g3 z => by
      rw [List.getElem?_set_ne hk] at g1 g3
      have y := i.env.at_ k s _ g1 g3
      cases s with
      | own es =>
        obtain ⟨r', ws, q1, q2, q3, q4⟩ := y
        cases q1
        rw [z, hp] at q3
        cases q3
      | _ => cases g2
    have at_j : ∀ {r : Addr}, (σ.set j (some (.ref p)))[j]? = some (some (.ref r)) → r = p := fun {r} g => by
      rw [List.getElem?_set_self'] at g
      cases e2 : σ[j]? with
      | none =>
        rw [e2] at g
        cases g
      | some o0 =>
        rw [e2] at g
        cases g
        rfl
    by_cases hk : j = k
    · subst hk
      exact old hkl h2 o2 e2 (at_j e1)
    · by_cases hl : j = l
      · subst hl
        exact old hk h1 o1 e1 (at_j e2)
      · rw [List.getElem?_set_ne hk] at h1 e1
        rw [List.getElem?_set_ne hl] at h2 e2
        exact i.env.apart k l r s t hkl h1 h2 o1 o2 e1 e2
  · by_cases hj : j = k
    · subst hj
      rw [List.getElem?_set_self'] at h3
      cases e2 : σ[j]? with
      | none =>
        rw [e2] at h3
        cases h3
      | some o0 =>
        rw [e2] at h3
        cases h3
        cases o with
        | tbl ps => exact ⟨ps, rfl⟩
        | _ =>
          have y := i.st.hh _ _ h4 (fun ps z => by cases z)
          rw [hp] at y
          cases y
    · rw [List.getElem?_set_ne hj] at h1 h3
      exact i.ow k r s o h1 h2 h3 h4
/-- the own list in slot j is changed -/
theorem In0.chOwn (i : In0 G F0 H0 F H σ ρ) {j : Nat} {p : Addr} {vs ws : List V} {ds es : List D} (hj : ρ[j]? = some (.own ds)) (hσ : σ[j]? = some (some (.ref p))) (hp : H p = some (.lst vs)) (hF : F p = none) (hd : DdAll G.K F ws es) : In0 G F0 H0 F (upd H p (.lst ws)) σ (ρ.set j (.own es)) := by
  have hx : ∀ a u, a ≠ p → H a = some u → upd H p (.lst ws) a = some u := fun a u n h => by
    rw [upd_ne n]
    exact h
  have hlt : j < ρ.length := (List.getElem?_eq_some_iff.mp hj).1
  refine ⟨⟨i.st.ff, fun a u h z => ?_, ⟨fun a u h => hx a u (ne_of_none h hF) (i.base.sub a u h), i.base.nt, Tabs.upd i.base.tab hp⟩, i.st.own⟩, ⟨by rw [List.length_set, i.env.len], fun k s ov h1 h2 => ?_, fun k l r s t hkl h1 h2 o1 o2 e1 e2 => ?_⟩, fun k r s o h1 h2 h3 h4 => ?_⟩
  · by_cases e : a = p
    · subst e
      obtain ⟨ps, e⟩ := i.ow j a _ u hj rfl hσ h
      exact (z ps e).elim
    · exact hx a u e (i.st.hh a u h z)
  · by_cases hk : j = k
    · subst hk
      rw [List.getElem?_set_self hlt] at h1
      cases h1
      rw [hσ] at h2
      cases h2
      exact ⟨p, ws, rfl, hF, upd_same, hd⟩
    · rw [List.getElem?_set_ne hk] at h1
      have z := i.env.at_ k s ov h1 h2
      cases s with
      | no => trivial
      | dat d => exact z
      | own es =>
        obtain ⟨r, xs, q1, q2, q3, q4⟩ := z
        have nr : r ≠ p := fun y => by
          subst y
          rw [q1] at h2
          exact i.env.apart j k r _ _ hk hj h1 rfl rfl hσ h2
        exact ⟨r, xs, q1, q2, hx _ _ nr q3, q4⟩
      | raw v => exact z
      | tab hs t => exact z
  · have old : ∀ {k : Nat} {s : Sl}, (ρ.set j (.own es))[k]? = some s → s.isOwn = true → ∃ s', ρ[k]? = some s' ∧ s'.isOwn = true := fun {k s} g1 g2 => by
      by_cases hk : j = k
      · subst hk
        exact ⟨_, hj, rfl⟩
      · rw [List.getElem?_set_ne hk] at g1
        exact ⟨s, g1, g2⟩
    obtain ⟨s', q1, q2⟩ := old h1 o1
    obtain ⟨t', q3, q4⟩ := old h2 o2
    exact i.env.apart k l r s' t' hkl q1 q3 q2 q4 e1 e2
  · by_cases hk : j = k
    · subst hk
      exact i.ow j r _ o hj rfl h3 h4
    · rw [List.getElem?_set_ne hk] at h1
      exact i.ow k r s o h1 h2 h3 h4
end
section
variable {X : Cx} {G : Gb} {E : XK} {a b c : Expr} {es : List Expr} {fa fb fc : Rho → R D} {fs : Rho → R (List D)} {pos p2 : Pos} {st : Stmt} {rest : List Stmt} {g g1 g2 gb : Rho → O} {tc : Rho → R Bool}
@[reducible] def gOwn (i : Nat) (fs : Rho → R (List D)) : Rho → O := fun ρ => oB (fs ρ) fun ds => if ds.length ≤ maxL then .nx (ρ.set i (.own ds)) else .bad
theorem s_own (i : Nat) {x : Str} {pos' pl : Pos} (hN : X.N.Nodup) (ha : PA X es (tA G E fs)) (hi : X.N[i]? = some x := by rfl) (hx : Loc X.env.scope x := by first | exact Or.inl rfl | exact Or.inr rfl) (hs : swapsWith (.List es pl) (some (.Name x pos')) pos.line X.env = pure false := by rfl) (hf : X.fn x = true ∨ X.env.scope.names.lookup x = some .local := by first | exact .inl rfl | exact .inr rfl | assumption) :
    PS X (.Assign [.Name x pos'] (.List es pl) pos) (tS G E (gOwn i fs)) :=
  ps_imp (ps_set hN hi hx (pe_lst ha) hs hf) fun D σ H ⟨F0, H0, ρ, F, i0, h⟩ => ⟨ρ, F, i0.env, i0.base, PostO.seq h i0.st fun ds vs F1 H1 _ s1 d1 h1 => by
    have h2 : PostO G E F0 H0 D (if ds.length ≤ maxL then .nx (ρ.set i (.own ds)) else .bad) := h1
    split at h2
    · rename_i q
      exact ⟨by rw [d1.length]; exact maxL_line q, fun p hp => h2 _ F1 _ ((i0.step s1).mkOwn i hp d1)⟩
    · exact (show False from h2).elim⟩
@[reducible] def getO (ρ : Rho) (i : Nat) : R (List D) := match ρ[i]? with
  | some (.own ds) => .ok ds
  | _ => .bad
theorem getO_ok {ρ : Rho} {i : Nat} {ds : List D} (h : getO ρ i = .ok ds) : ρ[i]? = some (.own ds) := by
  unfold getO at h
  split at h
  · rename_i ds' q
    cases h
    exact q
  · cases h
@[reducible] def gApp (i : Nat) (f : Rho → R D) : Rho → O := fun ρ => oB (getO ρ i) fun ds => oB (f ρ) fun d => if ds.length < maxL then .nx (ρ.set i (.own (ds ++ [d]))) else .bad
theorem oB_getO {G : Gb} {F0 H0 : Hp} {D : Ends} {ρ : Rho} {i : Nat} {k : List PyData → O} (h : PostO G E F0 H0 D (oB (getO ρ i) k)) : ∃ ds, ρ[i]? = some (.own ds) ∧ PostO G E F0 H0 D (k ds) := by
  cases q : getO ρ i with
  | ok ds =>
    rw [q] at h
    exact ⟨ds, getO_ok q, h⟩
  | err c =>
    unfold getO at q
    split at q <;> cases q
  | bad =>
    rw [q] at h
    exact (show False from h).elim
theorem s_app (i : Nat) {x : Str} {px pa pc : Pos} (ha : PE X a (tE G E fa)) (hN : X.N[i]? = some x := by rfl) (hv : Vis X.env.scope x := by first | exact Or.inl rfl | exact Or.inr (Or.inl rfl) | exact Or.inr (Or.inr rfl)) (hd : (x == ("__debug__" : Str)) = false := by decide) (hcd : (x == ("__classdict__" : Str)) = false := by decide)
    (h : ∀ {t : TE}, PE X (.Name x px) (tVar i) → PE X a t → PE X (.Call (.Attribute (.Name x px) "append" pa) [a] [] pc) (tBM X.K "list" rAppend (tVar i) (tCons t tNil))) (hs : swapsWith (.Call (.Attribute (.Name x px) "append" pa) [a] [] pc) none pos.line X.env = pure false := by rfl) :
    PS X (.Expr (.Call (.Attribute (.Name x px) "append" pa) [a] [] pc) pos) (tS G E (gApp i fa)) :=
  ps_imp (ps_expr (h (pe_var hN hv hd hcd) ha) hs) fun D σ H ⟨F0, H0, ρ, F, i0, h⟩ => by
    obtain ⟨ds, q, h⟩ := oB_getO h
    obtain ⟨p, vs, e1, e2, e3, e4⟩ := i0.env.getOwn q
    refine ⟨.ref p, e1, .inl ⟨rfl, vs, SqL.of e3⟩, ρ, F, i0.env, i0.base, PostO.seq h i0.st fun d v F1 H1 _ s1 d1 h1 => ?_⟩
    have h2 : PostO G E F0 H0 D (if ds.length < maxL then .nx (ρ.set i (.own (ds ++ [d]))) else .bad) := h1
    split at h2
    · rename_i ql
      have e3' := s1.hh p _ e3 (fun ps => lst_ne ps)
      exact ⟨p, vs, v, rfl, rfl, e3', by rw [e4.length]; exact maxL_lt (Nat.le_of_lt ql), h2 _ F1 _ ((i0.step s1).chOwn q e1 e3' (s1.own p _ e3 (fun ps => lst_ne ps) e2) ((e4.mono s1.ff).append (.cons d1 .nil)))⟩
    · exact (show False from h2).elim
@[reducible] def asL : D → R (List D)
  | .list ds => .ok ds
  | _ => .bad
@[reducible] def gExt (i : Nat) (f : Rho → R D) : Rho → O := fun ρ => oB (getO ρ i) fun ds => oB (f ρ) fun d => oB (asL d) fun es => if ds.length + es.length ≤ maxL then .nx (ρ.set i (.own (ds ++ es))) else .bad
theorem s_ext (i : Nat) {x : Str} {px pa pc : Pos} (ha : PE X a (tE G E fa)) (hN : X.N[i]? = some x := by rfl) (hv : Vis X.env.scope x := by first | exact Or.inl rfl | exact Or.inr (Or.inl rfl) | exact Or.inr (Or.inr rfl)) (hd : (x == ("__debug__" : Str)) = false := by decide) (hcd : (x == ("__classdict__" : Str)) = false := by decide)
    (h : ∀ {t : TE}, PE X (.Name x px) (tVar i) → PE X a t → PE X (.Call (.Attribute (.Name x px) "extend" pa) [a] [] pc) (tBM X.K "list" rExtend (tVar i) (tCons t tNil))) (hs : swapsWith (.Call (.Attribute (.Name x px) "extend" pa) [a] [] pc) none pos.line X.env = pure false := by rfl) :
    PS X (.Expr (.Call (.Attribute (.Name x px) "extend" pa) [a] [] pc) pos) (tS G E (gExt i fa)) :=
  ps_imp (ps_expr (h (pe_var hN hv hd hcd) ha) hs) fun D σ H ⟨F0, H0, ρ, F, i0, h⟩ => by
    obtain ⟨ds, q, h⟩ := oB_getO h
    obtain ⟨p, vs, e1, e2, e3, e4⟩ := i0.env.getOwn q
    refine ⟨.ref p, e1, .inl ⟨rfl, vs, SqL.of e3⟩, ρ, F, i0.env, i0.base, PostO.seq h i0.st fun d v F1 H1 _ s1 d1 h1 => ?_⟩
    cases d1 with
    | @lst r ws es hr hes =>
      have h2 : PostO G E F0 H0 D (if ds.length + es.length ≤ maxL then .nx (ρ.set i (.own (ds ++ es))) else .bad) := h1
      split at h2
      · rename_i ql
        have e3' := s1.hh p _ e3 (fun ps => lst_ne ps)
        exact ⟨p, r, vs, ws, rfl, rfl, e3', s1.base.sub _ _ hr, by rw [e4.length, hes.length]; exact maxL_line ql, h2 _ F1 _ ((i0.step s1).chOwn q e1 e3' (s1.own p _ e3 (fun ps => lst_ne ps) e2) ((e4.mono s1.ff).append hes))⟩
      · exact (show False from h2).elim
    | _ => exact (show False from h1).elim

/-! ### targets -/
abbrev Bn := List (Nat × D)
def Bnd (K : PySem.W.Frag) (F : Hp) (ws : List (Nat × V)) (bs : Bn) : Prop := Paired (fun w b => w.1 = b.1 ∧ Dd K F w.2 b.2) ws bs
@[reducible] def setsR (ρ : Rho) (bs : Bn) : Rho := bs.foldl (fun ρ b => ρ.set b.1 (.dat b.2)) ρ
def setsV (σ : L2.St) (ws : List (Nat × V)) : L2.St := ws.foldl (fun σ w => σ.set w.1 (some w.2)) σ
theorem EnvOk.sets {K : PySem.W.Frag} {F H : Hp} : ∀ {ws : List (Nat × V)} {bs : Bn} {σ : L2.St} {ρ : Rho}, EnvOk K F H σ ρ → Bnd K F ws bs → EnvOk K F H (setsV σ ws) (setsR ρ bs)
  | _, _, _, _, e, .nil => e
  | w :: _, b :: _, σ, ρ, e, .cons r t => by
    have e1 : EnvOk K F H (σ.set w.1 (some w.2)) (ρ.set b.1 (.dat b.2)) := by
      rw [r.1]
      exact e.set _ r.2
    have e2 := EnvOk.sets e1 t
    exact e2
theorem In0.sets {F0 H0 F H : Hp} : ∀ {ws : List (Nat × V)} {bs : Bn} {σ : L2.St} {ρ : Rho}, In0 G F0 H0 F H σ ρ → Bnd G.K F ws bs → In0 G F0 H0 F H (setsV σ ws) (setsR ρ bs)
  | _, _, _, _, e, .nil => e
  | w :: _, b :: _, σ, ρ, e, .cons r t => by
    have e1 : In0 G F0 H0 F H (σ.set w.1 (some w.2)) (ρ.set b.1 (.dat b.2)) := by
      rw [r.1]
      exact e.set _ r.2
    have e2 := In0.sets e1 t
    exact e2
def PostG (G : Gb) (F H : Hp) (σ : L2.St) (Q : L2.St → Hp → Prop) : Option Bn → Prop
  | some bs => ∀ ws, Bnd G.K F ws bs → Q (setsV σ ws) H
  | none => False
def tG (G : Gb) (ft : D → Option Bn) : TG := fun v σ H Q => ∃ d F, Dd G.K F v d ∧ Base G F H ∧ PostG G F H σ Q (ft d)
theorem pg_imp {t : Expr} {u u' : TG} (h : PG X t u) (i : ∀ v σ H Q, u' v σ H Q → u v σ H Q) : PG X t u' := ⟨fun pins s σ H v u Q I r hw => h.run pins s σ H v u Q I r (i v σ H Q hw)⟩
theorem pgs_imp {t : List Expr} {u u' : TGs} (h : PGs X t u) (i : ∀ v σ H Q, u' v σ H Q → u v σ H Q) : PGs X t u' := ⟨fun pins s σ H v u Q I r hw => h.run pins s σ H v u Q I r (i v σ H Q hw)⟩
@[reducible] def bName (i : Nat) : D → Option Bn := fun d => some [(i, d)]
theorem g_name (i : Nat) {x : Str} (hN : X.N.Nodup) (hi : X.N[i]? = some x := by rfl) (hx : Loc X.env.scope x := by first | exact Or.inl rfl | exact Or.inr rfl) (hf : X.fn x = true ∨ X.env.scope.names.lookup x = some .local := by first | exact .inl rfl | exact .inr rfl | assumption) : PG X (.Name x pos) (tG G (bName i)) :=
  pg_imp (pg_name hN hi hx hf) fun v σ H Q ⟨d, F, h1, h2, h3⟩ => h3 [(i, v)] (.cons ⟨rfl, h1⟩ .nil)
/-- several targets -/
@[reducible] def bAll : List (D → Option Bn) → List D → Option Bn
  | [], [] => some []
  | t :: ts, d :: ds => (t d).bind fun b => (bAll ts ds).bind fun bs => some (b ++ bs)
  | _, _ => none
def tGs (G : Gb) (ts : List (D → Option Bn)) : TGs := fun vs σ H Q => ∃ ds F, DdAll G.K F vs ds ∧ Base G F H ∧ PostG G F H σ Q (bAll ts ds)
theorem gs_nil : PGs X [] (tGs G []) := pgs_imp pgs_nil fun v σ H Q ⟨ds, F, h1, h2, h3⟩ => by
  cases h1 with
  | nil => exact ⟨rfl, h3 [] .nil⟩
  | cons _ _ => exact (show False from h3).elim
theorem bnd_app {K : PySem.W.Frag} {F : Hp} : ∀ {ws : List (Nat × V)} {bs : Bn} {ws' : List (Nat × V)} {bs' : Bn}, Bnd K F ws bs → Bnd K F ws' bs' → Bnd K F (ws ++ ws') (bs ++ bs')
  | _, _, _, _, .nil, s => s
  | _, _, _, _, .cons r t, s => .cons r (bnd_app t s)
theorem setsV_app (σ : L2.St) (ws ws' : List (Nat × V)) : setsV σ (ws ++ ws') = setsV (setsV σ ws) ws' := by
  unfold setsV
  rw [List.foldl_append]
theorem gs_cons {t : D → Option Bn} {ts : List (D → Option Bn)} (h1 : PG X a (tG G t)) (h2 : PGs X es (tGs G ts)) (hs : (assignEach (a :: es) X.env).map (·.2) = assign a X.env :: (assignEach es X.env).map (·.2) := by rfl) : PGs X (a :: es) (tGs G (t :: ts)) :=
  pgs_imp (pgs_cons h1 h2 hs) fun v σ H Q ⟨ds, F, h1, h2, h3⟩ => by
    cases h1 with
    | nil => exact (show False from h3).elim
    | @cons v vs d ds hd ht =>
      have h4 : PostG G F H σ Q ((t d).bind fun b => (bAll ts ds).bind fun bs => some (b ++ bs)) := h3
      refine ⟨v, vs, rfl, d, F, hd, h2, ?_⟩
      cases q : t d with
      | some b =>
        rw [q] at h4
        refine fun ws hw => ⟨ds, F, ht, h2, ?_⟩
        have h5 : PostG G F H σ Q ((bAll ts ds).bind fun bs => some (b ++ bs)) := h4
        cases q2 : bAll ts ds with
        | some bs =>
          rw [q2] at h5
          refine fun ws' hw' => ?_
          rw [← setsV_app]
          exact h5 (ws ++ ws') (bnd_app hw hw')
        | none =>
          rw [q2] at h5
          exact (show False from h5).elim
      | none =>
        rw [q] at h4
        exact (show False from h4).elim
@[reducible] def bTup (ts : List (D → Option Bn)) : D → Option Bn
  | .tuple ds => bAll ts ds
  | _ => none
theorem bAll_len : ∀ {ts : List (D → Option Bn)} {ds : List D} {b : Bn}, bAll ts ds = some b → ds.length = ts.length
  | [], [], _, _ => rfl
  | [], _ :: _, _, h => by cases h
  | _ :: _, [], _, h => by cases h
  | t :: ts, d :: ds, b, h => by
    have h1 : ((t d).bind fun b => (bAll ts ds).bind fun bs => some (b ++ bs)) = some b := h
    cases q : t d with
    | some b0 =>
      rw [q] at h1
      have h2 : ((bAll ts ds).bind fun bs => some (b0 ++ bs)) = some b := h1
      cases q2 : bAll ts ds with
      | some bs => rw [List.length_cons, List.length_cons, bAll_len q2]
      | none =>
        rw [q2] at h2
        cases h2
    | none =>
      rw [q] at h1
      cases h1
theorem g_tup {k : Nat} {ts : List (D → Option Bn)} (hc : X.calm = true) (h : PGs X es (tGs G ts)) (hn : (assignEach es X.env).length = ts.length := by rfl) (hst : (assignEach es X.env).findIdx? (·.1) = none := by rfl) (hK : X.K = G.K := by rfl) : PG X (.Tuple es k pos) (tG G (bTup ts)) :=
  pg_imp (pg_tup (n := ts.length) hc h hn hst) fun v σ H Q ⟨d, F, h1, h2, h3⟩ => by
    rw [hK]
    cases h1 with
    | @tup p vs ds hp hd =>
      have h4 : PostG G F H σ Q (bAll ts ds) := h3
      refine ⟨p, vs, rfl, h2.sub.sqT hp, ?_, ds, F, hd, h2, h4⟩
      cases q : bAll ts ds with
      | some b => rw [hd.length, bAll_len q]
      | none =>
        rw [q] at h4
        exact (show False from h4).elim
    | _ => exact (show False from h3).elim
/-- target = e -/
@[reducible] def oN {α : Type} (r : Option α) (k : α → O) : O := match r with
  | some a => k a
  | none => .bad
@[reducible] def gAsg (f : Rho → R D) (ft : D → Option Bn) : Rho → O := fun ρ => oB (f ρ) fun d => oN (ft d) fun bs => .nx (setsR ρ bs)
theorem s_asg {tg : Expr} {ft : D → Option Bn} (ha : PE X a (tE G E fa)) (hg : PG X tg (tG G ft)) (hs : swapsWithSole [tg] a pos.line X.env = pure false := by rfl) (hw : swappedStores [tg] a X.env = pure none := by rfl) (h1 : (assignEach [tg] X.env).map (·.2) = [assign tg X.env] := by rfl) : PS X (.Assign [tg] a pos) (tS G E (gAsg fa ft)) :=
  ps_imp (ps_asg ha hg hs hw h1) fun D σ H ⟨F0, H0, ρ, F, i0, h⟩ => ⟨ρ, F, i0.env, i0.base, PostO.seq h i0.st fun d v F1 H1 _ s1 d1 h1 => ⟨d, F1, d1, s1.base, by
    have h2 : PostO G E F0 H0 D (oN (ft d) fun bs => .nx (setsR ρ bs)) := h1
    cases q : ft d with
    | some bs =>
      rw [q] at h2
      exact fun ws hw => h2 _ F1 H1 ((i0.step s1).sets hw)
    | none =>
      rw [q] at h2
      exact (show False from h2).elim⟩⟩

/-! ### what is walked -/
structure Wk (G : Gb) (F : Hp) (J : It) (xs : List D) : Prop where
  go : ∀ i H, Sub F H → i < xs.length → J.go i H
  stop : ∀ H, Sub F H → J.stop xs.length H
  yld : ∀ (i : Nat) (d : D) (F1 H : Hp) (x : V) (H' : Hp), xs[i]? = some d → Sub F F1 → Base G F1 H → J.yld i H x H' → ∃ F2, Step G F1 H F2 H' ∧ Dd G.K F2 x d
abbrev tI (G : Gb) (E : XK) (f : Rho → R (List D)) : TI := tR G (Wk G) E f
theorem pi_imp {tg it : Expr} {t t' : TI} (h : PI X tg it t) (i : ∀ σ H Q, t' σ H Q → t σ H Q) : PI X tg it t' := ⟨fun pins s σ H Q I hw => h.run pins s σ H Q I (i σ H Q hw)⟩
theorem wk_list {F : Hp} {p : Addr} {vs : List V} {ds : List D} (hp : SqL G.K F p vs) (hd : DdAll G.K F vs ds) : Wk G F (Itl G.K p) ds where
  go := fun i H s hi => walk_list.goes i H (by rw [hd.length]; exact hi) (s.sqL hp)
  stop := fun H s => by
    rw [← hd.length]
    exact walk_list.stops H (s.sqL hp)
  yld := fun i d F1 H x H' e s b y => by
    obtain ⟨v, e1, e2⟩ := hd.get e
    obtain ⟨h1, h2⟩ := y
    have h3 := h2 vs (b.sub.sqL (s.sqL hp))
    rw [e1] at h3
    cases h3
    subst h1
    exact ⟨F1, .refl b, e2.mono s⟩
theorem wk_tup {F : Hp} {p : Addr} {vs : List V} {ds : List D} (hp : SqT G.K F p vs) (hd : DdAll G.K F vs ds) : Wk G F (Itt G.K p) ds where
  go := fun i H s hi => walk_tup.goes i H (by rw [hd.length]; exact hi) (s.sqT hp)
  stop := fun H s => by
    rw [← hd.length]
    exact walk_tup.stops H (s.sqT hp)
  yld := fun i d F1 H x H' e s b y => by
    obtain ⟨v, e1, e2⟩ := hd.get e
    obtain ⟨h1, h2⟩ := y
    have h3 := h2 vs (b.sub.sqT (s.sqT hp))
    rw [e1] at h3
    cases h3
    subst h1
    exact ⟨F1, .refl b, e2.mono s⟩
/-- a list or a tuple -/
def iSeq (K : PySem.W.Frag) (tl : TE) : TI := fun σ H R => tl σ H fun x H1 => ∃ a, x = .ref a ∧ (((∃ xs, SqL K H1 a xs) ∧ R (Itl K a) H1) ∨ ((∃ xs, SqT K H1 a xs) ∧ R (Itt K a) H1))
theorem pi_seq {tg l : Expr} {tl : TE} (hl : PE X l tl) : PI X tg l (iSeq X.K tl) := by
  refine ⟨fun pins s σ H R I h => ?_⟩
  refine thn (hl.run pins s σ H _ I h) fun v s1 ⟨x, H1, I1, r1, q1⟩ => ?_
  obtain ⟨a, e, q⟩ := q1
  subst e
  cases r1
  rcases q with ⟨⟨xs, hq⟩, q⟩ | ⟨⟨xs, hq⟩, q⟩
  · obtain ⟨its, rv, p, hz⟩ := I1.list hq
    refine wpAny_pyIter_list p.isList ?_
    refine ⟨s1.heap.objs.size, [s1.heap.objs.size], _, _, H1, rfl, I1.kept (t' := s1.toks) fun b o e => Heap.get?_push_of_some _ e, turn_list a _, ⟨_, Heap.get?_push_size _ rfl, rfl, rfl⟩, fun b hb => ?_, q⟩
    have e : b = s1.heap.objs.size := by simpa using hb
    subst e
    exact I1.fpOk (Nat.le_refl _) (I1.hok.fresh (Nat.le_refl _))
  · obtain ⟨its, rv, p, hz⟩ := I1.tuple hq
    refine wpAny_pyIter_tuple (show s1.heap.IsTuple a its.toArray from p) ?_
    refine ⟨s1.heap.objs.size, [s1.heap.objs.size], _, _, H1, rfl, I1.kept (t' := s1.toks) fun b o e => Heap.get?_push_of_some _ e, turn_tuple a _, ⟨_, Heap.get?_push_size _ rfl, rfl, rfl⟩, fun b hb => ?_, q⟩
    have e : b = s1.heap.objs.size := by simpa using hb
    subst e
    exact I1.fpOk (Nat.le_refl _) (I1.hok.fresh (Nat.le_refl _))
@[reducible] def asSeq : D → R (List D)
  | .list ds => .ok ds
  | .tuple ds => .ok ds
  | _ => .bad
@[reducible] def rSeq (f : Rho → R D) : Rho → R (List D) := fun ρ => (f ρ).bind asSeq
theorem i_seq {tg : Expr} (ha : PE X a (tE G E fa)) (hK : X.K = G.K := by rfl) : PI X tg a (tI G E (rSeq fa)) :=
  pi_imp (pi_seq ha) fun σ H Q ⟨ρ, F, e, b, h⟩ => ⟨ρ, F, e, b, PostR.seq h fun d x F1 H1 _ s1 d1 h1 => by
    rw [hK]
    cases d1 with
    | @lst p vs ds hp hd => exact ⟨p, rfl, .inl ⟨⟨vs, SqL.of (s1.base.sub _ _ hp)⟩, PostR.val (show PostR G (Wk G) E F1 H1 Q (.ok ds) from h1) s1.base (wk_list (SqL.of hp) hd)⟩⟩
    | @tup p vs ds hp hd => exact ⟨p, rfl, .inr ⟨⟨vs, s1.base.sub.sqT hp⟩, PostR.val (show PostR G (Wk G) E F1 H1 Q (.ok ds) from h1) s1.base (wk_tup hp hd)⟩⟩
    | _ => exact (show False from h1).elim⟩
/-- range(a, b) -/
@[reducible] def rng (lo hi : Int) : List D := (List.range (hi - lo).toNat).map fun (i : Nat) => .int (lo + i)
theorem wk_range {F : Hp} (lo hi : Int) : Wk G F (Itr lo (hi - lo).toNat) (rng lo hi) where
  go := fun i H s hi => by
    unfold rng at hi
    rw [List.length_map, List.length_range] at hi
    exact hi
  stop := fun H s => by
    unfold rng
    rw [List.length_map, List.length_range]
    exact Nat.le_refl _
  yld := fun i d F1 H x H' e s b y => by
    obtain ⟨h1, h2⟩ := y
    subst h1
    subst h2
    unfold rng at e
    rw [List.getElem?_map] at e
    cases q : (List.range (hi - lo).toNat)[i]? with
    | none =>
      rw [q] at e
      cases e
    | some j =>
      rw [q] at e
      have z : j = i := by
        obtain ⟨h3, h4⟩ := List.getElem?_eq_some_iff.mp q
        rw [← h4]
        simp
      subst z
      cases e
      exact ⟨F1, .refl b, .int _⟩
@[reducible] def asR1 : List D → R (List D)
  | [.int n] => if -1000000 ≤ n ∧ n ≤ 1000000 then .ok (rng 0 n) else .bad
  | _ => .bad
@[reducible] def asR2 : List D → R (List D)
  | [.int m, .int n] => if (-1000000 ≤ m ∧ m ≤ 1000000) ∧ (-1000000 ≤ n ∧ n ≤ 1000000) then .ok (rng m n) else .bad
  | _ => .bad
@[reducible] def rR1 (fs : Rho → R (List D)) : Rho → R (List D) := fun ρ => (fs ρ).bind asR1
@[reducible] def rR2 (fs : Rho → R (List D)) : Rho → R (List D) := fun ρ => (fs ρ).bind asR2
theorem i_range1 {tg : Expr} {p : Pos} (hm : X.mg "range" = none) (ha : PA X [a] (tA G E fs)) (hg : Gl X "range" := by rfl) (hs : starEach [a] X.env = [(false, eval a X.env)] := by rfl) : PI X tg (.Call (.Name "range" p) [a] [] pos) (tI G E (rR1 fs)) :=
  pi_imp (pi_range1 hg hm ha hs) fun σ H Q ⟨ρ, F, e, b, h⟩ => ⟨ρ, F, e, b, PostR.seq h fun ds vs F1 H1 _ s1 d1 h1 => by
    cases d1 with
    | nil => exact (show False from h1).elim
    | cons hd ht =>
      cases ht with
      | cons _ _ => cases hd <;> exact (show False from h1).elim
      | nil =>
        cases hd with
        | int n =>
          have h2 : PostR G (Wk G) E F1 H1 Q (if -1000000 ≤ n ∧ n ≤ 1000000 then .ok (rng 0 n) else .bad) := h1
          split at h2
          · rename_i q
            refine ⟨n, rfl, by omega, by omega, ?_⟩
            have w := PostR.val h2 s1.base (wk_range 0 n)
            rw [Int.sub_zero] at w
            exact w
          · exact (show False from h2).elim
        | _ => exact (show False from h1).elim⟩
theorem i_range2 {tg : Expr} {p : Pos} (hm : X.mg "range" = none) (ha : PA X [a, b] (tA G E fs)) (hg : Gl X "range" := by rfl) (hs : starEach [a, b] X.env = [(false, eval a X.env), (false, eval b X.env)] := by rfl) (hs2 : starEach [b] X.env = [(false, eval b X.env)] := by rfl) : PI X tg (.Call (.Name "range" p) [a, b] [] pos) (tI G E (rR2 fs)) :=
  pi_imp (pi_range2 hg hm ha hs hs2) fun σ H Q ⟨ρ, F, e, b, h⟩ => ⟨ρ, F, e, b, PostR.seq h fun ds vs F1 H1 _ s1 d1 h1 => by
    cases d1 with
    | nil => exact (show False from h1).elim
    | cons hd ht =>
      cases ht with
      | nil => cases hd <;> exact (show False from h1).elim
      | cons hd2 ht2 =>
        cases ht2 with
        | cons _ _ => cases hd <;> cases hd2 <;> exact (show False from h1).elim
        | nil =>
          cases hd with
          | int m =>
            cases hd2 with
            | int n =>
              have h2 : PostR G (Wk G) E F1 H1 Q (if (-1000000 ≤ m ∧ m ≤ 1000000) ∧ (-1000000 ≤ n ∧ n ≤ 1000000) then .ok (rng m n) else .bad) := h1
              split at h2
              · rename_i q
                exact ⟨m, n, rfl, ⟨by omega, by omega, by omega, by omega⟩, PostR.val h2 s1.base (wk_range m n)⟩
              · exact (show False from h2).elim
            | _ => exact (show False from h1).elim
          | _ => cases hd2 <;> exact (show False from h1).elim⟩
/-- new pairs -/
theorem pair_new {F1 H H' : Hp} {T : Addr} {x y : V} {v : V} {c d : D} (b : Base G F1 H) (h1 : v = .ref T) (h2 : H T = none) (h3 : H' = upd H T (.tup [x, y])) (hx : Dd G.K F1 x c) (hy : Dd G.K F1 y d) : ∃ F2, Step G F1 H F2 H' ∧ Dd G.K F2 v (.tuple [c, d]) := by
  subst h1
  subst h3
  exact ⟨_, .new b h2 tup_ne, .tup (SqT.of upd_same) (dd_self (b.free h2) (.cons hx (.cons hy .nil)))⟩
@[reducible] def enumD (ds : List D) : List D := ds.zipIdx.map fun p => .tuple [.int (p.2 : Nat), p.1]
theorem enumD_len (ds : List D) : (enumD ds).length = ds.length := by
  unfold enumD
  rw [List.length_map, List.length_zipIdx]
theorem enumD_get {ds : List D} {i : Nat} {d : D} (h : (enumD ds)[i]? = some d) : ∃ c, ds[i]? = some c ∧ d = .tuple [.int (i : Nat), c] := by
  unfold enumD at h
  rw [List.getElem?_map, List.getElem?_zipIdx] at h
  cases q : ds[i]? with
  | none =>
    rw [q] at h
    cases h
  | some c =>
    rw [q] at h
    have h1 : some (PyData.tuple [.int ((0 + i : Nat) : Int), c]) = some d := h
    rw [Nat.zero_add] at h1
    exact ⟨c, rfl, (Option.some.inj h1).symm⟩
theorem wk_enum {F : Hp} {p : Addr} {vs : List V} {ds : List D} (hp : SqL G.K F p vs) (hd : DdAll G.K F vs ds) : Wk G F (Ite G.K p) (enumD ds) where
  go := fun i H s hi => walk_enum.goes i H (by rw [hd.length]; rw [enumD_len] at hi; exact hi) (s.sqL hp)
  stop := fun H s => by
    rw [enumD_len, ← hd.length]
    exact walk_enum.stops H (s.sqL hp)
  yld := fun i d F1 H x H' e s b y => by
    obtain ⟨c, e0, rfl⟩ := enumD_get e
    obtain ⟨v, e1, e2⟩ := hd.get e0
    obtain ⟨T, z, h1, h2, h3, h4⟩ := y
    have h5 := h4 vs (b.sub.sqL (s.sqL hp))
    rw [e1] at h5
    cases h5
    exact pair_new b h1 h2 h3 (.int _) (e2.mono s)
@[reducible] def asEnum : List D → R (List D)
  | [.list ds] => .ok (enumD ds)
  | _ => .bad
@[reducible] def rEnum (fs : Rho → R (List D)) : Rho → R (List D) := fun ρ => (fs ρ).bind asEnum
theorem i_enum {p tpos : Pos} {elts : List Expr} {kk : Nat} (hm : X.mg "enumerate" = none) (ha : PA X [a] (tA G E fs)) (hg : Gl X "enumerate" := by rfl) (hs : starEach [a] X.env = [(false, eval a X.env)] := by rfl) (hK : X.K = G.K := by rfl) : PI X (.Tuple elts kk tpos) (.Call (.Name "enumerate" p) [a] [] pos) (tI G E (rEnum fs)) :=
  pi_imp (pi_enum hg hm ha hs) fun σ H Q ⟨ρ, F, e, b, h⟩ => ⟨ρ, F, e, b, PostR.seq h fun ds vs F1 H1 _ s1 d1 h1 => by
    rw [hK]
    cases d1 with
    | nil => exact (show False from h1).elim
    | cons hd ht =>
      cases ht with
      | cons _ _ => cases hd <;> exact (show False from h1).elim
      | nil =>
        cases hd with
        | @lst p vs ds hp hd => exact ⟨p, vs, rfl, SqL.of (s1.base.sub _ _ hp), PostR.val (show PostR G (Wk G) E F1 H1 Q (.ok (enumD ds)) from h1) s1.base (wk_enum (SqL.of hp) hd)⟩
        | _ => exact (show False from h1).elim⟩
@[reducible] def zipD (xs ys : List D) : List D := (xs.zip ys).map fun p => .tuple [p.1, p.2]
theorem zipD_len (xs ys : List D) : (zipD xs ys).length = min xs.length ys.length := by
  unfold zipD
  rw [List.length_map, List.length_zip]
theorem zipD_get {xs ys : List D} {i : Nat} {d : D} (h : (zipD xs ys)[i]? = some d) : ∃ x y, xs[i]? = some x ∧ ys[i]? = some y ∧ d = .tuple [x, y] := by
  unfold zipD at h
  rw [List.getElem?_map] at h
  cases q : (xs.zip ys)[i]? with
  | none =>
    rw [q] at h
    cases h
  | some z =>
    rw [q] at h
    obtain ⟨h1, h2⟩ := List.getElem?_zip_eq_some.mp q
    exact ⟨z.1, z.2, h1, h2, (Option.some.inj h).symm⟩
theorem wk_zipL {F : Hp} {p q : Addr} {vs ws : List V} {ds es : List D} (hp : SqL G.K F p vs) (hq : SqL G.K F q ws) (hd : DdAll G.K F vs ds) (he : DdAll G.K F ws es) : Wk G F (Itz G.K p q) (zipD ds es) where
  go := fun i H s hi => (walk_zip rfl).goes i H (by rw [hd.length, he.length]; rw [zipD_len] at hi; exact hi) ⟨s.sqL hp, s.sqL hq⟩
  stop := fun H s => by
    rw [zipD_len, ← hd.length, ← he.length]
    exact (walk_zip rfl).stops H ⟨s.sqL hp, s.sqL hq⟩
  yld := fun i d F1 H x H' e s b y => by
    obtain ⟨c, f, e0, f0, rfl⟩ := zipD_get e
    obtain ⟨v, e1, e2⟩ := hd.get e0
    obtain ⟨w, f1, f2⟩ := he.get f0
    obtain ⟨T, z, z', h1, h2, h3, h4, h5⟩ := y
    have h6 := h4 vs (b.sub.sqL (s.sqL hp))
    have h7 := h5 ws (b.sub.sqL (s.sqL hq))
    rw [e1] at h6
    rw [f1] at h7
    cases h6
    cases h7
    exact pair_new b h1 h2 h3 (e2.mono s) (f2.mono s)
theorem wk_zipT {F : Hp} {p q : Addr} {vs ws : List V} {ds es : List D} (hp : SqT G.K F p vs) (hq : SqT G.K F q ws) (hd : DdAll G.K F vs ds) (he : DdAll G.K F ws es) : Wk G F (RZ.ItzT G.K p q) (zipD ds es) where
  go := fun i H s hi => by
    rw [zipD_len, ← hd.length, ← he.length] at hi
    exact ⟨vs, ws, vs[i]'(by omega), ws[i]'(by omega), s.sqT hp, s.sqT hq, List.getElem?_eq_getElem _, List.getElem?_eq_getElem _⟩
  stop := fun H s => ⟨vs, ws, s.sqT hp, s.sqT hq, by
    rw [zipD_len, ← hd.length, ← he.length]
    omega⟩
  yld := fun i d F1 H x H' e s b y => by
    obtain ⟨c, f, e0, f0, rfl⟩ := zipD_get e
    obtain ⟨v, e1, e2⟩ := hd.get e0
    obtain ⟨w, f1, f2⟩ := he.get f0
    obtain ⟨T, z, z', h1, h2, h3, h4, h5⟩ := y
    have h6 := h4 vs (b.sub.sqT (s.sqT hp))
    have h7 := h5 ws (b.sub.sqT (s.sqT hq))
    rw [e1] at h6
    rw [f1] at h7
    cases h6
    cases h7
    exact pair_new b h1 h2 h3 (e2.mono s) (f2.mono s)
@[reducible] def asZip : List D → R (List D)
  | [.list xs, .list ys] => .ok (zipD xs ys)
  | [.tuple xs, .tuple ys] => .ok (zipD xs ys)
  | _ => .bad
@[reducible] def rZip (fs : Rho → R (List D)) : Rho → R (List D) := fun ρ => (fs ρ).bind asZip
theorem i_zip {p tpos : Pos} {elts : List Expr} {kk : Nat} (hm : X.mg "zip" = none) (ha : PA X [a, b] (tA G E fs)) (hg : Gl X "zip" := by rfl) (hs : starEach [a, b] X.env = (false, eval a X.env) :: starEach [b] X.env := by rfl) (hpl : (backTo pos (starEach [b] X.env)).any (·.1) = false := by rfl) (hK : X.K = G.K := by rfl) :
    PI X (.Tuple elts kk tpos) (.Call (.Name "zip" p) [a, b] [] pos) (tI G E (rZip fs)) :=
  pi_imp (RZ.pi_zipA hg hm ha hs hpl) fun σ H Q ⟨ρ, F, e, b, h⟩ => ⟨ρ, F, e, b, PostR.seq h fun ds vs F1 H1 _ s1 d1 h1 => by
    rw [hK]
    cases d1 with
    | nil => exact (show False from h1).elim
    | cons hd ht =>
      cases ht with
      | nil => cases hd <;> exact (show False from h1).elim
      | cons hd2 ht2 =>
        cases ht2 with
        | cons _ _ => cases hd <;> cases hd2 <;> exact (show False from h1).elim
        | nil =>
          cases hd with
          | @lst p vs xs hp hx =>
            cases hd2 with
            | @lst q ws ys hq hy => exact ⟨p, q, vs, ws, rfl, .inl ⟨SqL.of (s1.base.sub _ _ hp), SqL.of (s1.base.sub _ _ hq), PostR.val (show PostR G (Wk G) E F1 H1 Q (.ok (zipD xs ys)) from h1) s1.base (wk_zipL (SqL.of hp) (SqL.of hq) hx hy)⟩⟩
            | _ => exact (show False from h1).elim
          | @tup p vs xs hp hx =>
            cases hd2 with
            | @tup q ws ys hq hy => exact ⟨p, q, vs, ws, rfl, .inr ⟨s1.base.sub.sqT hp, s1.base.sub.sqT hq, PostR.val (show PostR G (Wk G) E F1 H1 Q (.ok (zipD xs ys)) from h1) s1.base (wk_zipT hp hq hx hy)⟩⟩
            | _ => exact (show False from h1).elim
          | _ => cases hd2 <;> exact (show False from h1).elim⟩

/-! ### for -/
def forL (ft : D → Option Bn) (gb : Rho → O) : List D → Rho → O
  | [], ρ => .nx ρ
  | d :: ds, ρ => oN (ft d) fun bs => match gb (setsR ρ bs) with
    | .nx ρ' => forL ft gb ds ρ'
    | .ct ρ' => forL ft gb ds ρ'
    | .brk ρ' => .nx ρ'
    | .ret d => .ret d
    | .err c => .err c
    | .bad => .bad
@[reducible] def gFor (fi : Rho → R (List D)) (ft : D → Option Bn) (gb : Rho → O) : Rho → O := fun ρ => oB (fi ρ) fun ds => forL ft gb ds ρ
theorem s_for {tg it : Expr} {body : List Stmt} {fi : Rho → R (List D)} {ft : D → Option Bn} (hp : PassesOwn (model X.prog X.w) X.A X.env X.xe) (hc : X.calm = true) (hi : PI X tg it (tI G E fi)) (hg : PG X tg (tG G ft)) (hb : PSs X body (tS G E gb))
    (hs : ∀ x, foldedSetIterable it X.env x = pure x := by intro _; rfl) : PS X (.For tg it body [] pos) (tS G E (gFor fi ft gb)) :=
  ps_imp (ps_for hp hc hi hg hb hs) fun D σ H ⟨F0, H0, ρ, F, i0, h⟩ => ⟨ρ, F, i0.env, i0.base, PostO.seq h i0.st fun ds J F1 H1 _ s1 wk h1 => by
    have i1 := (i0.step s1)
    have h2 : PostO G E F1 H0 D (forL ft gb ds ρ) := PostO.rebase i1.st h1
    refine ⟨fun i m σ H => m = ds.length - i ∧ i ≤ ds.length ∧ ∃ ρ F', In0 G F1 H0 F' H σ ρ ∧ PostO G E F1 H0 D (forL ft gb (ds.drop i) ρ), ⟨ds.length, by simp, Nat.zero_le _, ρ, F1, i1.rebase (F := F1), by simpa using h2⟩, ?_⟩
    rintro i m σ' H' ⟨rfl, hi, ρ', F', i', h'⟩
    by_cases hlt : i < ds.length
    · refine .inr ⟨wk.go i H' (i'.st.ff.trans i'.base.sub) hlt, fun σ2 H2 => ∃ ρ2 F2, In0 G F1 H0 F2 H2 σ2 ρ2 ∧ PostO G E F1 H0 D (forL ft gb (ds.drop (i + 1)) ρ2), fun σ2 H2 ⟨ρ2, F2, i2, h2⟩ => ⟨ds.length - (i + 1), by omega, rfl, by omega, ρ2, F2, i2, h2⟩, fun x H2 y => ?_⟩
      obtain ⟨F2, s2, d2⟩ := wk.yld i ds[i] F' H' x H2 (List.getElem?_eq_getElem hlt) i'.st.ff i'.base y
      have i2 := i'.step s2
      rw [List.drop_eq_getElem_cons hlt] at h'
      have h3 : PostO G E F1 H0 D (oN (ft ds[i]) fun bs => match gb (setsR ρ' bs) with
        | .nx ρ' => forL ft gb (ds.drop (i + 1)) ρ'
        | .ct ρ' => forL ft gb (ds.drop (i + 1)) ρ'
        | .brk ρ' => .nx ρ'
        | .ret d => .ret d
        | .err c => .err c
        | .bad => .bad) := h'
      refine ⟨ds[i], F2, d2, s2.base, ?_⟩
      cases q : ft ds[i] with
      | none =>
        rw [q] at h3
        exact (show False from h3).elim
      | some bs =>
        rw [q] at h3
        refine fun ws hw => ⟨F1, H0, setsR ρ' bs, F2, i2.sets hw, ?_⟩
        have h4 : PostO G E F1 H0 D (match gb (setsR ρ' bs) with
          | .nx ρ' => forL ft gb (ds.drop (i + 1)) ρ'
          | .ct ρ' => forL ft gb (ds.drop (i + 1)) ρ'
          | .brk ρ' => .nx ρ'
          | .ret d => .ret d
          | .err c => .err c
          | .bad => .bad) := h3
        cases q2 : gb (setsR ρ' bs) with
        | nx ρ2 =>
          rw [q2] at h4
          exact fun σ2 F3 H3 i3 => ⟨ρ2, F3, i3, h4⟩
        | ct ρ2 =>
          rw [q2] at h4
          exact fun σ2 F3 H3 i3 => ⟨ρ2, F3, i3, h4⟩
        | brk ρ2 =>
          rw [q2] at h4
          exact fun σ2 F3 H3 i3 => h4 σ2 F3 H3 i3
        | ret d =>
          rw [q2] at h4
          exact h4
        | err c =>
          rw [q2] at h4
          exact h4
        | bad =>
          rw [q2] at h4
          exact h4
    · have e : i = ds.length := by omega
      subst e
      rw [List.drop_length] at h'
      exact .inl ⟨wk.stop H' (i'.st.ff.trans i'.base.sub), h' σ' F' H' i'⟩⟩
/-- while, at most n turns -/
def whileL (t : Rho → R Bool) (gb : Rho → O) : Nat → Rho → O
  | 0, _ => .bad
  | n + 1, ρ => oB (t ρ) fun k => if k = true then (match gb ρ with
    | .nx ρ' => whileL t gb n ρ'
    | .ct ρ' => whileL t gb n ρ'
    | .brk ρ' => .nx ρ'
    | .ret d => .ret d
    | .err c => .err c
    | .bad => .bad) else .nx ρ
theorem s_while (n : Nat) {body : List Stmt} (hp : PassesOwn (model X.prog X.w) X.A X.env X.xe) (hc : PT X c (tT G E tc)) (hb : PSs X body (tS G E gb)) : PS X (.While c body [] pos) (tS G E (whileL tc gb n)) :=
  ps_imp (ps_while hp hc hb) fun D σ H ⟨F0, H0, ρ, F, i0, h⟩ => by
    refine ⟨fun m σ H => ∃ ρ F', In0 G F0 H0 F' H σ ρ ∧ PostO G E F0 H0 D (whileL tc gb m ρ), ⟨n, ρ, F, i0, h⟩, ?_⟩
    rintro m σ' H' ⟨ρ', F', i', h'⟩
    cases m with
    | zero => exact (show False from h').elim
    | succ m =>
      refine ⟨ρ', F', i'.env, i'.base, PostO.seq (show PostO G E F0 H0 D (oB (tc ρ') fun k => if k = true then (match gb ρ' with
        | .nx ρ' => whileL tc gb m ρ'
        | .ct ρ' => whileL tc gb m ρ'
        | .brk ρ' => .nx ρ'
        | .ret d => .ret d
        | .err c => .err c
        | .bad => .bad) else .nx ρ') from h') i'.st fun k x F1 H1 _ s1 d1 h1 => ?_⟩
      subst d1
      cases x with
      | false => exact h1 σ' F1 H1 (i'.step s1)
      | true =>
        show ∃ N : L2.St → Hp → Prop, (∀ σ' H', N σ' H' → ∃ m', m' < m + 1 ∧ ∃ ρ F', In0 G F0 H0 F' H' σ' ρ ∧ PostO G E F0 H0 D (whileL tc gb m' ρ)) ∧ tS G E gb { D with nx := N, ct := N, bk := D.nx } σ' H1
        refine ⟨fun σ2 H2 => ∃ ρ2 F2, In0 G F0 H0 F2 H2 σ2 ρ2 ∧ PostO G E F0 H0 D (whileL tc gb m ρ2), fun σ2 H2 z => ⟨m, Nat.lt_succ_self _, z⟩, F0, H0, ρ', F1, i'.step s1, ?_⟩
        have h4 : PostO G E F0 H0 D (match gb ρ' with
          | .nx ρ' => whileL tc gb m ρ'
          | .ct ρ' => whileL tc gb m ρ'
          | .brk ρ' => .nx ρ'
          | .ret d => .ret d
          | .err c => .err c
          | .bad => .bad) := h1
        cases q2 : gb ρ' with
        | nx ρ2 =>
          rw [q2] at h4
          exact fun σ2 F3 H3 i3 => ⟨ρ2, F3, i3, h4⟩
        | ct ρ2 =>
          rw [q2] at h4
          exact fun σ2 F3 H3 i3 => ⟨ρ2, F3, i3, h4⟩
        | brk ρ2 =>
          rw [q2] at h4
          exact fun σ2 F3 H3 i3 => h4 σ2 F3 H3 i3
        | ret d =>
          rw [q2] at h4
          exact h4
        | err c =>
          rw [q2] at h4
          exact h4
        | bad =>
          rw [q2] at h4
          exact h4
end
end Py

namespace Py
open PySem PySem.Spec PyProof.Rows L2 LamX

/-! ### comprehensions -/
def wipeR (ρ : Rho) : List Nat → Rho
  | [] => ρ
  | v :: vs => (wipeR ρ vs).set v .no
theorem EnvOk.wipe {K : PySem.W.Frag} {F H : Hp} {σ : L2.St} {ρ : Rho} (e : EnvOk K F H σ ρ) : ∀ vs : List Nat, EnvOk K F H (wipe σ vs) (wipeR ρ vs)
  | [] => e
  | v :: vs => (EnvOk.wipe e vs).drop v none
/-- a target stays within these slots -/
def Only (ft : D → Option Bn) (vs : List Nat) : Prop := ∀ d bs, ft d = some bs → ∀ b ∈ bs, b.1 ∈ vs
theorem only_name {i : Nat} {vs : List Nat} (h : i ∈ vs) : Only (bName i) vs := fun d bs e b hb => by
  cases e
  rw [List.mem_singleton] at hb
  rw [hb]
  exact h
def Onlys (ts : List (D → Option Bn)) (vs : List Nat) : Prop := ∀ t ∈ ts, Only t vs
theorem onlys_nil {vs : List Nat} : Onlys [] vs := fun t h => by cases h
theorem onlys_cons {t : D → Option Bn} {ts : List (D → Option Bn)} {vs : List Nat} (h : Only t vs) (hs : Onlys ts vs) : Onlys (t :: ts) vs := fun u hu => by
  rcases List.mem_cons.mp hu with e | e
  · rw [e]
    exact h
  · exact hs u e
theorem only_all {vs : List Nat} : ∀ {ts : List (D → Option Bn)} {ds : List D} {bs : Bn}, Onlys ts vs → bAll ts ds = some bs → ∀ b ∈ bs, b.1 ∈ vs
  | [], [], _, _, e, b, hb => by
    cases e
    cases hb
  | [], _ :: _, _, _, e, _, _ => by cases e
  | _ :: _, [], _, _, e, _, _ => by cases e
  | t :: ts, d :: ds, bs, h, e, b, hb => by
    have e1 : ((t d).bind fun b => (bAll ts ds).bind fun bs => some (b ++ bs)) = some bs := e
    cases q : t d with
    | none =>
      rw [q] at e1
      cases e1
    | some b0 =>
      rw [q] at e1
      have e2 : ((bAll ts ds).bind fun bs => some (b0 ++ bs)) = some bs := e1
      cases q2 : bAll ts ds with
      | none =>
        rw [q2] at e2
        cases e2
      | some bs2 =>
        rw [q2] at e2
        have e3 : b0 ++ bs2 = bs := Option.some.inj e2
        rw [← e3] at hb
        rcases List.mem_append.mp hb with z | z
        · exact h t List.mem_cons_self d b0 q b z
        · exact only_all (fun u hu => h u (List.mem_cons_of_mem _ hu)) q2 b z
theorem only_tup {ts : List (D → Option Bn)} {vs : List Nat} (h : Onlys ts vs) : Only (bTup ts) vs := fun d bs e => by
  cases d with
  | tuple ds => exact only_all h e
  | _ => cases e
theorem wipe_set {i : Nat} {x : Option V} : ∀ {vs : List Nat} (σ : L2.St), i ∈ vs → wipe (σ.set i x) vs = wipe σ vs
  | v :: vs, σ, h => by
    unfold wipe
    by_cases e : i ∈ vs
    · rw [wipe_set σ e]
    · have ev : i = v := (List.mem_cons.mp h).resolve_right e
      subst ev
      have key : ∀ (ws : List Nat) (τ : L2.St), i ∉ ws → wipe (τ.set i x) ws = (wipe τ ws).set i x := fun ws => by
        induction ws with
        | nil => intro τ _; rfl
        | cons w ws ih =>
          intro τ hn
          have h1 : i ≠ w := fun z => hn (by rw [z]; exact List.mem_cons_self)
          have h2 : i ∉ ws := fun z => hn (List.mem_cons_of_mem _ z)
          show (wipe (τ.set i x) ws).set w none = ((wipe τ ws).set w none).set i x
          rw [ih τ h2, List.set_comm _ _ h1]
      rw [key vs σ e, List.set_set]
theorem wipe_idem (σ : L2.St) (vs : List Nat) : wipe (wipe σ vs) vs = wipe σ vs := by
  have key : ∀ (us : List Nat), (∀ u ∈ us, u ∈ vs) → wipe (wipe σ us) vs = wipe σ vs := fun us => by
    induction us with
    | nil => intro _; rfl
    | cons u us ih =>
      intro h
      show wipe ((wipe σ us).set u none) vs = wipe σ vs
      rw [wipe_set _ (h u List.mem_cons_self), ih fun w hw => h w (List.mem_cons_of_mem _ hw)]
  exact key vs fun _ h => h
theorem wipe_sets {vs : List Nat} {K : PySem.W.Frag} {F : Hp} : ∀ {ws : List (Nat × V)} {bs : Bn} (σ : L2.St), Bnd K F ws bs → (∀ b ∈ bs, b.1 ∈ vs) → wipe (setsV σ ws) vs = wipe σ vs
  | _, _, _, .nil, _ => rfl
  | w :: ws, b :: bs, σ, .cons r t, h => by
    have e : wipe (setsV (σ.set w.1 (some w.2)) ws) vs = wipe (σ.set w.1 (some w.2)) vs := wipe_sets _ t fun c hc => h c (List.mem_cons_of_mem _ hc)
    have e2 : wipe (σ.set w.1 (some w.2)) vs = wipe σ vs := wipe_set σ (by rw [r.1]; exact h b List.mem_cons_self)
    exact e.trans e2
@[reducible] def noErr {α : Type} : R α → R α
  | .ok a => .ok a
  | _ => .bad
def E0' : XK := fun _ _ _ => False
def lcL (ft : D → Option Bn) (tt : Rho → R Bool) (fe : Rho → R D) (ρ : Rho) : List D → R (List D)
  | [] => .ok []
  | d :: ds => match ft d with
    | none => .bad
    | some bs => (noErr (tt (setsR ρ bs))).bind fun k => if k = true then (noErr (fe (setsR ρ bs))).bind fun y => (lcL ft tt fe ρ ds).bind fun ys => .ok (y :: ys) else lcL ft tt fe ρ ds
@[reducible] def rLc (vs : List Nat) (fi : Rho → R (List D)) (ft : D → Option Bn) (tt : Rho → R Bool) (fe : Rho → R D) : Rho → R D := fun ρ => (fi ρ).bind fun ds => (lcL ft tt fe (wipeR ρ vs) ds).bind mkLst
section
variable {X : Cx} {G : Gb} {E : XK} {a b c : Expr} {es : List Expr} {fa fb fc fe : Rho → R D} {fs fi : Rho → R (List D)} {pos p2 : Pos} {st : Stmt} {rest : List Stmt} {g g1 g2 gb : Rho → O} {tc tt : Rho → R Bool} {ft : D → Option Bn}
theorem PostR.noErr {α β : Type} {rel : Hp → β → α → Prop} {F H : Hp} {Q : β → Hp → Prop} {r : R α} (h : PostR G rel E F H Q (noErr r)) : PostR G rel E0' F H Q r := by
  cases r with
  | ok a => exact h
  | err c => exact (show False from h).elim
  | bad => exact h
/-- first r (that may raise nothing), then k -/
theorem PostR.seqN {α β γ δ : Type} {rel : Hp → β → α → Prop} {rel2 : Hp → δ → γ → Prop} {F H : Hp} {Q : β → Hp → Prop} {Q2 : δ → Hp → Prop} {r : R γ} {k : γ → R α} (h : PostR G rel E F H Q ((Py.noErr r).bind k))
    {F1 H1 : Hp} (s1 : Step G F H F1 H1) (h2 : ∀ a x F' H', r = .ok a → Step G F1 H1 F' H' → rel2 F' x a → PostR G rel E F H Q (k a) → Q2 x H') : PostR G rel2 E0' F1 H1 Q2 r := by
  cases r with
  | ok a => exact fun x F' H' s q => h2 a x F' H' rfl s q h
  | err c => exact (show False from h).elim
  | bad => exact h
theorem bind_assoc {α β γ : Type} (r : R α) (f : α → R β) (g : β → R γ) : (r.bind f).bind g = r.bind fun a => (f a).bind g := by cases r <;> rfl
theorem noErr_ne {α β : Type} {r : R α} {k : α → R β} {c : Er} (h : ∀ a, k a ≠ .err c) : (Py.noErr r).bind k ≠ .err c := by
  cases r with
  | ok a => exact h a
  | err _ => exact fun z => by cases z
  | bad => exact fun z => by cases z
theorem lcL_noerr {ρ : Rho} (c : Er) : ∀ ds : List D, lcL ft tt fe ρ ds ≠ .err c
  | [] => fun z => by cases z
  | d :: ds => by
    have ih := lcL_noerr (ρ := ρ) c ds
    unfold lcL
    cases q : ft d with
    | none => exact fun z => by cases z
    | some bs =>
      refine noErr_ne fun k => ?_
      cases k with
      | false => exact ih
      | true =>
        refine noErr_ne fun y => ?_
        cases q2 : lcL ft tt fe ρ ds with
        | ok ys => exact fun z => by cases z
        | err c' =>
          intro z
          rw [q2] at ih
          exact ih z
        | bad => exact fun z => by cases z
theorem tE_lc {vs : List Nat} (ho : Only ft vs) {σ : L2.St} {H : Hp} {Q : VK} (h : tE G E (rLc vs fi ft tt fe) σ H Q) : tLc (tI G E fi) (tG G ft) (tT G E0' tt) (tE G E0' fe) vs σ H Q := by
  obtain ⟨ρ, F, e, b, h⟩ := h
  refine ⟨ρ, F, e, b, PostR.seq h fun ds J F1 H1 _ s1 wk h1 => fun Dl hD => ?_⟩
  have hF1 : F1 Dl = none := s1.base.free hD
  have hin : ∀ (u : List V) a o, H1 a = some o → upd H1 Dl (.lst u) a = some o := fun u a o q => by
    rw [upd_ne (ne_of_none q hD)]
    exact q
  refine ⟨fun i m H => m = ds.length - i ∧ i ≤ ds.length ∧ ∃ F' us es, Step G F1 H1 F' H ∧ F' Dl = none ∧ H Dl = some (.lst us) ∧ DdAll G.K F' us es ∧ us.length ≤ i ∧ PostR G (Dd G.K) E F1 H1 Q ((lcL ft tt fe (wipeR ρ vs) (ds.drop i)).bind fun ys => mkLst (es ++ ys)),
    ⟨ds.length, by simp, Nat.zero_le _, F1, [], [], ⟨.refl _, fun a o q _ => hin [] a o q, ⟨fun a o q => hin [] a o (s1.base.sub a o q), s1.base.nt, s1.base.tab.ext (hin [])⟩, fun _ _ _ _ n => n⟩, hF1, upd_same, .nil, Nat.zero_le _, by simpa using h1⟩, ?_⟩
  rintro i m H2 ⟨rfl, hi, F2, us, es, s2, n2, u2, d2, l2, h2⟩
  by_cases hlt : i < ds.length
  · refine .inr ⟨wk.go i H2 (s2.ff.trans s2.base.sub) hlt, fun H3 => ∃ F' us es, Step G F1 H1 F' H3 ∧ F' Dl = none ∧ H3 Dl = some (.lst us) ∧ DdAll G.K F' us es ∧ us.length ≤ i + 1 ∧ PostR G (Dd G.K) E F1 H1 Q ((lcL ft tt fe (wipeR ρ vs) (ds.drop (i + 1))).bind fun ys => mkLst (es ++ ys)),
      fun H3 z => ⟨ds.length - (i + 1), by omega, rfl, by omega, z⟩, fun x H3 y => ?_⟩
    obtain ⟨F3, s3, d3⟩ := wk.yld i ds[i] F2 H2 x H3 (List.getElem?_eq_getElem hlt) s2.ff s2.base y
    rw [List.drop_eq_getElem_cons hlt] at h2
    have h3 : PostR G (Dd G.K) E F1 H1 Q ((match ft ds[i] with
      | none => .bad
      | some bs => (noErr (tt (setsR (wipeR ρ vs) bs))).bind fun k => if k = true then (noErr (fe (setsR (wipeR ρ vs) bs))).bind fun y => (lcL ft tt fe (wipeR ρ vs) (ds.drop (i + 1))).bind fun ys => .ok (y :: ys) else lcL ft tt fe (wipeR ρ vs) (ds.drop (i + 1)) : R (List D)).bind fun ys => mkLst (es ++ ys)) := h2
    refine ⟨ds[i], F3, d3, s3.base, ?_⟩
    cases q : ft ds[i] with
    | none =>
      rw [q] at h3
      exact (show False from h3).elim
    | some bs =>
      rw [q] at h3
      refine fun ws hw => ⟨(wipe_sets _ hw (ho _ _ q)).trans (wipe_idem σ vs), ?_⟩
      have s13 : Step G F1 H1 F3 H3 := s2.trans s3
      have e3 : EnvOk G.K F3 H3 (setsV (wipe σ vs) ws) (setsR (wipeR ρ vs) bs) := (((e.step s1).step s13).wipe vs).sets hw
      refine ⟨setsR (wipeR ρ vs) bs, F3, e3, s3.base, ?_⟩
      have h4 : PostR G (Dd G.K) E F1 H1 Q (((noErr (tt (setsR (wipeR ρ vs) bs))).bind fun k => if k = true then (noErr (fe (setsR (wipeR ρ vs) bs))).bind fun y => (lcL ft tt fe (wipeR ρ vs) (ds.drop (i + 1))).bind fun ys => .ok (y :: ys) else lcL ft tt fe (wipeR ρ vs) (ds.drop (i + 1)) : R (List D)).bind fun ys => mkLst (es ++ ys)) := h3
      rw [bind_assoc] at h4
      have u3 : H3 Dl = some (.lst us) := s3.hh _ _ u2 (fun ps => lst_ne ps)
      have n3 : F3 Dl = none := s3.own _ _ u2 (fun ps => lst_ne ps) n2
      refine PostR.seqN h4 s13 fun k x F4 H4 _ s4 d4 h5 => ?_
      subst d4
      have u4 : H4 Dl = some (.lst us) := s4.hh _ _ u3 (fun ps => lst_ne ps)
      have n4 : F4 Dl = none := s4.own _ _ u3 (fun ps => lst_ne ps) n3
      cases x with
      | false => exact ⟨F4, us, es, s13.trans s4, n4, u4, d2.mono (s3.ff.trans s4.ff), by omega, h5⟩
      | true =>
        show tE G E0' fe (setsV (wipe σ vs) ws) H4 _
        refine ⟨setsR (wipeR ρ vs) bs, F4, e3.step s4, s4.base, ?_⟩
        have h6 : PostR G (Dd G.K) E F1 H1 Q (((noErr (fe (setsR (wipeR ρ vs) bs))).bind fun y => (lcL ft tt fe (wipeR ρ vs) (ds.drop (i + 1))).bind fun ys => .ok (y :: ys) : R (List D)).bind fun ys => mkLst (es ++ ys)) := h5
        rw [bind_assoc] at h6
        refine PostR.seqN h6 (s13.trans s4) fun d v F5 H5 _ s5 d5 h7 => ?_
        have u5 : H5 Dl = some (.lst us) := s5.hh _ _ u4 (fun ps => lst_ne ps)
        have n5 : F5 Dl = none := s5.own _ _ u4 (fun ps => lst_ne ps) n4
        have s15 : Step G F1 H1 F5 H5 := (s13.trans s4).trans s5
        have ll : us.length < sizeLine := by
          cases q2 : lcL ft tt fe (wipeR ρ vs) (ds.drop (i + 1)) with
          | ok ys =>
            rw [bind_assoc, q2] at h7
            have h8 : PostR G (Dd G.K) E F1 H1 Q (if (es ++ d :: ys).length ≤ maxL then .ok (.list (es ++ d :: ys)) else .bad) := h7
            split at h8
            · rename_i z
              rw [List.length_append] at z
              rw [d2.length]
              exact maxL_lt (by omega)
            · exact (show False from h8).elim
          | err c =>
            rw [bind_assoc, q2] at h7
            -- an inner error is turned to bad
            exact absurd q2 (lcL_noerr c _)
          | bad =>
            rw [bind_assoc, q2] at h7
            exact (show False from h7).elim
        refine ⟨us, u5, ll, F5, us ++ [v], es ++ [d], ⟨s15.ff, fun a o q z => ?_, ⟨fun a o q => ?_, s5.base.nt, Tabs.upd s5.base.tab u5⟩, s15.own⟩, n5, upd_same, (d2.mono ((s3.ff.trans s4.ff).trans s5.ff)).append (.cons d5 .nil), by rw [List.length_append]; simp only [List.length_singleton]; omega, ?_⟩
        · rw [upd_ne (ne_of_none q hD)]
          exact s15.hh a o q z
        · rw [upd_ne (ne_of_none q n5)]
          exact s5.base.sub a o q
        · rw [bind_assoc] at h7
          cases q2 : lcL ft tt fe (wipeR ρ vs) (ds.drop (i + 1)) with
          | ok ys =>
            rw [q2] at h7
            have h8 : PostR G (Dd G.K) E F1 H1 Q (mkLst (es ++ d :: ys)) := h7
            show PostR G (Dd G.K) E F1 H1 Q (mkLst ((es ++ [d]) ++ ys))
            rw [List.append_assoc]
            exact h8
          | err c =>
            rw [q2] at h7
            exact h7
          | bad =>
            rw [q2] at h7
            exact h7
  · have e : i = ds.length := by omega
    subst e
    refine .inl ⟨wk.stop H2 (s2.ff.trans s2.base.sub), ?_⟩
    rw [List.drop_length] at h2
    have h3 : PostR G (Dd G.K) E F1 H1 Q (if (es ++ []).length ≤ maxL then .ok (.list (es ++ [])) else .bad) := h2
    split at h3
    · rw [List.append_nil] at h3
      refine h3 (.ref Dl) (upd F2 Dl (.lst us)) H2 ⟨s2.ff.trans (sub_upd n2), s2.hh, ⟨upd_sub s2.base.sub u2, fun a ps z => ?_, s2.base.tab⟩, fun a o q z n => ?_⟩ (.lst upd_same (dd_self n2 d2))
      · by_cases y : a = Dl
        · subst y
          rw [upd_same] at z
          cases z
        · rw [upd_ne y] at z
          exact s2.base.nt a ps z
      · rw [upd_ne (ne_of_none q hD)]
        exact s2.own a o q z n
    · exact (show False from h3).elim
theorem ts_nil : PTs X [] (tT G E fun _ => .ok true) := ⟨fun pins s σ H Q I ⟨ρ, F, e, b, h⟩ => pts_nil.run pins s σ H Q I (PostR.val h b rfl)⟩
theorem ts_one (h : PT X c (tT G E tc)) : PTs X [c] (tT G E tc) := pts_one h
/-- [e for t in i if ..] -/
theorem e_lc {elt tg iter : Expr} {ifs : List Expr} {scope : Scope} {own : List (Str × Nat)} (hc : X.calm = true) (hN : X.N.Nodup) (ok : BlkOk X.N X.env.scope scope own) (ho : Only ft (own.map (·.2))) (hi : PI X tg iter (tI G E fi))
    (hg : ∀ (s : Shared) (H : Hp) (C : Addr) (cl : List (Str × Addr)) (fp : List Addr), PG (X.blk s H scope (compEnvC scope cl C X.env) fp) tg (tG G ft)) (ht : ∀ (s : Shared) (H : Hp) (C : Addr) (cl : List (Str × Addr)) (fp : List Addr), PTs (X.blk s H scope (compEnvC scope cl C X.env) fp) ifs (tT G E0' tt))
    (he : ∀ (s : Shared) (H : Hp) (C : Addr) (cl : List (Str × Addr)) (fp : List Addr), PE (X.blk s H scope (compEnvC scope cl C X.env) fp) elt (tE G E0' fe)) (hs : ∀ x, foldedSetIterable iter X.env x = pure x := by intro _; rfl) :
    PE X (.ListComp elt [⟨tg, iter, ifs, 0⟩] scope pos) (tE G E (rLc (own.map (·.2)) fi ft tt fe)) :=
  pe_imp (pe_lc hc hN hi ok hg ht he hs) fun σ H Q h => tE_lc ho h
/-- x = [..], x a local on that line -/
theorem s_setLc (i : Nat) {y : Str} {py spos : Pos} {elt tg iter : Expr} {ifs : List Expr} {scope : Scope} {own : List (Str × Nat)} (hc : X.calm = true) (hN : X.N.Nodup) (ok : BlkOk X.N X.env.scope scope own) (ho : Only ft (own.map (·.2))) (hi : PI X tg iter (tI G E fi))
    (hg : ∀ (s : Shared) (H : Hp) (C : Addr) (cl : List (Str × Addr)) (fp : List Addr), PG (X.blk s H scope (compEnvC scope cl C X.env) fp) tg (tG G ft)) (ht : ∀ (s : Shared) (H : Hp) (C : Addr) (cl : List (Str × Addr)) (fp : List Addr), PTs (X.blk s H scope (compEnvC scope cl C X.env) fp) ifs (tT G E0' tt))
    (he : ∀ (s : Shared) (H : Hp) (C : Addr) (cl : List (Str × Addr)) (fp : List Addr), PE (X.blk s H scope (compEnvC scope cl C X.env) fp) elt (tE G E0' fe)) (hy : X.N[i]? = some y := by rfl) (hyl : X.env.scope.names.lookup y = some .local := by rfl)
    (hsw : swapsWith (.ListComp elt [⟨tg, iter, ifs, 0⟩] scope pos) (some (.Name y py)) spos.line X.env = pure true := by exact sw_true rfl rfl rfl (by decide +kernel)) (hs : ∀ x, foldedSetIterable iter X.env x = pure x := by intro _; rfl) :
    PS X (.Assign [.Name y py] (.ListComp elt [⟨tg, iter, ifs, 0⟩] scope pos) spos) (tS G E (gSet i (rLc (own.map (·.2)) fi ft tt fe))) :=
  ps_imp (ps_setLc hc hN hy hyl hsw hi ok hg ht he hs) fun D σ H ⟨F0, H0, ρ, F, i0, h⟩ => by
    show tLc _ _ _ _ _ σ H fun x H1 => gName i x σ H1 D.nx
    exact tE_lc (E := E) ho ⟨ρ, F, i0.env, i0.base, PostO.seq h i0.st fun d v F1 H1 _ s1 d1 h1 => h1 _ F1 H1 ((i0.step s1).set i d1)⟩

/-! ### raise -/
theorem s_raise {er : Er} {x m : Str} {j : Nat} {C : Addr} {p pp pos2 : Pos} (hc : X.calm = true) (tk : L2N.Takes X fun cls d _ H => E cls d H) (hC : G.xc er = C) (q : PySem.W.excIn X.K C He.veBase "ValueError.__new__" = true) (gC : X.mg x = some (.ref C)) (kC : PySem.W.keepIn X.K (.ref C) = true)
    (h1 : PySem.W.subIn X.K (.ref C) (.type "BaseException") = some true) (h2 : PySem.W.typeIn X.K (.ref C) = some (.type "type")) (hg : Gl X x := by rfl) (hdb : (x == ("__debug__" : Str)) = false := by decide) :
    PS X (.Raise (some (.Call (.Name x p) [.Constant (.str m) j pp] [] pos)) none pos2) (tS G E fun _ => .err er) :=
  ps_imp (L2N.ps_raise hc tk (L2N.pmk_own PySem.F.excBase_ValueError q gC kC (raises_own h1 h2) hg hdb)) fun D σ H ⟨F0, H0, ρ, F, i0, h⟩ => by
    have h3 : E (.ref (G.xc er)) none H := h F H i0.st
    rw [hC] at h3
    exact h3

/-! ### a def -/
@[reducible] def fin : O → R D
  | .nx _ => .ok .none
  | .ret d => .ok d
  | .err c => .err c
  | _ => .bad
@[reducible] def startR (n : Nat) (ds : List D) : Rho := ds.map .dat ++ List.replicate (n - ds.length) .no
theorem env_start {K : PySem.W.Frag} {F H : Hp} {N : List Str} {vs : List V} {ds : List D} (h : DdAll K F vs ds) : EnvOk K F H (L2.start N vs) (startR N.length ds) := by
  unfold L2.start startR
  refine ⟨by rw [List.length_append, List.length_append, List.length_map, List.length_map, List.length_replicate, List.length_replicate, h.length], fun i s ov h1 h2 => ?_, fun i j p s t _ h1 _ o1 _ => ?_⟩
  · by_cases hi : i < ds.length
    · rw [List.getElem?_append_left (by rw [List.length_map]; exact hi), List.getElem?_map] at h1
      rw [List.getElem?_append_left (by rw [List.length_map, h.length]; exact hi), List.getElem?_map] at h2
      cases q : ds[i]? with
      | none =>
        rw [q] at h1
        cases h1
      | some d =>
        rw [q] at h1
        obtain ⟨v, e1, e2⟩ := h.get q
        rw [e1] at h2
        cases h1
        cases h2
        exact ⟨v, rfl, e2⟩
    · rw [List.getElem?_append_right (by rw [List.length_map]; omega)] at h1
      obtain ⟨_, e⟩ := List.getElem?_eq_some_iff.mp h1
      rw [List.getElem_replicate] at e
      rw [← e]
      trivial
  · exfalso
    by_cases hi : i < ds.length
    · rw [List.getElem?_append_left (by rw [List.length_map]; exact hi), List.getElem?_map] at h1
      cases q : ds[i]? with
      | none =>
        rw [q] at h1
        cases h1
      | some d =>
        rw [q] at h1
        cases h1
        cases o1
    · rw [List.getElem?_append_right (by rw [List.length_map]; omega)] at h1
      obtain ⟨_, e⟩ := List.getElem?_eq_some_iff.mp h1
      rw [List.getElem_replicate] at e
      rw [← e] at o1
      cases o1
theorem noOwn_start {n : Nat} {ds : List D} {i : Nat} {s : Sl} (h1 : (startR n ds)[i]? = some s) (o1 : s.isOwn = true) : False := by
  unfold startR at h1
  by_cases hi : i < ds.length
  · rw [List.getElem?_append_left (by rw [List.length_map]; exact hi), List.getElem?_map] at h1
    cases q : ds[i]? with
    | none =>
      rw [q] at h1
      cases h1
    | some d =>
      rw [q] at h1
      cases h1
      cases o1
  · rw [List.getElem?_append_right (by rw [List.length_map]; omega)] at h1
    obtain ⟨_, e⟩ := List.getElem?_eq_some_iff.mp h1
    rw [List.getElem_replicate] at e
    rw [← e] at o1
    cases o1
/-- what a body with the worth g is worth as a def -/
@[reducible] def run (n : Nat) (g : Rho → O) (ds : List D) : R D := fin (g (startR n ds))
theorem body_ok {N : List Str} {vs : List V} {ds : List D} {F H : Hp} {Q : VK} (b : Base G F H) (hd : DdAll G.K F vs ds) (h : PostR G (Dd G.K) E F H Q (run N.length g ds)) : tS G E g { nx := fun _ H' => Q .non H', rt := Q } (L2.start N vs) H := by
  refine ⟨F, H, startR N.length ds, F, ⟨.refl b, env_start hd, fun i p s o h1 h2 _ _ => (noOwn_start h1 h2).elim⟩, ?_⟩
  have h1 : PostR G (Dd G.K) E F H Q (fin (g (startR N.length ds))) := h
  cases q : g (startR N.length ds) with
  | nx ρ =>
    rw [q] at h1
    exact fun σ' F' H' i => h1 .non F' H' i.st .non
  | ret d =>
    rw [q] at h1
    exact fun v F' H' s q => h1 v F' H' s q
  | err c =>
    rw [q] at h1
    exact fun F' H' s => h1 F' H' s
  | brk ρ =>
    rw [q] at h1
    exact (show False from h1).elim
  | ct ρ =>
    rw [q] at h1
    exact (show False from h1).elim
  | bad =>
    rw [q] at h1
    exact h1
theorem fn_ok {P : Program} {w : World} {mg : Str → Option Value} {base : Heap} {x qual : Str} {params : Arguments} {body : List Stmt} {scope : Scope} {dvs : List V} {kws : List (Str × V)} {f : Addr} {fd : FuncData} {N ps : List Str} {k : Nat}
    (Fd : FunD G.K x qual params body scope dvs kws f fd) (S : FnScope N ps scope)
    (hb : ∀ (cdv : Value) (A : Around) (outer : List Env) (s : Shared) (H : Hp) (E : XK), Room k (A.deeper (envOfC qual scope s.heap.objs.size f cdv)) → PSs (cxOf (L2N.CX P w) P w G.K mg base N qual scope f cdv A outer s H E) body (tS G E g)) :
    FnOk P w G.K mg base (L2N.CX P w) (k + 1) f fd ps (spD G ps.length (run N.length g)) :=
  Fd.ok S (fun vs H Q E h => h.1) fun cdv A outer s H vs Q E hr ⟨_, F, ds, b, hd, h⟩ => ⟨_, hb cdv A outer s H E hr, body_ok b hd h⟩
end
end Py

namespace Py
open PySem PySem.Spec PyProof.Rows L2 LamX

/-! ### lists of bools, of ints, of texts -/
@[reducible] def asBools : List D → Option (List Bool)
  | [] => some []
  | .bool b :: ds => (asBools ds).map (b :: ·)
  | _ :: _ => none
@[reducible] def asInts : List D → Option (List Int)
  | [] => some []
  | .int b :: ds => (asInts ds).map (b :: ·)
  | _ :: _ => none
@[reducible] def asStrs : List D → Option (List Str)
  | [] => some []
  | .str b :: ds => (asStrs ds).map (b :: ·)
  | _ :: _ => none
theorem asBools_eq : ∀ {ds : List D} {bs : List Bool}, asBools ds = some bs → ds = bs.map .bool
  | [], _, h => by cases h; rfl
  | .bool b :: ds, bs, h => by
    have h1 : (asBools ds).map (b :: ·) = some bs := h
    cases q : asBools ds with
    | none =>
      rw [q] at h1
      cases h1
    | some cs =>
      rw [q] at h1
      cases h1
      rw [asBools_eq q]
      rfl
  | .none :: _, _, h => by cases h
  | .int _ :: _, _, h => by cases h
  | .str _ :: _, _, h => by cases h
  | .list _ :: _, _, h => by cases h
  | .tuple _ :: _, _, h => by cases h
  | .dict _ :: _, _, h => by cases h
theorem asInts_eq : ∀ {ds : List D} {bs : List Int}, asInts ds = some bs → ds = bs.map .int
  | [], _, h => by cases h; rfl
  | .int b :: ds, bs, h => by
    have h1 : (asInts ds).map (b :: ·) = some bs := h
    cases q : asInts ds with
    | none =>
      rw [q] at h1
      cases h1
    | some cs =>
      rw [q] at h1
      cases h1
      rw [asInts_eq q]
      rfl
  | .none :: _, _, h => by cases h
  | .bool _ :: _, _, h => by cases h
  | .str _ :: _, _, h => by cases h
  | .list _ :: _, _, h => by cases h
  | .tuple _ :: _, _, h => by cases h
  | .dict _ :: _, _, h => by cases h
theorem asStrs_eq : ∀ {ds : List D} {bs : List Str}, asStrs ds = some bs → ds = bs.map .str
  | [], _, h => by cases h; rfl
  | .str b :: ds, bs, h => by
    have h1 : (asStrs ds).map (b :: ·) = some bs := h
    cases q : asStrs ds with
    | none =>
      rw [q] at h1
      cases h1
    | some cs =>
      rw [q] at h1
      cases h1
      rw [asStrs_eq q]
      rfl
  | .none :: _, _, h => by cases h
  | .bool _ :: _, _, h => by cases h
  | .int _ :: _, _, h => by cases h
  | .list _ :: _, _, h => by cases h
  | .tuple _ :: _, _, h => by cases h
  | .dict _ :: _, _, h => by cases h
theorem asBools_map : ∀ bs : List Bool, asBools (bs.map .bool) = some bs
  | [] => rfl
  | b :: bs => by
    show (asBools (bs.map .bool)).map (b :: ·) = some (b :: bs)
    rw [asBools_map bs]
    rfl
theorem asInts_map : ∀ bs : List Int, asInts (bs.map .int) = some bs
  | [] => rfl
  | b :: bs => by
    show (asInts (bs.map .int)).map (b :: ·) = some (b :: bs)
    rw [asInts_map bs]
    rfl
theorem asStrs_map : ∀ bs : List Str, asStrs (bs.map .str) = some bs
  | [] => rfl
  | b :: bs => by
    show (asStrs (bs.map .str)).map (b :: ·) = some (b :: bs)
    rw [asStrs_map bs]
    rfl
theorem dd_bools {K : PySem.W.Frag} {F : Hp} : ∀ {vs : List V} (bs : List Bool), DdAll K F vs (bs.map .bool) → vs = bs.map V.bl
  | _, [], h => by cases h; rfl
  | _, b :: bs, h => by
    cases h with
    | cons h1 h2 =>
      cases h1
      rw [dd_bools bs h2]
      rfl
theorem dd_ints {K : PySem.W.Frag} {F : Hp} : ∀ {vs : List V} (bs : List Int), DdAll K F vs (bs.map .int) → vs = bs.map V.int
  | _, [], h => by cases h; rfl
  | _, b :: bs, h => by
    cases h with
    | cons h1 h2 =>
      cases h1
      rw [dd_ints bs h2]
      rfl
theorem dd_strs {K : PySem.W.Frag} {F : Hp} : ∀ {vs : List V} (bs : List Str), DdAll K F vs (bs.map .str) → vs = bs.map V.str
  | _, [], h => by cases h; rfl
  | _, b :: bs, h => by
    cases h with
    | cons h1 h2 =>
      cases h1
      rw [dd_strs bs h2]
      rfl
theorem strsDd {K : PySem.W.Frag} {F : Hp} : ∀ ns : List Str, DdAll K F (ns.map V.str) (ns.map PyData.str)
  | [] => .nil
  | n :: ns => .cons (.str n) (strsDd ns)
section
variable {X : Cx} {G : Gb} {E : XK} {a b c : Expr} {es : List Expr} {fa fb fc fe : Rho → R D} {fs fi : Rho → R (List D)} {pos p2 : Pos}
/-- a rule for a call of one list argument -/
theorem one_dd {r : List V → Hp → VK → Prop} {f : List D → R D} (h0 : ∀ ds, (∀ d, ds ≠ [d]) → f ds = .bad) (h1 : ∀ (E : XK) (F H : Hp) (x : V) (d : D) (Q : VK), Base G F H → Dd G.K F x d → PostR G (Dd G.K) E F H Q (f [d]) → r [x] H Q) : CallD G r f := fun E F H xs ds Q bs hd h => by
  cases hd with
  | nil =>
    rw [h0 [] (fun d z => by cases z)] at h
    exact (show False from h).elim
  | cons hx ht =>
    cases ht with
    | nil => exact h1 E F H _ _ Q bs hx h
    | cons _ _ =>
      rw [h0 _ (fun d z => by cases z)] at h
      exact (show False from h).elim

/-! ### len -/
@[reducible] def lenD : D → R D
  | .list ds => .ok (.int ds.length)
  | .tuple ds => .ok (.int ds.length)
  | .str z => if z.length ≤ maxL then .ok (.int z.length) else .bad
  | .dict kv => match scrOf kv with
    | some ds => .ok (.int ds.length)
    | none => .bad
  | _ => .bad
@[reducible] def pLen : List D → R D
  | [d] => lenD d
  | _ => .bad
def rLenA (K : PySem.W.Frag) : List V → Hp → VK → Prop := fun xs H Q => ∃ x n, xs = [x] ∧ LenV K x H n ∧ Q (.int n) H
theorem c_len : CallD G (rLenA G.K) pLen := one_dd (fun ds h => by
    match ds, h with
    | [], _ => rfl
    | [d], h => exact absurd rfl (h d)
    | _ :: _ :: _, _ => rfl) fun E F H x d Q bs hd h => by
  cases hd with
  | @lst p vs ds hp hd => exact ⟨_, vs.length, rfl, .inl ⟨vs, SqL.of (bs.sub _ _ hp), rfl⟩, by rw [hd.length]; exact PostR.val (show PostR G (Dd G.K) E F H Q (.ok (.int ds.length)) from h) bs (.int _)⟩
  | @tup p vs ds hp hd => exact ⟨_, vs.length, rfl, .inr ⟨vs, bs.sub.sqT hp, rfl⟩, by rw [hd.length]; exact PostR.val (show PostR G (Dd G.K) E F H Q (.ok (.int ds.length)) from h) bs (.int _)⟩
  | str z =>
    have h1 : PostR G (Dd G.K) E F H Q (if z.length ≤ maxL then .ok (.int z.length) else .bad) := h
    split at h1
    · rename_i q
      exact ⟨_, z.length, rfl, ⟨maxL_line q, rfl⟩, h1.val bs (.int _)⟩
    · exact (show False from h1).elim
  | @scr p ns hp =>
    have h1 : PostR G (Dd G.K) E F H Q (.ok (.int (ns.map PyData.int).length)) := h
    refine ⟨_, (ns.map V.int).length, rfl, .inl ⟨_, bs.sub.sqL hp, rfl⟩, ?_⟩
    rw [List.length_map] at h1 ⊢
    exact h1.val bs (.int _)
  | @dct p kvs ds hp hd =>
    have h1 : PostR G (Dd G.K) E F H Q (match scrOf ds with | some ds => .ok (.int ds.length) | none => .bad) := h
    rw [hd.noScr] at h1
    exact (show False from h1).elim
  | _ => exact (show False from h).elim
theorem e_len {p : Pos} (hm : X.mg "len" = none) (ha : PA X [a] (tA G E fs)) (hg : Gl X "len" := by rfl) (he : starEach [a] X.env = (false, eval a X.env) :: starEach [] X.env := by rfl) (hpl : (backTo pos (starEach [] X.env)).any (·.1) = false := by rfl) (hK : X.K = G.K := by rfl) : PE X (.Call (.Name "len" p) [a] [] pos) (tE G E (rCall fs pLen)) :=
  e_callB (x := "len") (r := rLenA G.K) (by rw [← hK]; exact call_len) c_len hm boot_len ha hg (by decide) (by decide) he hpl

/-! ### isinstance -/
@[reducible] def tyN : D → String
  | .none => "NoneType"
  | .bool _ => "bool"
  | .int _ => "int"
  | .str _ => "str"
  | .list _ => "list"
  | .tuple _ => "tuple"
  | .dict kv => match scrOf kv with
    | some _ => "list"
    | none => "dict"
@[reducible] def isB (t T : String) : Bool := t == T || (t == "bool" && T == "int")
theorem ty_dd {K : PySem.W.Frag} {F H : Hp} {v : V} {d : D} (s : Sub F H) (h : Dd K F v d) : TyX K H v (.type (tyN d)) := by
  cases h with
  | non => exact .base .non
  | bl b => exact .base (.bl b)
  | int i => exact .base (.int i)
  | str x => exact .base (.str x)
  | lst h _ => exact .base (.lst (s _ _ h))
  | tup h _ =>
    rcases h with (h | ⟨o, h⟩) | ⟨o, its, n, h1, h2, _⟩
    · exact .base (.tup (s _ _ h))
    · exact .fTuple (s _ _ h)
    · exact .kTuple h1 h2
  | scr h =>
    rcases h with (h | ⟨o, h⟩) | ⟨o, its, n, h1, h2, _⟩
    · exact .base (.lst (s _ _ h))
    · exact .base (.frz (s _ _ h))
    · exact .kList h1 h2
  | @dct p kvs ds h a =>
    have e : tyN (.dict ds) = "dict" := by
      show (match scrOf ds with | some _ => "list" | none => "dict") = "dict"
      rw [a.noScr]
    rw [e]
    exact .base (.dK (s _ _ h))
@[reducible] def rIsI (T : String) (fa : Rho → R D) : Rho → R D := fun ρ => (fa ρ).bind fun d => .ok (.bool (isB (tyN d) T))
theorem e_isi {p p3 : Pos} {T : Str} {TS : String} (hm : X.mg "isinstance" = none) (hmT : X.mg T = none) (hvT : bootBuiltins T = some (.type TS)) (hk : ∀ t ∈ ["NoneType", "bool", "int", "str", "list", "tuple", "dict"], kitB t TS = some (isB t TS)) (ha : PE X a (tE G E fa)) (hg : Gl X "isinstance" := by rfl) (hgT : Gl X T := by rfl) (hnT : T ≠ "__name__" := by decide) (hdT : (T == ("__debug__" : Str)) = false := by decide)
    (he : starEach [a, .Name T p3] X.env = (false, eval a X.env) :: starEach [.Name T p3] X.env := by rfl) (hpl : (backTo pos (starEach [.Name T p3] X.env)).any (·.1) = false := by rfl) (hK : X.K = G.K := by rfl) :
    PE X (.Call (.Name "isinstance" p) [a, .Name T p3] [] pos) (tE G E (rIsI TS fa)) :=
  pe_imp (pe_callB (x := "isinstance") call_isi hg hm boot_isinstance (pa_cons ha (pa_cons (pe_bltn (v := .ty TS) hgT hmT hvT rfl hnT hdT) pa_nil) he) (by decide) (by decide) he hpl) fun σ H Q ⟨ρ, F, e, b, h⟩ => ⟨ρ, F, e, b, PostR.seq h fun d v F1 H1 _ s1 d1 h1 => by
    rw [hK]
    refine ⟨v, .ty TS, .type (tyN d), .type TS, isB (tyN d) TS, rfl, .ty TS, ty_dd s1.base.sub d1, kit_ty (hk _ ?_), h1.val s1.base (.bl _)⟩
    cases d with
    | dict kv =>
      show (match scrOf kv with | some _ => "list" | none => "dict") ∈ _
      cases scrOf kv <;> simp
    | _ => simp [tyN]⟩

/-! ### all, any, sum, abs -/
@[reducible] def onBools (f : List Bool → D) : List D → R D
  | [.list ds] => match asBools ds with
    | some bs => .ok (f bs)
    | none => .bad
  | _ => .bad
@[reducible] def onInts (f : List Int → R D) : List D → R D
  | [.list ds] => match asInts ds with
    | some bs => f bs
    | none => .bad
  | _ => .bad
theorem onBools_no (f : List Bool → D) (ds : List D) (h : ∀ d, ds ≠ [d]) : onBools f ds = .bad := by
  match ds, h with
  | [], _ => rfl
  | [d], h => exact absurd rfl (h d)
  | .list _ :: _ :: _, _ => rfl
  | .tuple _ :: _ :: _, _ => rfl
  | .str _ :: _ :: _, _ => rfl
  | .none :: _ :: _, _ => rfl
  | .bool _ :: _ :: _, _ => rfl
  | .int _ :: _ :: _, _ => rfl
  | .dict _ :: _ :: _, _ => rfl
theorem onInts_no (f : List Int → R D) (ds : List D) (h : ∀ d, ds ≠ [d]) : onInts f ds = .bad := by
  match ds, h with
  | [], _ => rfl
  | [d], h => exact absurd rfl (h d)
  | .list _ :: _ :: _, _ => rfl
  | .tuple _ :: _ :: _, _ => rfl
  | .str _ :: _ :: _, _ => rfl
  | .none :: _ :: _, _ => rfl
  | .bool _ :: _ :: _, _ => rfl
  | .int _ :: _ :: _, _ => rfl
  | .dict _ :: _ :: _, _ => rfl
theorem bools_dd {f : List Bool → D} {F H : Hp} {x : V} {d : D} {Q : VK} (bs : Base G F H) (hd : Dd G.K F x d) (h : PostR G (Dd G.K) E F H Q (onBools f [d])) : ∃ a cs, x = .ref a ∧ SqL G.K H a (cs.map V.bl) ∧ PostR G (Dd G.K) E F H Q (.ok (f cs)) := by
  cases hd with
  | @lst p vs ds hp hd =>
    have h1 : PostR G (Dd G.K) E F H Q (match asBools ds with | some bs => .ok (f bs) | none => .bad) := h
    cases q : asBools ds with
    | none =>
      rw [q] at h1
      exact (show False from h1).elim
    | some cs =>
      rw [q] at h1
      have e := asBools_eq q
      subst e
      have e2 := dd_bools cs hd
      subst e2
      exact ⟨p, cs, rfl, SqL.of (bs.sub _ _ hp), h1⟩
  | _ => exact (show False from h).elim
theorem ints_dd {f : List Int → R D} {F H : Hp} {x : V} {d : D} {Q : VK} (bs : Base G F H) (hd : Dd G.K F x d) (h : PostR G (Dd G.K) E F H Q (onInts f [d])) : ∃ a cs, x = .ref a ∧ SqL G.K H a (cs.map V.int) ∧ PostR G (Dd G.K) E F H Q (f cs) := by
  cases hd with
  | @lst p vs ds hp hd =>
    have h1 : PostR G (Dd G.K) E F H Q (match asInts ds with | some bs => f bs | none => .bad) := h
    cases q : asInts ds with
    | none =>
      rw [q] at h1
      exact (show False from h1).elim
    | some cs =>
      rw [q] at h1
      have e := asInts_eq q
      subst e
      have e2 := dd_ints cs hd
      subst e2
      exact ⟨p, cs, rfl, SqL.of (bs.sub _ _ hp), h1⟩
  | _ => exact (show False from h).elim
@[reducible] def pAll : List D → R D := onBools fun bs => .bool (bs.all id)
@[reducible] def pAny : List D → R D := onBools fun bs => .bool (bs.any id)
@[reducible] def pSum : List D → R D := onInts fun ns => .ok (.int ns.sum)
theorem c_all : CallD G (rAll G.K) pAll := one_dd (onBools_no _) fun E F H x d Q bs hd h => by
  obtain ⟨a, cs, rfl, h1, h2⟩ := bools_dd bs hd h
  exact ⟨a, cs, rfl, h1, h2.val bs (.bl _)⟩
theorem c_any : CallD G (rAny G.K) pAny := one_dd (onBools_no _) fun E F H x d Q bs hd h => by
  obtain ⟨a, cs, rfl, h1, h2⟩ := bools_dd bs hd h
  exact ⟨a, cs, rfl, h1, h2.val bs (.bl _)⟩
theorem c_sum : CallD G (rSum G.K) pSum := one_dd (onInts_no _) fun E F H x d Q bs hd h => by
  obtain ⟨a, cs, rfl, h1, h2⟩ := ints_dd bs hd h
  exact ⟨a, cs, rfl, h1, h2.val bs (.int _)⟩
theorem e_all {p : Pos} (hc : X.calm = true) (hm : X.mg "all" = none) (ha : PA X [a] (tA G E fs)) (hg : Gl X "all" := by rfl) (he : starEach [a] X.env = (false, eval a X.env) :: starEach [] X.env := by rfl) (hpl : (backTo pos (starEach [] X.env)).any (·.1) = false := by rfl) (hK : X.K = G.K := by rfl) : PE X (.Call (.Name "all" p) [a] [] pos) (tE G E (rCall fs pAll)) :=
  e_callB (x := "all") (r := rAll G.K) (id := "all") (by rw [← hK]; exact cr_all hc) c_all hm (by decide +kernel) ha hg (by decide) (by decide) he hpl
theorem e_any {p : Pos} (hc : X.calm = true) (hm : X.mg "any" = none) (ha : PA X [a] (tA G E fs)) (hg : Gl X "any" := by rfl) (he : starEach [a] X.env = (false, eval a X.env) :: starEach [] X.env := by rfl) (hpl : (backTo pos (starEach [] X.env)).any (·.1) = false := by rfl) (hK : X.K = G.K := by rfl) : PE X (.Call (.Name "any" p) [a] [] pos) (tE G E (rCall fs pAny)) :=
  e_callB (x := "any") (r := rAny G.K) (id := "any") (by rw [← hK]; exact cr_any hc) c_any hm (by decide +kernel) ha hg (by decide) (by decide) he hpl
theorem e_sum {p : Pos} (hc : X.calm = true) (hm : X.mg "sum" = none) (ha : PA X [a] (tA G E fs)) (hg : Gl X "sum" := by rfl) (he : starEach [a] X.env = (false, eval a X.env) :: starEach [] X.env := by rfl) (hpl : (backTo pos (starEach [] X.env)).any (·.1) = false := by rfl) (hK : X.K = G.K := by rfl) : PE X (.Call (.Name "sum" p) [a] [] pos) (tE G E (rCall fs pSum)) :=
  e_callB (x := "sum") (r := rSum G.K) (id := "sum") (by rw [← hK]; exact cr_sum hc) c_sum hm (by decide +kernel) ha hg (by decide) (by decide) he hpl
@[reducible] def pAbs : List D → R D
  | [.int i] => .ok (.int (if i < 0 then -i else i))
  | _ => .bad
theorem c_abs : CallD G (fun xs H Q => ∃ i, xs = [.int i] ∧ Q (.int (if i < 0 then -i else i)) H) pAbs := one_dd (fun ds h => by
    match ds, h with
    | [], _ => rfl
    | [d], h => exact absurd rfl (h d)
    | d :: _ :: _, _ => cases d <;> rfl) fun E F H x d Q bs hd h => by
  cases hd with
  | int i => exact ⟨i, rfl, PostR.val (show PostR G (Dd G.K) E F H Q (.ok (.int (if i < 0 then -i else i))) from h) bs (.int _)⟩
  | _ => exact (show False from h).elim
theorem e_abs {p : Pos} (hm : X.mg "abs" = none) (ha : PA X [a] (tA G E fs)) (hg : Gl X "abs" := by rfl) (he : starEach [a] X.env = (false, eval a X.env) :: starEach [] X.env := by rfl) (hpl : (backTo pos (starEach [] X.env)).any (·.1) = false := by rfl) : PE X (.Call (.Name "abs" p) [a] [] pos) (tE G E (rCall fs pAbs)) :=
  e_callB (x := "abs") (id := "abs") call_abs c_abs hm (by decide +kernel) ha hg (by decide) (by decide) he hpl

/-! ### min, max -/
@[reducible] def minI : Int → List Int → Int
  | m, [] => m
  | m, n :: ns => minI (if n < m then n else m) ns
@[reducible] def maxI : Int → List Int → Int
  | m, [] => m
  | m, n :: ns => maxI (if n > m then n else m) ns
theorem minI_spec : ∀ (ns : List Int) (m : Int), (minI m ns = m ∨ minI m ns ∈ ns) ∧ minI m ns ≤ m ∧ ∀ y ∈ ns, minI m ns ≤ y
  | [], m => ⟨.inl rfl, Int.le_refl _, fun y h => by cases h⟩
  | n :: ns, m => by
    obtain ⟨h1, h2, h3⟩ := minI_spec ns (if n < m then n else m)
    have l1 : (if n < m then n else m) ≤ m := by split <;> omega
    have l2 : (if n < m then n else m) ≤ n := by split <;> omega
    have e : minI m (n :: ns) = minI (if n < m then n else m) ns := rfl
    rw [e]
    refine ⟨?_, ?_, fun y hy => ?_⟩
    · rcases h1 with h1 | h1
      · rw [h1]
        split
        · exact .inr List.mem_cons_self
        · exact .inl rfl
      · exact .inr (List.mem_cons_of_mem _ h1)
    · exact Int.le_trans h2 l1
    · rcases List.mem_cons.mp hy with rfl | hy
      · exact Int.le_trans h2 l2
      · exact h3 y hy
theorem maxI_spec : ∀ (ns : List Int) (m : Int), (maxI m ns = m ∨ maxI m ns ∈ ns) ∧ m ≤ maxI m ns ∧ ∀ y ∈ ns, y ≤ maxI m ns
  | [], m => ⟨.inl rfl, Int.le_refl _, fun y h => by cases h⟩
  | n :: ns, m => by
    obtain ⟨h1, h2, h3⟩ := maxI_spec ns (if n > m then n else m)
    have l1 : m ≤ (if n > m then n else m) := by split <;> omega
    have l2 : n ≤ (if n > m then n else m) := by split <;> omega
    have e : maxI m (n :: ns) = maxI (if n > m then n else m) ns := rfl
    rw [e]
    refine ⟨?_, ?_, fun y hy => ?_⟩
    · rcases h1 with h1 | h1
      · rw [h1]
        split
        · exact .inr List.mem_cons_self
        · exact .inl rfl
      · exact .inr (List.mem_cons_of_mem _ h1)
    · exact Int.le_trans l1 h2
    · rcases List.mem_cons.mp hy with rfl | hy
      · exact Int.le_trans l2 h2
      · exact h3 y hy
@[reducible] def pMin : List D → R D
  | [.int i, .int j] => .ok (.int (if j < i then j else i))
  | [.list ds] => match asInts ds with
    | some (n :: ns) => .ok (.int (minI n ns))
    | _ => .bad
  | _ => .bad
@[reducible] def pMax : List D → R D
  | [.int i, .int j] => .ok (.int (if j > i then j else i))
  | [.list ds] => match asInts ds with
    | some (n :: ns) => .ok (.int (maxI n ns))
    | _ => .bad
  | _ => .bad
theorem CallR.or {f : Value} {r r' : List V → Hp → VK → Prop} (h : CallR X f r) (h' : CallR X f r') : CallR X f (fun xs H Q => r xs H Q ∨ r' xs H Q) := by
  intro pins s σ H xs us Q I rv q
  rcases q with q | q
  · exact h pins s σ H xs us Q I rv q
  · exact h' pins s σ H xs us Q I rv q
def rMinA (K : PySem.W.Frag) : List V → Hp → VK → Prop := fun xs H Q => (∃ i j, xs = [.int i, .int j] ∧ Q (.int (if j < i then j else i)) H) ∨ rMin K xs H Q
def rMaxA (K : PySem.W.Frag) : List V → Hp → VK → Prop := fun xs H Q => (∃ i j, xs = [.int i, .int j] ∧ Q (.int (if j > i then j else i)) H) ∨ rMax K xs H Q
theorem c_min : CallD G (rMinA G.K) pMin := fun E F H xs ds Q bs hd h => by
  cases hd with
  | nil => exact (show False from h).elim
  | cons hx ht =>
    cases ht with
    | nil =>
      cases hx with
      | @lst p vs ds hp hd =>
        have h1 : PostR G (Dd G.K) E F H Q (match asInts ds with | some (n :: ns) => .ok (.int (minI n ns)) | _ => .bad) := h
        cases q : asInts ds with
        | none =>
          rw [q] at h1
          exact (show False from h1).elim
        | some cs =>
          rw [q] at h1
          cases cs with
          | nil => exact (show False from h1).elim
          | cons n ns =>
            have e := asInts_eq q
            subst e
            have e2 := dd_ints (n :: ns) hd
            subst e2
            refine .inr ⟨p, n :: ns, rfl, SqL.of (bs.sub _ _ hp), Nat.succ_pos _, fun m hm hle => ?_⟩
            obtain ⟨z1, z2, z3⟩ := minI_spec ns n
            have em : m = minI n ns := by
              have l1 : m ≤ minI n ns := by
                rcases z1 with z | z
                · rw [z]
                  exact hle n List.mem_cons_self
                · exact hle _ (List.mem_cons_of_mem _ z)
              have l2 : minI n ns ≤ m := by
                rcases List.mem_cons.mp hm with z | z
                · rw [z]
                  exact z2
                · exact z3 m z
              omega
            rw [em]
            exact PostR.val (show PostR G (Dd G.K) E F H Q (.ok (.int (minI n ns))) from h1) bs (.int _)
      | _ => exact (show False from h).elim
    | cons hy ht2 =>
      cases ht2 with
      | cons _ _ => cases hx <;> cases hy <;> exact (show False from h).elim
      | nil =>
        cases hx with
        | int i =>
          cases hy with
          | int j => exact .inl ⟨i, j, rfl, PostR.val (show PostR G (Dd G.K) E F H Q (.ok (.int (if j < i then j else i))) from h) bs (.int _)⟩
          | _ => exact (show False from h).elim
        | _ => cases hy <;> exact (show False from h).elim
theorem c_max : CallD G (rMaxA G.K) pMax := fun E F H xs ds Q bs hd h => by
  cases hd with
  | nil => exact (show False from h).elim
  | cons hx ht =>
    cases ht with
    | nil =>
      cases hx with
      | @lst p vs ds hp hd =>
        have h1 : PostR G (Dd G.K) E F H Q (match asInts ds with | some (n :: ns) => .ok (.int (maxI n ns)) | _ => .bad) := h
        cases q : asInts ds with
        | none =>
          rw [q] at h1
          exact (show False from h1).elim
        | some cs =>
          rw [q] at h1
          cases cs with
          | nil => exact (show False from h1).elim
          | cons n ns =>
            have e := asInts_eq q
            subst e
            have e2 := dd_ints (n :: ns) hd
            subst e2
            refine .inr ⟨p, n :: ns, rfl, SqL.of (bs.sub _ _ hp), Nat.succ_pos _, fun m hm hle => ?_⟩
            obtain ⟨z1, z2, z3⟩ := maxI_spec ns n
            have em : m = maxI n ns := by
              have l1 : maxI n ns ≤ m := by
                rcases z1 with z | z
                · rw [z]
                  exact hle n List.mem_cons_self
                · exact hle _ (List.mem_cons_of_mem _ z)
              have l2 : m ≤ maxI n ns := by
                rcases List.mem_cons.mp hm with z | z
                · rw [z]
                  exact z2
                · exact z3 m z
              omega
            rw [em]
            exact PostR.val (show PostR G (Dd G.K) E F H Q (.ok (.int (maxI n ns))) from h1) bs (.int _)
      | _ => exact (show False from h).elim
    | cons hy ht2 =>
      cases ht2 with
      | cons _ _ => cases hx <;> cases hy <;> exact (show False from h).elim
      | nil =>
        cases hx with
        | int i =>
          cases hy with
          | int j => exact .inl ⟨i, j, rfl, PostR.val (show PostR G (Dd G.K) E F H Q (.ok (.int (if j > i then j else i))) from h) bs (.int _)⟩
          | _ => exact (show False from h).elim
        | _ => cases hy <;> exact (show False from h).elim
theorem e_min {p : Pos} (hc : X.calm = true) (hm : X.mg "min" = none) (ha : PA X (a :: es) (tA G E fs)) (hg : Gl X "min" := by rfl) (he : starEach (a :: es) X.env = (false, eval a X.env) :: starEach es X.env := by rfl) (hpl : (backTo pos (starEach es X.env)).any (·.1) = false := by rfl) (hK : X.K = G.K := by rfl) : PE X (.Call (.Name "min" p) (a :: es) [] pos) (tE G E (rCall fs pMin)) :=
  e_callB (x := "min") (r := rMinA G.K) (id := "min") (by rw [← hK]; exact CallR.or (call_min2 hc) (cr_min hc)) c_min hm (by decide +kernel) ha hg (by decide) (by decide) he hpl
theorem e_max {p : Pos} (hc : X.calm = true) (hm : X.mg "max" = none) (ha : PA X (a :: es) (tA G E fs)) (hg : Gl X "max" := by rfl) (he : starEach (a :: es) X.env = (false, eval a X.env) :: starEach es X.env := by rfl) (hpl : (backTo pos (starEach es X.env)).any (·.1) = false := by rfl) (hK : X.K = G.K := by rfl) : PE X (.Call (.Name "max" p) (a :: es) [] pos) (tE G E (rCall fs pMax)) :=
  e_callB (x := "max") (r := rMaxA G.K) (id := "max") (by rw [← hK]; exact CallR.or (call_max2 hc) (cr_max hc)) c_max hm (by decide +kernel) ha hg (by decide) (by decide) he hpl

/-! ### list(..), tuple(..), int(..) -/
@[reducible] def pList : List D → R D
  | [.list ds] => .ok (.list ds)
  | [.tuple ds] => .ok (.list ds)
  | _ => .bad
@[reducible] def pTuple : List D → R D
  | [.list ds] => .ok (.tuple ds)
  | [.tuple ds] => .ok (.tuple ds)
  | _ => .bad
theorem c_list : CallD G (fun xs H Q => ∃ p ys, xs = [.ref p] ∧ (SqL G.K H p ys ∨ SqT G.K H p ys) ∧ ∀ l, H l = none → Q (.ref l) (upd H l (.lst ys))) pList := one_dd (fun ds h => by
    match ds, h with
    | [], _ => rfl
    | [d], h => exact absurd rfl (h d)
    | d :: _ :: _, _ => cases d <;> rfl) fun E F H x d Q bs hd h => by
  cases hd with
  | @lst p vs ds hp hd => exact ⟨p, vs, rfl, .inl (SqL.of (bs.sub _ _ hp)), fun l hl => PostR.new (show PostR G (Dd G.K) E F H Q (.ok (.list ds)) from h) bs hl lst_ne (.lst upd_same (dd_self (bs.free hl) hd))⟩
  | @tup p vs ds hp hd => exact ⟨p, vs, rfl, .inr (bs.sub.sqT hp), fun l hl => PostR.new (show PostR G (Dd G.K) E F H Q (.ok (.list ds)) from h) bs hl lst_ne (.lst upd_same (dd_self (bs.free hl) hd))⟩
  | _ => exact (show False from h).elim
theorem c_tuple : CallD G (fun xs H Q => ∃ p ys, xs = [.ref p] ∧ ((SqL G.K H p ys ∧ ∀ l, H l = none → Q (.ref l) (upd H l (.tup ys))) ∨ (SqT G.K H p ys ∧ Q (.ref p) H))) pTuple := one_dd (fun ds h => by
    match ds, h with
    | [], _ => rfl
    | [d], h => exact absurd rfl (h d)
    | d :: _ :: _, _ => cases d <;> rfl) fun E F H x d Q bs hd h => by
  cases hd with
  | @lst p vs ds hp hd => exact ⟨p, vs, rfl, .inl ⟨SqL.of (bs.sub _ _ hp), fun l hl => PostR.new (show PostR G (Dd G.K) E F H Q (.ok (.tuple ds)) from h) bs hl tup_ne (.tup (SqT.of upd_same) (dd_self (bs.free hl) hd))⟩⟩
  | @tup p vs ds hp hd => exact ⟨p, vs, rfl, .inr ⟨bs.sub.sqT hp, PostR.val (show PostR G (Dd G.K) E F H Q (.ok (.tuple ds)) from h) bs (.tup hp hd)⟩⟩
  | _ => exact (show False from h).elim
theorem e_list {p : Pos} (hm : X.mg "list" = none) (ha : PA X [a] (tA G E fs)) (hg : Gl X "list" := by rfl) (he : starEach [a] X.env = (false, eval a X.env) :: starEach [] X.env := by rfl) (hpl : (backTo pos (starEach [] X.env)).any (·.1) = false := by rfl) (hK : X.K = G.K := by rfl) : PE X (.Call (.Name "list" p) [a] [] pos) (tE G E (rCall fs pList)) :=
  e_callTy (x := "list") (T := "list") (by rw [← hK]; exact call_list_of) c_list hm (by decide +kernel) ha hg (by decide) (by decide) he hpl
theorem e_tuple {p : Pos} (hm : X.mg "tuple" = none) (ha : PA X [a] (tA G E fs)) (hg : Gl X "tuple" := by rfl) (he : starEach [a] X.env = (false, eval a X.env) :: starEach [] X.env := by rfl) (hpl : (backTo pos (starEach [] X.env)).any (·.1) = false := by rfl) (hK : X.K = G.K := by rfl) : PE X (.Call (.Name "tuple" p) [a] [] pos) (tE G E (rCall fs pTuple)) :=
  e_callTy (x := "tuple") (T := "tuple") (by rw [← hK]; exact call_tuple_of) c_tuple hm (by decide +kernel) ha hg (by decide) (by decide) he hpl
@[reducible] def pInt : List D → R D
  | [.int i] => .ok (.int i)
  | [.bool k] => .ok (.int (if k then 1 else 0))
  | _ => .bad
theorem c_int : CallD G (fun xs H Q => (∃ i, xs = [.int i] ∧ Q (.int i) H) ∨ ∃ k : Bool, xs = [.bl k] ∧ Q (.int (if k then 1 else 0)) H) pInt := one_dd (fun ds h => by
    match ds, h with
    | [], _ => rfl
    | [d], h => exact absurd rfl (h d)
    | d :: _ :: _, _ => cases d <;> rfl) fun E F H x d Q bs hd h => by
  cases hd with
  | int i => exact .inl ⟨i, rfl, PostR.val (show PostR G (Dd G.K) E F H Q (.ok (.int i)) from h) bs (.int _)⟩
  | bl k => exact .inr ⟨k, rfl, PostR.val (show PostR G (Dd G.K) E F H Q (.ok (.int (if k then 1 else 0))) from h) bs (.int _)⟩
  | _ => exact (show False from h).elim
theorem e_intc {p : Pos} (hm : X.mg "int" = none) (ha : PA X [a] (tA G E fs)) (hg : Gl X "int" := by rfl) (he : starEach [a] X.env = (false, eval a X.env) :: starEach [] X.env := by rfl) (hpl : (backTo pos (starEach [] X.env)).any (·.1) = false := by rfl) : PE X (.Call (.Name "int" p) [a] [] pos) (tE G E (rCall fs pInt)) :=
  e_callTy (x := "int") (T := "int") call_int1 c_int hm (by decide +kernel) ha hg (by decide) (by decide) he hpl
end
end Py

namespace Py
open PySem PySem.Spec PyProof.Rows L2 LamX
section
variable {X : Cx} {G : Gb} {E : XK} {a b c : Expr} {es : List Expr} {fa fb fc fe : Rho → R D} {fs fi : Rho → R (List D)} {pos p2 : Pos}

theorem PostR.seq0 {α β γ δ : Type} {rel : Hp → β → α → Prop} {rel2 : Hp → δ → γ → Prop} {F H : Hp} {Q : β → Hp → Prop} {Q2 : δ → Hp → Prop} {r : R γ} {k : γ → R α} (h : PostR G rel E F H Q (r.bind k))
    {F1 H1 : Hp} (s1 : Step G F H F1 H1) (h2 : ∀ a x F' H', r = .ok a → Step G F1 H1 F' H' → rel2 F' x a → PostR G rel E F H Q (k a) → Q2 x H') : PostR G rel2 E F1 H1 Q2 r := by
  cases r with
  | ok a => exact fun x F' H' s q => h2 a x F' H' rfl s q h
  | err c => exact fun F' H' s => h F' H' (s1.trans s)
  | bad => exact h
/-! ### the text's own defs as bundles -/
/-- the def x has the worth m, by at most k levels of calls -/
structure Df (P : Program) (w : World) (G : Gb) (mg : Str → Option Value) (base : Heap) (x : Str) (k : Nat) (ps : List Str) (m : List D → R D) : Prop where
  ex : ∃ (f : Addr) (fd : FuncData), FnOk P w G.K mg base (L2N.CX P w) k f fd ps (spD G ps.length m) ∧ mg x = some (.ref f) ∧ PySem.W.keepIn G.K (.ref f) = true ∧ Binds G.K fd ps []
theorem Df.mono {P : Program} {w : World} {mg : Str → Option Value} {base : Heap} {x : Str} {j k : Nat} {ps : List Str} {m : List D → R D} (h : Df P w G mg base x j ps m) (hk : j ≤ k) : Df P w G mg base x k ps m := by
  obtain ⟨f, fd, h1, h2⟩ := h.ex
  exact ⟨f, fd, h1.mono hk, h2⟩
theorem passB : Passes (L2N.CX X.prog X.w) X E0' := fun _ _ _ _ _ _ _ h => by
  obtain ⟨_, _, _, _, _, _, _, _, _, _, _, _, z⟩ := h
  exact z.elim
@[reducible] def rArgs (n : Nat) (fs : Rho → R (List D)) : Rho → R (List D) := fun ρ => (fs ρ).bind fun ds => if ds.length = n then .ok ds else .bad
theorem e_callD {k : Nat} {ps : List Str} {m : List D → R D} {x : Str} {p : Pos} (h : Df X.prog X.w G X.mg X.base x k ps m) (hr : Room k X.A) (hx : Passes (L2N.CX X.prog X.w) X E) (ha : PA X (a :: es) (tA G E fs)) (hK : X.K = G.K := by rfl) (hl : (a :: es).length = ps.length := by rfl)
    (hg : Gl X x := by rfl) (hdb : (x == ("__debug__" : Str)) = false := by decide) (he : starEach (a :: es) X.env = (false, eval a X.env) :: starEach es X.env := by rfl) (hpl : (backTo pos (starEach es X.env)).any (·.1) = false := by rfl) :
    PE X (.Call (.Name x p) (a :: es) [] pos) (tE G E (rCall (rArgs ps.length fs) m)) := by
  obtain ⟨f, fd, h1, h2, h3, h4⟩ := h.ex
  rw [← hK] at h1 h3 h4
  exact e_call (CX := L2N.CX X.prog X.w) h1 hr h2 h3 h4 hx ha hl hg hdb he hpl
theorem e_callD0 {k : Nat} {m : List D → R D} {x : Str} {p : Pos} (h : Df X.prog X.w G X.mg X.base x k [] m) (hr : Room k X.A) (hx : Passes (L2N.CX X.prog X.w) X E) (hK : X.K = G.K := by rfl)
    (hg : Gl X x := by rfl) (hdb : (x == ("__debug__" : Str)) = false := by decide) :
    PE X (.Call (.Name x p) [] [] pos) (tE G E fun _ => m []) := by
  obtain ⟨f, fd, h1, h2, h3, h4⟩ := h.ex
  rw [← hK] at h1 h3 h4
  exact pe_imp (pe_call0 (CX := L2N.CX X.prog X.w) h1 hr hg h2 h3 h4 .nil hx hdb) fun σ H Q ⟨ρ, F, e, b, h⟩ => (show spD G 0 m ([] ++ []) H Q E from ⟨rfl, F, [], b, .nil, h⟩)
/-- a def's promise from its body -/
theorem df_ok {P : Program} {w : World} {mg : Str → Option Value} {base : Heap} {x : Str} {params : Arguments} {body : List Stmt} {scope : Scope} {kws : List (Str × V)} {f : Addr} {fd : FuncData} {N ps : List Str} {k : Nat} {g : Rho → O}
    (Fd : FunD G.K x x params body scope [] kws f fd) (hmg : mg x = some (.ref f)) (hbi : Binds G.K fd ps []) (S : FnScope N ps scope)
    (hb : ∀ (cdv : Value) (A : Around) (outer : List Env) (s : Shared) (H : Hp) (E : XK), Room k (A.deeper (envOfC x scope s.heap.objs.size f cdv)) → PSs (cxOf (L2N.CX P w) P w G.K mg base N x scope f cdv A outer s H E) body (tS G E g)) :
    Df P w G mg base x (k + 1) ps (run N.length g) := ⟨f, fd, fn_ok Fd S hb, hmg, Fd.kp, hbi⟩

/-! ### a written dict -/
/-- the worth of the written dict at d: its values by their text keys -/
structure KTab (w : World) (K : PySem.W.Frag) (d : Addr) (tab : List (Str × D)) : Prop where
  val : ∀ q ∈ tab, ∃ v, KDct K w d q.1 v ∧ ∀ F, Dd K F v q.2
@[reducible] def lookS (tab : List (Str × D)) (x : Str) : Option D := (tab.find? fun q => decide (q.1 = x)).map (·.2)
@[reducible] def pKGet (tab : List (Str × D)) : D → R D
  | .str x => orBad (lookS tab x)
  | _ => .bad
@[reducible] def rKGet (tab : List (Str × D)) (f : Rho → R D) : Rho → R D := fun ρ => (f ρ).bind (pKGet tab)
theorem e_kget {x : Str} {p : Pos} {d : Addr} {tab : List (Str × D)} (T : KTab X.w X.K d tab) (hm : X.mg x = some (.ref d)) (hb : PE X b (tE G E fb)) (hg : Gl X x := by rfl) (hs : PlainIx b := by exact fun _ _ => rfl) (hK : X.K = G.K := by rfl) (hdb : (x == ("__debug__" : Str)) = false := by decide) :
    PE X (.Subscript (.Name x p) b pos) (tE G E (rKGet tab fb)) :=
  pe_imp (pe_ix ix_kdict (pe_glob (v := .ref d) hg hm rfl hdb) hb hs) fun σ H Q ⟨ρ, F, e, bs, h⟩ => by
    show tE G E fb σ H _
    refine ⟨ρ, F, e, bs, PostR.seq h fun k v F1 H1 _ s1 d1 h1 => ?_⟩
    cases d1 with
    | str z =>
      have h2 : PostR G (Dd G.K) E F1 H1 Q (orBad (lookS tab z)) := h1
      cases q : tab.find? fun q => decide (q.1 = z) with
      | none =>
        unfold lookS at h2
        rw [q] at h2
        exact (show False from h2).elim
      | some t =>
        unfold lookS at h2
        rw [q] at h2
        have hmem := List.mem_of_find?_eq_some q
        have hz : t.1 = z := of_decide_eq_true (List.find?_some (p := fun q : Str × D => decide (q.1 = z)) q)
        obtain ⟨u, k1, k2⟩ := T.val t hmem
        rw [hz] at k1
        exact ⟨d, z, u, rfl, rfl, k1, PostR.val (show PostR G (Dd G.K) E F1 H1 Q (.ok t.2) from h2) s1.base (by rw [← hK]; exact k2 _)⟩
    | _ => exact (show False from h1).elim

/-! ### a displayed dict with text keys, get -/
@[reducible] def dLook (kv : List (D × D)) (x : Str) : Option D := (kv.find? fun q => match q.1 with | .str y => decide (y = x) | _ => false).map (·.2)
theorem dLook_dd {K : PySem.W.Frag} {F : Hp} {x : Str} : ∀ {kvs : List (Key × V)} {ds : List (D × D)}, DdKv K F kvs ds → match dLook ds x with
    | some d => ∃ v, valV kvs (Sum.inr x) = some v ∧ Dd K F v d
    | none => valV kvs (Sum.inr x) = none
  | _, _, .nil => rfl
  | _, _, .cons (k := k) (v := v) (vs := vs) (d := d) (ds := ds) h t => by
    have ih := dLook_dd (x := x) t
    unfold dLook valV at ih ⊢
    rw [List.find?_cons, List.find?_cons]
    cases k with
    | inl i =>
      have e1 : decide ((Sum.inl i : Key) = Sum.inr x) = false := decide_eq_false (fun z => by cases z)
      simp only [kD, e1]
      exact ih
    | inr y =>
      by_cases e : y = x
      · subst e
        have e1 : decide ((Sum.inr y : Key) = Sum.inr y) = true := decide_eq_true rfl
        simp only [kD, e1, decide_true]
        exact ⟨v, rfl, h⟩
      · have e1 : decide ((Sum.inr y : Key) = Sum.inr x) = false := decide_eq_false (fun z => e (Sum.inr.inj z))
        have e2 : decide (y = x) = false := decide_eq_false e
        simp only [kD, e1, e2]
        exact ih
@[reducible] def asDct : D → R (List (D × D))
  | .dict kv => match scrOf kv with
    | some _ => .bad
    | none => .ok kv
  | _ => .bad
@[reducible] def asStr : D → R Str
  | .str x => .ok x
  | _ => .bad
@[reducible] def rGet2 (fm fk fd : Rho → R D) : Rho → R D := fun ρ => (fm ρ).bind fun m => (asDct m).bind fun kv => (fk ρ).bind fun k => (fd ρ).bind fun d => (asStr k).bind fun x => .ok ((dLook kv x).getD d)
theorem e_get2 {o e f : Expr} {fm fk fd : Rho → R D} {apos cpos : Pos} (hu : X.A.units + 1 < cLine) (ho : PE X o (tE G E fm)) (he : PE X e (tE G E fk)) (hf : PE X f (tE G E fd)) (m : M2 X o "get" apos e f cpos := by exact ⟨by rfl, by rfl, by rfl, by rfl⟩) :
    PE X (.Call (.Attribute o "get" apos) [e, f] [] cpos) (tE G E (rGet2 fm fk fd)) :=
  pe_imp (pe_dget2 hu ho he hf m) fun σ H Q ⟨ρ, F, e, b, h⟩ => ⟨ρ, F, e, b, PostR.seq h fun m x F1 H1 q1 s1 d1 h1 => by
    cases d1 with
    | @dct p kvs ds hp hd =>
      have h1' : PostR G (Dd G.K) E F1 H1 Q ((match scrOf ds with | some _ => .bad | none => .ok ds : R (List (D × D))).bind fun kv => (fk ρ).bind fun k => (fd ρ).bind fun d => (asStr k).bind fun x => .ok ((dLook kv x).getD d)) := h1
      rw [hd.noScr] at h1'
      have h2 : PostR G (Dd G.K) E F1 H1 Q ((fk ρ).bind fun k => (fd ρ).bind fun d => (asStr k).bind fun x => .ok ((dLook ds x).getD d)) := h1'
      refine ⟨p, rfl, .inl ⟨kvs, .inl (s1.base.sub _ _ hp)⟩, ρ, F1, e.step s1, s1.base, PostR.seq h2 fun k y F2 H2 _ s2 d2 h3 => ⟨ρ, F2, (e.step s1).step s2, s2.base, PostR.seq h3 fun d z F3 H3 _ s3 d3 h4 => ?_⟩⟩
      cases d2 with
      | str x =>
        have h5 : PostR G (Dd G.K) E F3 H3 Q (.ok ((dLook ds x).getD d)) := h4
        refine ⟨valV kvs (Sum.inr x), .inl ⟨kvs, Sum.inr x, .inl (s3.base.sub _ _ (s3.ff _ _ (s2.ff _ _ hp))), rfl, rfl⟩, ?_⟩
        have hl := dLook_dd (x := x) (hd.mono (s2.ff.trans s3.ff))
        cases q : dLook ds x with
        | none =>
          rw [q] at hl h5
          have hl : valV kvs (Sum.inr x) = none := hl
          rw [hl]
          exact h5.val s3.base d3
        | some c =>
          rw [q] at hl h5
          obtain ⟨v, e1, e2⟩ := hl
          rw [e1]
          exact h5.val s3.base e2
      | _ => exact (show False from h4).elim
    | @scr p ns hp => exact (show False from h1).elim
    | _ => exact (show False from h1).elim⟩
/-- {'k': e, ..}, all keys texts, none twice -/
@[reducible] def rPairs : List (Str × (Rho → R D)) → Rho → R (List (D × D))
  | [], _ => .ok []
  | (k, f) :: r, ρ => (f ρ).bind fun d => (rPairs r ρ).bind fun ps => .ok ((.str k, d) :: ps)
def tPs (G : Gb) (E : XK) : List (Str × (Rho → R D)) → List (TE × TE)
  | [] => []
  | (k, f) :: r => (tC (.str k), tE G E f) :: tPs G E r
structure PPd (X : Cx) (G : Gb) (E : XK) (pos : Pos) (keys : List (Option Expr)) (values : List Expr) (fs : List (Str × (Rho → R D))) : Prop where
  h : PPs X pos keys values (tPs G E fs)
theorem pd_nil : PPd X G E pos [] [] [] := ⟨pps_nil⟩
theorem pd_cons {k : Str} {j : Nat} {pk : Pos} {v : Expr} {f : Rho → R D} {ks : List (Option Expr)} {vs : List Expr} {fs : List (Str × (Rho → R D))} (hv : PE X v (tE G E f)) (hr : PPd X G E pos ks vs fs) : PPd X G E pos (some (.Constant (.str k) j pk) :: ks) (v :: vs) ((k, f) :: fs) :=
  ⟨pps_cons pe_str hv hr.h⟩
theorem tabS_upd2 {H : Hp} {P p : Addr} {q : Str} {o o' : HO} (t : TabS H P q) (hp : H p = some o) (h1 : ∀ ps, o ≠ .tbl ps) (h2 : ∀ φ, o ≠ .ext φ) : TabS (upd H p o') P q := by
  obtain ⟨ps, e1, e2, e3⟩ := t
  have nP : P ≠ p := fun z => by
    subst z
    rw [hp] at e1
    exact h1 ps (Option.some.inj e1)
  refine ⟨ps, by rw [upd_ne nP]; exact e1, e2, fun pos cv hc => ?_⟩
  obtain ⟨c, g1, g2⟩ := e3 pos cv hc
  have nc : c ≠ p := fun z => by
    subst z
    rw [hp] at g2
    exact h2 _ (Option.some.inj g2)
  exact ⟨c, g1, by rw [upd_ne nc]; exact g2⟩
theorem tabs_upd2 {T : List (Addr × Str)} {H : Hp} {p : Addr} {o o' : HO} (t : Tabs T H) (hp : H p = some o) (h1 : ∀ ps, o ≠ .tbl ps) (h2 : ∀ φ, o ≠ .ext φ) : Tabs T (upd H p o') := fun x hx => tabS_upd2 (t x hx) hp h1 h2
theorem kv_ne {kvs : List (Key × V)} (ps : Array Value) : HO.dK kvs ≠ .tbl ps := fun z => by cases z
/-- the pairs' readings, one behind the other -/
theorem tPairs_ok {σ : L2.St} {ρ : Rho} : ∀ {fs : List (Str × (Rho → R D))} {F H : Hp} {Q : List (V × V) → Hp → Prop}, EnvOk G.K F H σ ρ → Base G F H →
    PostR G (fun F (ps : List (V × V)) (ds : List (D × D)) => ∃ kvs : List (Key × V), ps = kvs.map (fun kv => (kV kv.1, kv.2)) ∧ DdKv G.K F kvs ds ∧ kvs.map (·.1) = fs.map fun q => Sum.inr q.1) E F H Q (rPairs fs ρ) → tPairs (tPs G E fs) σ H Q
  | [], F, H, Q, e, b, h => PostR.val h b ⟨[], rfl, .nil, rfl⟩
  | (k, f) :: r, F, H, Q, e, b, h => by
    show tE G E f σ H fun y H2 => tPairs (tPs G E r) σ H2 fun ps H3 => Q ((.str k, y) :: ps) H3
    refine ⟨ρ, F, e, b, PostR.seq (show PostR G _ E F H Q ((f ρ).bind fun d => (rPairs r ρ).bind fun ps => .ok ((.str k, d) :: ps)) from h) fun d y F1 H1 _ s1 d1 h1 => ?_⟩
    refine tPairs_ok (e.step s1) s1.base ?_
    refine PostR.seq h1 fun ds ps F2 H2 _ s2 ⟨kvs, e1, e2, e3⟩ h2 => ?_
    refine h2.val s2.base ⟨(Sum.inr k, y) :: kvs, by rw [e1]; rfl, .cons (k := Sum.inr k) (d1.mono s2.ff) e2, by rw [List.map_cons, List.map_cons, e3]⟩
theorem putK_new {k : Key} {v : V} {kvs : List (Key × V)} (h : k ∉ kvs.map (·.1)) : putK kvs k v = kvs ++ [(k, v)] := by
  unfold putK
  rw [if_neg]
  intro z
  obtain ⟨kv, h1, h2⟩ := List.any_eq_true.mp z
  exact h (List.mem_map.mpr ⟨kv, h1, of_decide_eq_true h2⟩)
theorem mergeK_nodup : ∀ (more kvs : List (Key × V)), ((kvs ++ more).map (·.1)).Nodup → mergeK kvs more = kvs ++ more
  | [], kvs, _ => by rw [List.append_nil]; rfl
  | (k, v) :: more, kvs, h => by
    have h1 : k ∉ kvs.map (·.1) := fun z => by
      rw [List.map_append, List.map_cons] at h
      exact (List.nodup_append.mp h).2.2 k z k List.mem_cons_self rfl
    show mergeK (putK kvs k v) more = _
    rw [putK_new h1, mergeK_nodup more (kvs ++ [(k, v)]) (by rw [List.append_assoc]; exact h), List.append_assoc]
    rfl
@[reducible] def rDisp (fs : List (Str × (Rho → R D))) : Rho → R D := fun ρ => (rPairs fs ρ).bind fun ds => .ok (.dict ds)
theorem e_disp {keys : List (Option Expr)} {values : List Expr} {fs : List (Str × (Rho → R D))} (h : PPd X G E pos keys values fs) (hn : (fs.map fun q => (Sum.inr q.1 : Key)).Nodup := by decide +kernel) (hl : keys.length = values.length := by rfl) (h0 : keys ≠ [] := by exact fun z => by cases z) (hall : keys.all (·.isSome) = true := by rfl) (h15 : keys.length ≤ 15 := by decide) (h16 : fs.length ≤ 15 := by decide) :
    PE X (.Dict keys values pos) (tE G E (rDisp fs)) :=
  pe_imp (pe_disp h.h hall hl h0 h15) fun σ H Q ⟨ρ, F, e, b, h⟩ => fun p hp => by
    have hF : F p = none := b.free hp
    have hx : ∀ a u, H a = some u → upd H p (.dK []) a = some u := fun a u q => by
      rw [upd_ne (ne_of_none q hp)]
      exact q
    have b1 : Base G F (upd H p (.dK [])) := ⟨fun a u q => hx a u (b.sub a u q), b.nt, b.tab.ext hx⟩
    have s0 : Step G F H F (upd H p (.dK [])) := ⟨.refl _, fun a u q _ => hx a u q, b1, fun _ _ _ _ n => n⟩
    refine tPairs_ok (e.step s0) b1 (PostR.seq0 (show PostR G (Dd G.K) E F H Q ((rPairs fs ρ).bind fun ds => .ok (.dict ds)) from h) s0 fun ds ps F1 H1 _ s1 ⟨kvs, e1, e2, e3⟩ h1 => ?_)
    have hp1 : H1 p = some (.dK []) := s1.hh p _ upd_same (fun ps => kv_ne ps)
    have hF1 : F1 p = none := s1.own p _ upd_same (fun ps => kv_ne ps) hF
    have hlen : kvs.length ≤ 15 := by
      have z := congrArg List.length e3
      rw [List.length_map, List.length_map] at z
      rw [z]
      exact h16
    refine ⟨hp1, kvs, e1, hlen, ?_⟩
    rw [mergeK_nodup kvs [] (by rw [List.nil_append, e3]; exact hn), List.nil_append]
    have hx1 : ∀ a u, a ≠ p → H1 a = some u → upd H1 p (.dK kvs) a = some u := fun a u n q => by
      rw [upd_ne n]
      exact q
    have s01 : Step G F H F1 H1 := s0.trans s1
    refine h1 (.ref p) (upd F1 p (.dK kvs)) (upd H1 p (.dK kvs)) ⟨s01.ff.trans (sub_upd hF1), fun a u q z => hx1 a u (ne_of_none q hp) (s01.hh a u q z), ⟨fun a u q => ?_, fun a qs q => ?_, tabs_upd2 s1.base.tab hp1 (fun ps => kv_ne ps) (fun φ z => by cases z)⟩, fun a u q z n => ?_⟩ (.dct upd_same (e2.mono (sub_upd hF1)))
    · by_cases y : a = p
      · subst y
        rw [upd_same] at q ⊢
        exact q
      · rw [upd_ne y] at q
        exact hx1 a u y (s1.base.sub a u q)
    · by_cases y : a = p
      · subst y
        rw [upd_same] at q
        cases q
      · rw [upd_ne y] at q
        exact s1.base.nt a qs q
    · rw [upd_ne (ne_of_none q hp)]
      exact s01.own a u q z n

/-! ### a text's signs; xs[::-1]; xs.index(y) -/
@[reducible] def signs (x : Str) : List D := x.cps.toList.map fun c => .str ⟨#[c]⟩
theorem wk_str {F : Hp} (x : Str) : Wk G F (Its x) (signs x) where
  go := fun i H s hi => by
    unfold signs at hi
    rw [List.length_map, Array.length_toList] at hi
    exact hi
  stop := fun H s => by
    unfold signs
    rw [List.length_map, Array.length_toList]
    exact Nat.le_refl _
  yld := fun i d F1 H v H' e s b y => by
    obtain ⟨h1, c, h2, h3⟩ := y
    subst h1
    subst h3
    unfold signs at e
    rw [List.getElem?_map, Array.getElem?_toList, h2] at e
    cases e
    exact ⟨F1, .refl b, .str _⟩
@[reducible] def asSigns : D → R (List D)
  | .str x => .ok (signs x)
  | _ => .bad
@[reducible] def rSigns (f : Rho → R D) : Rho → R (List D) := fun ρ => (f ρ).bind asSigns
theorem i_str {tg : Expr} (ha : PE X a (tE G E fa)) : PI X tg a (tI G E (rSigns fa)) :=
  pi_imp (pi_str ha) fun σ H Q ⟨ρ, F, e, b, h⟩ => ⟨ρ, F, e, b, PostR.seq h fun d x F1 H1 _ s1 d1 h1 => by
    cases d1 with
    | str z => exact ⟨z, rfl, PostR.val (show PostR G (Wk G) E F1 H1 Q (.ok (signs z)) from h1) s1.base (wk_str z)⟩
    | _ => exact (show False from h1).elim⟩
@[reducible] def pRev : D → R D
  | .list ds => .ok (.list ds.reverse)
  | _ => .bad
@[reducible] def rRev (f : Rho → R D) : Rho → R D := fun ρ => (f ρ).bind pRev
theorem e_rev {k : Nat} {p1 p2 p3 : Pos} (ha : PE X a (tE G E fa)) (hK : X.K = G.K := by rfl) : PE X (.Subscript a (.Slice none none (some (.UnaryOp .USub (.Constant (.int 1) k p1) p2)) p3) pos) (tE G E (rRev fa)) :=
  pe_imp (pe_revL ha) fun σ H Q ⟨ρ, F, e, b, h⟩ => ⟨ρ, F, e, b, PostR.seq h fun d x F1 H1 _ s1 d1 h1 => by
    rw [hK]
    cases d1 with
    | @lst p vs ds hp hd => exact ⟨p, vs, rfl, SqL.of (s1.base.sub _ _ hp), fun q hq => PostR.new (show PostR G (Dd G.K) E F1 H1 Q (.ok (.list ds.reverse)) from h1) s1.base hq lst_ne (.lst upd_same (dd_self (s1.base.free hq) hd.reverse))⟩
    | _ => exact (show False from h1).elim⟩
/-- the first place of d, by == -/
@[reducible] def findD (d : D) : List D → Nat → Option Nat
  | [], _ => none
  | z :: ds, i => if PyData.eqv z d = true then some i else findD d ds (i + 1)
theorem findD_spec {d : D} : ∀ {ds : List D} {i j : Nat}, findD d ds i = some j → ∃ n, j = i + n ∧ (∃ z, ds[n]? = some z ∧ PyData.eqv z d = true) ∧ ∀ (m : Nat) (z' : PyData), m < n → ds[m]? = some z' → PyData.eqv z' d = false
  | [], _, _, h => by cases h
  | z :: ds, i, j, h => by
    have h1 : (if PyData.eqv z d = true then some i else findD d ds (i + 1)) = some j := h
    split at h1
    · rename_i q
      cases h1
      exact ⟨0, rfl, ⟨z, rfl, q⟩, fun m z' hm _ => absurd hm (Nat.not_lt_zero m)⟩
    · rename_i q
      obtain ⟨n, e1, ⟨y, e2, e3⟩, e4⟩ := findD_spec h1
      refine ⟨n + 1, by omega, ⟨y, e2, e3⟩, fun m z' hm hz => ?_⟩
      cases m with
      | zero =>
        cases hz
        cases q2 : PyData.eqv z d with
        | false => rfl
        | true => exact absurd q2 q
      | succ m => exact e4 m z' (by omega) hz
@[reducible] def pIndex (x y : D) : R D := match x with
  | .list ds => if (SeqAt.shaped (.list ds) && SeqAt.shaped y) = true then (match findD y ds 0 with | some j => .ok (.int (j : Nat)) | none => .bad) else .bad
  | _ => .bad
@[reducible] def asLs (x : D) : R D := match x with
  | .list ds => .ok (.list ds)
  | _ => .bad
@[reducible] def rIndexF (fa fb : Rho → R D) : Rho → R D := fun ρ => (fa ρ).bind fun x => (asLs x).bind fun x => (fb ρ).bind fun y => pIndex x y
theorem e_index {pa pc : Pos} (hu : X.A.units + 65 < cLine) (ha : PE X a (tE G E fa)) (hb : PE X b (tE G E fb))
    (hm : ∀ {to : TE} {t : TE}, PE X a to → PE X b t → PE X (.Call (.Attribute a "index" pa) [b] [] pc) (tBM X.K "list" (rIndexD X.K) to (tCons t tNil))) (hK : X.K = G.K := by rfl) : PE X (.Call (.Attribute a "index" pa) [b] [] pc) (tE G E (rIndexF fa fb)) :=
  pe_imp (hm ha hb) fun σ H Q ⟨ρ, F, e, b, h⟩ => ⟨ρ, F, e, b, PostR.seq h fun d x F1 H1 _ s1 d1 h1 => by
    rw [hK]
    cases d1 with
    | @lst p vs ds hp hd =>
      have h2 : PostR G (Dd G.K) E F1 H1 Q ((fb ρ).bind fun y => pIndex (.list ds) y) := h1
      refine ⟨.inl ⟨rfl, vs, SqL.of (s1.base.sub _ _ hp)⟩, ρ, F1, e.step s1, s1.base, PostR.seq h2 fun y v F2 H2 _ s2 d2 h3 => ?_⟩
      have h4 : PostR G (Dd G.K) E F2 H2 Q (if (SeqAt.shaped (.list ds) && SeqAt.shaped y) = true then (match findD y ds 0 with | some j => .ok (.int (j : Nat)) | none => .bad) else .bad) := h3
      split at h4
      · rename_i q
        obtain ⟨q1, q2⟩ := Bool.and_eq_true_iff.mp q
        cases q3 : findD y ds 0 with
        | none =>
          rw [q3] at h4
          exact (show False from h4).elim
        | some j =>
          rw [q3] at h4
          obtain ⟨n, e1, ⟨z, e2, e3⟩, e4⟩ := findD_spec q3
          have en : j = n := by omega
          subst en
          exact ⟨p, v, y, ds, j, z, rfl, rfl, Dd.toDp s2.base.sub ((Dd.lst hp hd).mono s2.ff) (SeqAt.canLay_of_shaped q1), d2.toDp s2.base.sub (SeqAt.canLay_of_shaped q2), q1, q2, e2, e3, e4, PostR.val (show PostR G (Dd G.K) E F2 H2 Q (.ok (.int (j : Nat))) from h4) s2.base (.int _)⟩
      · exact (show False from h4).elim
    | _ => exact (show False from h1).elim⟩
end
end Py

namespace Py
open PySem PySem.Spec PyProof.Rows L2 LamX

/-! ### the end of a list while an exception is handled -/
section
variable {prog : Program} {w : World} {A : Around} {E : Value → Shared → Prop} {s : Shared}
theorem hot_in1 {x1 : Addr} {h : Heap} (hot : HotX.HotAt A x1 h) : HotX.HotAt A.in1 x1 h := ⟨hot.1, hot.2⟩
/-- next(it) at the end of its list: the StopIteration's context is the handled one; nothing else but the iterator is changed -/
theorem list_end_hot {it l x1 : Addr} {i : Nat} {items : Array Value} {Q : Option Value → Shared → Prop} (hot : HotX.HotAt A x1 s.heap) (nx : x1 ≠ it)
    (hit : s.heap.IsListIter it l i) (hl : s.heap.IsList l items) (hx : items[i]? = none)
    (hQ : ∀ h', (∀ b o, b ≠ it → s.heap.get? b = some o → h'.get? b = some o) → Q none { s with heap := h' }) : wpAny (model prog w) A (pyNext (.ref it)) Q E s := by
  obtain ⟨o, ho, hc, hd⟩ := id hit
  obtain ⟨ol, hol, _, nl, hdl⟩ := hl
  obtain ⟨hh, o1, vs1, g1, g2, g3⟩ := hot
  unfold pyNext
  refine wpAny_bind (wpAny_attempt (wpAny_callSpecial?_slot (name := Str.ofString "__next__") hit.typeIs slot_listiter_next (wpAny_call_entry slot_listiter_next hit.typeIs entry_listiter_next ?_ (args_listiter_next _))))
  show wpAny _ _ (field (.ref it) 0 >>= _) _ _ s
  refine wpAny_bind (wpAny_field ho hd (x := .ref l) rfl ?_)
  show wpAny _ _ (if (Value.ref l == Value.none) = true then _ else _) _ _ s
  rw [if_neg (show ¬ ((Value.ref l == Value.none) = true) from Bool.false_ne_true)]
  show wpAny _ _ (field (.ref it) 1 >>= _) _ _ s
  refine wpAny_bind (wpAny_field ho hd (x := .int i 0) rfl ?_)
  show wpAny _ _ (seqItems? (.ref l) >>= _) _ _ s
  refine wpAny_bind (wpAny_seqItems hol hdl ?_)
  simp only [Int.toNat_natCast, hx]
  refine wpAny_bind (wpAny_rule (wpAny_bind (wpAny_setField ho hd (by simp) ?_)))
  have keep1 : ∀ b u, b ≠ it → s.heap.get? b = some u → (s.heap.update it (Obj.mapFields (·.setIfInBounds 0 Value.none))).get? b = some u := fun b u nb e => by
    rw [Heap.get?_update_other _ _ (Ne.symm nb)]
    exact e
  show wpAny _ _ (newExc (.type "StopIteration") [] >>= _) _ _ _
  refine wpAny_bind ?_
  simp only [newExc, newTuple]
  refine wpAny_bind (wpAny_newObj_type ?_ (by size_fits))
  refine wpAny_bind (m := firstArgMember _ _) (wpAny_of_eq (a := Value.none) (by first | rfl | (simp only [firstArgMember]; rfl)) ?_)
  refine wpAny_newObj_type ?_ (by size_fits)
  have k2 := Heap.get?_push_of_some (h := s.heap.update it (Obj.mapFields (·.setIfInBounds 0 Value.none))) { cls := .type "tuple", data := .seq ([] : List Value).toArray } (keep1 x1 o1 nx g1)
  refine HotX.raiseNew_hot (x1 := x1) ⟨hh, o1, vs1, Heap.get?_push_of_some _ k2, g2, g3⟩ (Nat.ne_of_lt (Heap.lt_size k2)) (Heap.get?_push_size _ rfl) rfl (by first | (simp; done) | (simp; omega) | (simp only [Array.size_append]; simp; omega)) ?_
  refine wpAny_bind (wpAny_isInstance (T := "StopIteration") (b := true) ⟨_, Heap.get?_update_self _ (Heap.get?_push_size _ rfl) rfl, rfl⟩ isSubtype_stop ?_)
  refine wpAny_pure (hQ _ fun b u nb e => ?_)
  have k3 := Heap.get?_push_of_some (h := s.heap.update it (Obj.mapFields (·.setIfInBounds 0 Value.none))) { cls := .type "tuple", data := .seq ([] : List Value).toArray } (keep1 b u nb e)
  rw [Heap.get?_update_other _ _ (Nat.ne_of_gt (Heap.lt_size k3))]
  exact Heap.get?_push_of_some _ k3
theorem walks_hot {x1 : Addr} {o1 : Obj} (hh : A.handled = some (.ref x1)) (hc : ∃ vs : Array Value, o1.data = .fields vs ∧ vs[2]? = some .none) (I ax : Addr) (hne : ax ≠ I) (hx : x1 ≠ I) (items : Array Value) :
    Walks prog w A I [I, ax, x1] [I] items.size (fun i v => items[i]? = some v) (fun i h => (h.IsListIter I ax i ∧ h.IsList ax items) ∧ h.get? x1 = some o1) where
  sub := fun b hb => by simp at hb; simp [hb]
  frame := fun _ _ _ st hk => ⟨⟨st.1.1.at fun o e => hk I (by simp) o e, st.1.2.at fun o e => hk ax (by simp) o e⟩, hk x1 (by simp) o1 st.2⟩
  item := fun i s Q E hi st hQ => by
    refine wpAny_pyNext_list_item st.1.1 st.1.2 (x := items[i]) (by simp [hi]) fun h' hit' hs' => ?_
    exact hQ _ h' s.toks (by simp [hi]) ⟨⟨hit', st.1.2.extBut hs'.extBut hne⟩, hs'.extBut x1 o1 hx st.2⟩ fun b o hb e => hs'.extBut b o (fun h => hb (by simp [h])) e
  done := fun s Q E st hQ => by
    obtain ⟨vs, e1, e2⟩ := hc
    exact list_end_hot (x1 := x1) ⟨hh, o1, vs, st.2, e1, e2⟩ hx st.1.1 st.1.2 (by simp) fun h' he' => hQ h' s.toks fun b o hb e => he' b o (fun h => hb (by simp [h])) e
  self := fun _ _ _ _ st hQ => wpAny_pyIter_listiter st.1.1 hQ
end
section
variable {X : Cx} {G : Gb} {E : XK} {a b c : Expr} {es : List Expr} {fa fb fc fe : Rho → R D} {fs fi : Rho → R (List D)} {pos p2 : Pos}
/-- sum(list of ints) -/
theorem cr_sumH (hc : L2H.HotC X) : CallR X (.builtin "sum") (rSum X.K) := by
  intro pins s σ H vs us Q I r h
  obtain ⟨a, ns, rfl, hs, q⟩ := h
  obtain ⟨its, rv, hl, _⟩ := I.list hs
  obtain ⟨p, ⟨hh, vs1, e1, e2⟩, hp⟩ := hc
  have gp := (I.pin p (List.mem_append_left _ hp)).1
  have hi := rv.ints
  obtain ⟨xs, e⟩ := hi.allInts.items
  have hn : numsOf (intItems xs).toList = ns := by rw [← e]; exact hi.numsOf
  rw [nums_intItems] at hn
  have hl2 : s.heap.IsList a (intItems xs) := by
    rw [← e]
    exact hl.isList
  rw [Vals.ref1 r]
  refine call_sum_walkG (iter_intList hl2 fun s₂ es st hfp hlI => ?_)
  subst es
  have gp2 := Heap.get?_push_of_some (h := s.heap) { cls := .type "list_iterator", data := .fields #[.ref a, .int 0 0] } gp
  refine ⟨_, _, _, _, _, _, numAt xs, rfl, walks_hot (A := X.A.in1) (x1 := p.1) (o1 := p.2) hh ⟨vs1, e1, e2⟩ _ a hlI (Nat.ne_of_lt (Heap.lt_size gp)) (intItems xs), ⟨st, gp2⟩, fun b hb => ?_, (fun _ _ => intItems_at), fun h' tk t' hk => ?_⟩
  · rcases List.mem_cons.mp hb with z | hb
    · exact hfp b (by rw [z]; simp)
    · rcases List.mem_cons.mp hb with z | hb
      · exact hfp b (by rw [z]; simp)
      · have z : b = p.1 := by simpa using hb
        rw [z]
        exact Heap.lt_size gp2
  · have hz : preSum (numAt xs) (intItems xs).size = ns.sum := by
      have hsz : (intItems xs).size = xs.size := by simp [intItems]
      rw [hsz, preSum_eq, List.take_of_length_le (by simp), hn]
    rw [hz]
    exact ⟨.int _, H, I.kept fun b o eo => hk b o (fun hmem => by
      have z : b = s.heap.objs.size := by simpa using hmem
      rw [z] at eo
      exact Nat.lt_irrefl _ (Heap.lt_size eo)) (Heap.get?_push_of_some _ eo), ⟨_, rfl⟩, q⟩
/-- [e for t in l], l a list that stands still, while an exception is handled -/
theorem lc_hot {elt tg iter : Expr} {scope : Scope} {own : List (Str × Nat)} {tl : TE} {g : TG} {te : TE} (hc : L2H.HotC X) (hN : X.N.Nodup) (hl : PE X iter tl) (ok : BlkOk X.N X.env.scope scope own)
    (hg : ∀ (s : Shared) (H : Hp) (C : Addr) (cl : List (Str × Addr)) (fp : List Addr), PG (X.blk s H scope (compEnvC scope cl C X.env) fp) tg g)
    (he : ∀ (s : Shared) (H : Hp) (C : Addr) (cl : List (Str × Addr)) (fp : List Addr), PE (X.blk s H scope (compEnvC scope cl C X.env) fp) elt te) (hs : ∀ x, foldedSetIterable iter X.env x = pure x := by intro _; rfl) :
    PE X (.ListComp elt [⟨tg, iter, [], 0⟩] scope pos) (tLc (iList X.K tl) g tYes te (own.map (·.2))) := by
  refine ⟨fun pins s σ H Q I h => ?_⟩
  rw [eval_ListComp]
  have hfree : ∀ y ∈ scope.names, y.2 = .free → ∃ c, X.env.cells.lookup y.1 = some c := fun y hy e => (ok.free y hy e).elim (fun k => I.ok.has _ (.inl k)) fun k => I.ok.has _ (.inr k)
  refine wpAny_comprehension_free (use := none) rfl hs (closure_ok hfree) ok.kind (fun y hy e => by rw [ok.uniq y hy, e]) (thn (hl.run pins s σ H _ I h) fun v s1 ⟨x, H1, I1, r1, a, ex, ⟨xs, hq⟩, q⟩ => ?_)
  subst ex
  cases r1
  obtain ⟨its, rv, pl, hz⟩ := I1.list hq
  refine wpAny_pyIter_list pl.isList ?_
  -- the iterator, the new list, the block's frame
  generalize hit : s1.heap.objs.size = it
  have I2 : Inv X pins σ H1 { s1 with heap := s1.heap.push { cls := .type "list_iterator", data := .fields #[.ref a, .int 0 0] } } := I1.kept (t' := s1.toks) fun b o e => Heap.get?_push_of_some _ e
  have st2 : ({ s1 with heap := s1.heap.push { cls := .type "list_iterator", data := .fields #[.ref a, .int 0 0] } } : Shared).heap.IsListIter it a 0 := by
    rw [← hit]
    exact ⟨_, Heap.get?_push_size _ rfl, rfl, rfl⟩
  have f2 : FpOk X pins H1 it := I1.fpOk (Nat.le_of_eq hit) (I1.hok.fresh (Nat.le_of_eq hit))
  generalize hs2 : ({ s1 with heap := s1.heap.push { cls := .type "list_iterator", data := .fields #[.ref a, .int 0 0] } } : Shared) = s2 at I2 st2 ⊢
  refine wpAny_newObj_type (newEnv_comp ?_) (by show 0 ≤ sizeLine; decide)
  generalize hD : s2.heap.objs.size = D
  have hDn : H1 D = none := I2.hok.fresh (Nat.le_of_eq hD)
  obtain ⟨W, ⟨m0, w0⟩, turn⟩ := q D hDn
  have I3 : Inv X pins σ (upd H1 D (.lst [])) { s2 with heap := s2.heap.push { cls := .type "list", data := .seq ([] : List Value).toArray } } :=
    I2.laid (t' := s2.toks) (fun b o e => Heap.get?_push_of_some _ e) (Nat.le_of_eq hD) ⟨Nat.zero_le _, [], 0, .nil, by rw [← hD]; exact Heap.get?_push_size _ rfl⟩
  have ltIt : it < s2.heap.objs.size := by
    obtain ⟨o, e, _⟩ := st2
    exact Heap.lt_size e
  have st3 : ({ s2 with heap := s2.heap.push { cls := .type "list", data := .seq ([] : List Value).toArray } } : Shared).heap.IsListIter it a 0 := st2.at fun o e => Heap.get?_push_of_some _ e
  have lt3 : it < ({ s2 with heap := s2.heap.push { cls := .type "list", data := .seq ([] : List Value).toArray } } : Shared).heap.objs.size := by
    show it < (s2.heap.push _).objs.size
    rw [Heap.size_push]
    exact Nat.lt_succ_of_lt ltIt
  have f3 : FpOk X pins (upd H1 D (.lst [])) it := ⟨by rw [upd_ne (by rw [← hD]; exact Nat.ne_of_lt ltIt)]; exact f2.1, f2.2⟩
  generalize hs3 : ({ s2 with heap := s2.heap.push { cls := .type "list", data := .seq ([] : List Value).toArray } } : Shared) = s3 at I3 st3 lt3 ⊢
  have h3 : s3.heap = s2.heap.push { cls := .type "list", data := .seq ([] : List Value).toArray } := by rw [← hs3]
  generalize hH3 : upd H1 D (.lst []) = H3 at I3 f3 w0
  have I4 := block_start (fp := [it]) I3 ok hN fun b hb => by
    have e : b = it := by simpa using hb
    subst e
    exact ⟨f3, lt3⟩
  have pg := hg s3 H3 s3.heap.objs.size (cellsFrom (s3.heap.objs.size + 1) scope.names (cloFrom X.env.cells scope.names [])) [it]
  have pe := he s3 H3 s3.heap.objs.size (cellsFrom (s3.heap.objs.size + 1) scope.names (cloFrom X.env.cells scope.names [])) [it]
  show codeAny _ _ (.compStart (.ListComp elt [⟨tg, iter, [], 0⟩] scope pos) 0 (.ref it) (.ref D) (compEnvC scope (cellsFrom (s3.heap.objs.size + 1) scope.names (cloFrom X.env.cells scope.names [])) s3.heap.objs.size X.env)) _ { s3 with heap := pushCells (s3.heap.push { cls := .type "dict", data := .dict #[] }) scope.names }
  generalize hce : compEnvC scope (cellsFrom (s3.heap.objs.size + 1) scope.names (cloFrom X.env.cells scope.names [])) s3.heap.objs.size X.env = ce at I4 pg pe ⊢
  have cL : ce.locals = s3.heap.objs.size := by subst hce; rfl
  have st4 : ({ s3 with heap := pushCells (s3.heap.push { cls := .type "dict", data := .dict #[] }) scope.names } : Shared).heap.IsListIter it a 0 := st3.at fun o e => pushCells_keeps _ _ _ _ (Heap.get?_push_of_some _ e)
  generalize hs4 : ({ s3 with heap := pushCells (s3.heap.push { cls := .type "dict", data := .dict #[] }) scope.names } : Shared) = s4 at I4 st4 ⊢
  -- the handled exception stays as it was
  obtain ⟨p, ⟨hh, vs1, c1, c2⟩, hp⟩ := hc
  have P3 := I3.pin p (List.mem_append_left _ hp)
  have np : p.1 ∉ frs X.stack := fun z => (List.mem_cons.mp (I3.stkSub p.1 z)).elim P3.2.2.1 P3.2.2.2.1
  have P1 := (I1.pin p (List.mem_append_left _ hp)).1
  have npi : p.1 ≠ it := by rw [← hit]; exact Nat.ne_of_lt (Heap.lt_size P1)
  have hot : ∀ {σ' : L2.St} {H' : Hp} {s' : Shared}, Inv (X.blk s3 H3 scope ce [it]) [] σ' H' s' → HotX.HotAt X.A p.1 s'.heap := fun {σ' H' s'} I' =>
    ⟨hh, p.2, vs1, I'.base.keep p.1 p.2 P3.1 P3.2.1 np (by simpa using npi), c1, c2⟩
  have stat : ∀ {σ' : L2.St} {H' : Hp} {s' : Shared}, Inv (X.blk s3 H3 scope ce [it]) [] σ' H' s' → H' it = none → FpOk (X.blk s3 H3 scope ce [it]) [] H' it := fun {σ' H' s'} I' hn =>
    ⟨hn, (I'.ok.exf it (by simp)).1, I'.ok.exfs it (by simp), .inl (by simp), fun x c e => (I'.ok.exf it (by simp)).2 x c e, fun p hp => absurd (show p ∈ ([] : List (Addr × Obj)) ++ [] from hp) (by simp)⟩
  have loop : codeAny (model X.prog X.w) X.A (.compLoop (.ListComp elt [⟨tg, iter, [], 0⟩] scope pos) 0 (.ref it) (.ref D) ce) (compPost (model X.prog X.w) X.A X.xe none (EP X pins σ Q) (.ref D) s3.heap.objs.size) s4 := by
    refine compLoop_any (fun n s' => ∃ i H', Inv (X.blk s3 H3 scope ce [it]) [] (wipe σ (own.map (·.2))) H' s' ∧ s'.heap.IsListIter it a i ∧ H' it = none ∧ W i n H') ?_ m0 ⟨0, H3, I4, st4, f3.1, w0⟩
    rintro n s5 ⟨i, H5, I5, st5, n5, w5⟩
    have F5 := stat I5 n5
    rcases turn i n H5 w5 with ⟨stop, qq⟩ | ⟨go, Nx, hNx, step⟩
    · obtain ⟨ys, hy, hle⟩ := stop
      obtain ⟨its5, rv5, pl5, _⟩ := I5.list hy
      have l5 := rv5.length
      refine list_end_hot (hot I5) npi st5 pl5.isList (by simp; omega) fun h' eb => ?_
      have I6 : Inv (X.blk s3 H3 scope ce [it]) [] (wipe σ (own.map (·.2))) H5 { s5 with heap := h' } := I5.turned (t' := s5.toks) (fun b o hb e => eb b o hb e) F5.1 F5.2.1 F5.2.2.2.1 F5.2.2.2.2.1 F5.2.2.2.2.2
      have I7 : Inv X pins σ H5 { s5 with heap := h' } := I3.call' (ch := [it]) I6.os I6.base I6.hok I6.bare fun b hb => by
        have e : b = it := by simpa using hb
        subst e
        exact ⟨f3.2.2.2.1, f3.2.1, f3.2.2.2.2.1, f3.2.2.2.2.2⟩
      have nC : H5 s3.heap.objs.size = none := by
        have z : H5 ce.locals = none := I6.free
        rw [cL] at z
        exact z
      obtain ⟨m, hn, _⟩ := I6.loc
      have hn : Heap.Ns h' ce.locals m := hn
      rw [cL] at hn
      obtain ⟨g0, g1, g2, g3, g4, g5⟩ := I3.fpOk (Nat.le_refl _) nC
      exact ⟨m, hn, fun h'' sb => ⟨.ref D, H5, I7.turned (t' := s5.toks) (fun b o hb e => (sb.2 b hb).trans e) g0 g1 g3 g4 g5, rfl, qq⟩⟩
    · obtain ⟨ys, y, hy, hyi⟩ := go
      obtain ⟨its5, rv5, pl5, _⟩ := I5.list hy
      obtain ⟨u, hu, ru⟩ := rv5.get hyi
      refine wpAny_pyNext_list_item st5 pl5.isList (x := u) (by simpa using hu) fun h' st' sb => ?_
      have I6 : Inv (X.blk s3 H3 scope ce [it]) [] (wipe σ (own.map (·.2))) H5 { s5 with heap := h' } := I5.turned (t' := s5.toks) (fun b o hb e => (sb.2 b hb).trans e) F5.1 F5.2.1 F5.2.2.2.1 F5.2.2.2.2.1 F5.2.2.2.2.2
      obtain ⟨oi, ei, ci, di⟩ := id st'
      refine go_of (s := { s5 with heap := h' }) ei ci di (by decide) ?_
      have I7 := I6.pinned (fp := [it]) (fun b hb => by
        have e : b = it := by simpa using hb
        subst e
        exact stat I6 n5) (fun b hb => by
        have e : b = it := by simpa using hb
        subst e
        exact ⟨oi, ei, fun v z => by rw [di] at z; cases z⟩)
      refine thnF (pg.run _ _ _ H5 y u _ I7 ru (step y H5 ⟨rfl, fun zs hz => by rw [I5.list_inj hz hy]; exact hyi⟩)) fun _ s8 ⟨σ8, H8, I8, hw8, q8⟩ => ?_
      refine wpAny_tests_nil ?_
      simp only [if_true]
      have q8' : te σ8 H8 fun y H4 => ∃ acc, H4 D = some (.lst acc) ∧ acc.length < sizeLine ∧ Nx (upd H4 D (.lst (acc ++ [y]))) := q8
      refine thnF (pe.run _ s8 σ8 H8 _ I8 q8') fun z s10 ⟨yv, H10, I10, r10, acc, hD10, hz10, nx⟩ => ?_
      refine app_ok (X := X.blk s3 H3 scope ce [it]) I10 hD10 hz10 r10 fun s11 I11 => ?_
      obtain ⟨m', hm, w'⟩ := hNx _ nx
      have pz := I11.pin (it, oi) (List.mem_append_right _ (List.mem_append_right _ (mem_pinsAt (fp := [it]) (by simp) ei)))
      have hl8 : (wipe σ (own.map (·.2))).length = σ8.length := by rw [← hw8, wipe_length]
      refine ⟨m', hm, i + 1, _, (I11.unpinned (pins := [])).weak hl8 (fun j v e => ?_), st'.at fun o e => ?_, pz.2.1, w'⟩
      · rw [← hw8] at e
        exact (wipe_some e).1
      · rw [show h'.get? it = some oi from ei] at e
        cases e
        exact pz.1
  exact codeAny_compStart_list loop (wpAny_pyIter_listiter st4 loop)
end
end Py

namespace Py
open PySem PySem.Spec PyProof.Rows L2 LamX

/-! ### what is known of the refusals' classes -/
structure XOk (G : Gb) (mg : Str → Option Value) (nm : Er → Str) (CB : Addr) : Prop where
  gl : ∀ er, mg (nm er) = some (.ref (G.xc er))
  ex : ∀ er, PySem.W.excIn G.K (G.xc er) He.veBase "ValueError.__new__" = true
  kp : ∀ er, PySem.W.keepIn G.K (.ref (G.xc er)) = true
  sb : ∀ er, PySem.W.subIn G.K (.ref (G.xc er)) (.type "BaseException") = some true
  ty : ∀ er, PySem.W.typeIn G.K (.ref (G.xc er)) = some (.type "type")
  ec : ∀ er, ExcC G.K (G.xc er)
  kit : ∀ er er', PySem.W.kitOne G.K (.ref (G.xc er)) (.ref (G.xc er')) = some (decide (nm er = nm er'))
  kiv : ∀ er, PySem.W.kitOne G.K (.ref (G.xc er)) (.type "ValueError") = some true
  exm : ∀ er, PySem.W.exmOne G.K (.ref (G.xc er)) (.ref CB) = some true
section
variable {X : Cx} {G : Gb} {E : XK} {a b c : Expr} {es : List Expr} {fa fb fc fe : Rho → R D} {fs fi : Rho → R (List D)} {pos p2 : Pos} {nm : Er → Str} {CB : Addr}
/-- raise X('..') of one of them -/
theorem s_raiseX {er : Er} {x m : Str} {j : Nat} {p pp pos2 : Pos} (T : XOk G X.mg nm CB) (hx : x = nm er) (tk : L2N.Takes X fun cls d _ H => E cls d H) (hc : X.calm = true := by rfl) (hg : Gl X x := by rfl) (hdb : (x == ("__debug__" : Str)) = false := by decide) (hK : X.K = G.K := by rfl) :
    PS X (.Raise (some (.Call (.Name x p) [.Constant (.str m) j pp] [] pos)) none pos2) (tS G E fun _ => .err er) := by
  subst hx
  exact s_raise (C := G.xc er) hc tk rfl (by rw [hK]; exact T.ex er) (T.gl er) (by rw [hK]; exact T.kp er) (by rw [hK]; exact T.sb er) (by rw [hK]; exact T.ty er) hg hdb
/-- isinstance of the handled error -/
theorem call_isX {ad C : Addr} {oe : Obj} (hm : (ad, oe) ∈ X.pn) (Ce : ExcC X.K C) (hz : Zc (.ref C) none oe) (hf : ∃ vs, oe.data = .fields vs) : CallR X (.builtin "isinstance") (rIsE X.K C ad) := by
  intro pins s σ H xs us Q I r h
  obtain ⟨c, cv, b, rfl, hcv, e, q⟩ := h
  obtain ⟨u1, u2, rfl, r1, r2⟩ := vals2 r
  cases r1
  have ec := hcv _ r2
  subst ec
  have hget := (I.pin (ad, oe) (List.mem_append_left _ hm)).1
  obtain ⟨vs, hv⟩ := hf
  obtain ⟨oc, od, oda, osl⟩ := oe
  obtain ⟨z1, z2⟩ := hz
  dsimp only at z1 z2 hv
  subst z1 z2 hv
  exact PySem.W.kia_one (PySem.W.handS_kitx_exc Ce.hg Ce.hk Ce.hs Ce.hd Ce.ha Ce.hn Ce.ht Ce.hm) I.kIn (⟨hget, rfl, rfl, trivial⟩ : PySem.W.InstAt s.heap ad _ C none) e (fun z => nomatch z) fun tk => ⟨.bl b, H, I.kept (t' := tk) fun _ _ z => z, rfl, q⟩
@[reducible] def rRawIs (i : Nat) (v : V) (k : Bool) : Rho → R D := fun ρ => match ρ[i]? with
  | some (.raw u) => if u = v then .ok (.bool k) else .bad
  | _ => .bad
theorem raw_get {K : PySem.W.Frag} {F H : Hp} {σ : L2.St} {ρ : Rho} {i : Nat} {v : V} (e : EnvOk K F H σ ρ) (h : ρ[i]? = some (.raw v)) : σ[i]? = some (some v) := by
  have hi : i < σ.length := by
    rw [e.len]
    exact (List.getElem?_eq_some_iff.mp h).1
  have z : σ[i] = some v := e.at_ i _ σ[i] h (List.getElem?_eq_getElem hi)
  rw [List.getElem?_eq_getElem hi, z]
theorem e_isX (i : Nat) {ad : Addr} {oe : Obj} {er : Er} {x cn : Str} {px pc p : Pos} {cv : Value} {c : V} {k : Bool} (T : XOk G X.mg nm CB) (hm : (ad, oe) ∈ X.pn) (hz : Zc (.ref (G.xc er)) none oe) (hf : ∃ vs, oe.data = .fields vs) (hmi : X.mg "isinstance" = none)
    (hcn : PE X (.Name cn pc) (tC c)) (hcv : ∀ u, RelV c u → u = cv) (hk : PySem.W.kitOne G.K (.ref (G.xc er)) cv = some k) (hN : X.N[i]? = some x := by rfl) (hv : Vis X.env.scope x := by first | exact Or.inl rfl | exact Or.inr (Or.inl rfl) | exact Or.inr (Or.inr rfl)) (hd : (x == ("__debug__" : Str)) = false := by decide) (hcd : (x == ("__classdict__" : Str)) = false := by decide)
    (hg : Gl X "isinstance" := by rfl) (he : starEach [.Name x px, .Name cn pc] X.env = (false, eval (.Name x px) X.env) :: starEach [.Name cn pc] X.env := by rfl) (hpl : (backTo pos (starEach [.Name cn pc] X.env)).any (·.1) = false := by rfl) (hK : X.K = G.K := by rfl) :
    PE X (.Call (.Name "isinstance" p) [.Name x px, .Name cn pc] [] pos) (tE G E (rRawIs i (.ref ad) k)) :=
  pe_imp (pe_callB (x := "isinstance") (call_isX hm (by rw [hK]; exact T.ec er) hz hf) hg hmi boot_isinstance (pa_cons (pe_var (i := i) hN hv hd hcd) (pa_cons hcn pa_nil) he) (by decide) (by decide) he hpl) fun σ H Q ⟨ρ, F, e, b, h⟩ => by
    have h1 : PostR G (Dd G.K) E F H Q (match ρ[i]? with | some (.raw u) => if u = .ref ad then .ok (.bool k) else .bad | _ => .bad) := h
    split at h1
    · rename_i u q
      split at h1
      · rename_i z
        subst z
        rw [hK]
        exact ⟨.ref ad, raw_get e q, c, cv, k, rfl, hcv, hk, h1.val b (.bl _)⟩
      · exact (show False from h1).elim
    · exact (show False from h1).elim
/-- sum and a comprehension while an error is handled -/
theorem e_sumH {p : Pos} (hc : L2H.HotC X) (hm : X.mg "sum" = none) (ha : PA X [a] (tA G E fs)) (hg : Gl X "sum" := by rfl) (he : starEach [a] X.env = (false, eval a X.env) :: starEach [] X.env := by rfl) (hpl : (backTo pos (starEach [] X.env)).any (·.1) = false := by rfl) (hK : X.K = G.K := by rfl) : PE X (.Call (.Name "sum" p) [a] [] pos) (tE G E (rCall fs pSum)) :=
  e_callB (x := "sum") (r := rSum G.K) (id := "sum") (by rw [← hK]; exact cr_sumH hc) c_sum hm (by decide +kernel) ha hg (by decide) (by decide) he hpl
@[reducible] def rSeqL (f : Rho → R D) : Rho → R (List D) := fun ρ => (f ρ).bind asL
theorem e_lcH {elt tg iter : Expr} {scope : Scope} {own : List (Str × Nat)} {ft : D → Option Bn} (hc : L2H.HotC X) (hN : X.N.Nodup) (ok : BlkOk X.N X.env.scope scope own) (ho : Only ft (own.map (·.2))) (hl : PE X iter (tE G E fa))
    (hg : ∀ (s : Shared) (H : Hp) (C : Addr) (cl : List (Str × Addr)) (fp : List Addr), PG (X.blk s H scope (compEnvC scope cl C X.env) fp) tg (tG G ft))
    (he : ∀ (s : Shared) (H : Hp) (C : Addr) (cl : List (Str × Addr)) (fp : List Addr), PE (X.blk s H scope (compEnvC scope cl C X.env) fp) elt (tE G E0' fe)) (hs : ∀ x, foldedSetIterable iter X.env x = pure x := by intro _; rfl) (hK : X.K = G.K := by rfl) :
    PE X (.ListComp elt [⟨tg, iter, [], 0⟩] scope pos) (tE G E (rLc (own.map (·.2)) (rSeqL fa) ft (fun _ => .ok true) fe)) :=
  pe_imp (lc_hot hc hN hl ok hg he hs) fun σ H Q h => by
    have z := tE_lc (tt := fun _ => .ok true) ho h
    have z2 : tLc (iList G.K (tE G E fa)) (tG G ft) (tT G E0' fun _ => .ok true) (tE G E0' fe) (own.map (·.2)) σ H Q := by
      obtain ⟨ρ, F, e, b, h1⟩ := z
      refine ⟨ρ, F, e, b, ?_⟩
      have h2 : PostR G (Wk G) E F H _ ((fa ρ).bind asL) := h1
      refine PostR.seq h2 fun d x F1 H1 _ s1 d1 h3 => ?_
      cases d1 with
      | @lst p vs ds hp hd => exact ⟨p, rfl, ⟨vs, SqL.of (s1.base.sub _ _ hp)⟩, PostR.val (show PostR G (Wk G) E F1 H1 _ (.ok ds) from h3) s1.base (wk_list (SqL.of hp) hd)⟩
      | _ => exact (show False from h3).elim
    rw [hK]
    have conv : ∀ (σ : L2.St) (H : Hp) (Q : Bool → Hp → Prop), tT G E0' (fun _ => .ok true) σ H Q → tYes σ H Q := fun σ H Q ⟨ρ, F, e, b, h⟩ => PostR.val h b rfl
    refine (show iList G.K (tE G E fa) σ H _ from ?_)
    obtain ⟨ρ, F, e, b, h1⟩ := (show tE G E fa σ H _ from z2)
    refine ⟨ρ, F, e, b, ?_⟩
    cases q : fa ρ with
    | err c =>
      rw [q] at h1
      exact h1
    | bad =>
      rw [q] at h1
      exact h1
    | ok d =>
      rw [q] at h1
      refine fun x F' H' s' d' => ?_
      obtain ⟨ad, e1, e2, e3⟩ := h1 x F' H' s' d'
      refine ⟨ad, e1, e2, fun Dl hD => ?_⟩
      obtain ⟨W, w0, turn⟩ := e3 Dl hD
      refine ⟨W, w0, fun i m H2 w => ?_⟩
      rcases turn i m H2 w with z | ⟨g0, Nx, n0, n1⟩
      · exact .inl z
      · refine .inr ⟨g0, Nx, n0, fun x H3 y => ?_⟩
        obtain ⟨dd, FF, t1, t2, t3⟩ := n1 x H3 y
        refine ⟨dd, FF, t1, t2, ?_⟩
        cases q2 : ft dd with
        | none =>
          rw [q2] at t3
          exact t3
        | some bs =>
          rw [q2] at t3
          exact fun ws hw => ⟨(t3 ws hw).1, conv _ _ _ (t3 ws hw).2⟩
end
end Py

namespace Py
open PySem PySem.Spec PyProof.Rows L2 LamX

/-! ### the def that tells a refusal's class, called while the refusal is handled -/
structure WordOk (P : Program) (w : World) (G : Gb) (mg : Str → Option Value) (base : Heap) (x : Str) (k : Nat) (wd : Er → Str) : Prop where
  ex : ∃ (f : Addr) (fd : FuncData), mg x = some (.ref f) ∧ PySem.W.keepIn G.K (.ref f) = true ∧ Binds G.K fd ["e"] [] ∧
    ∀ (A : Around) (outer : List Env) (s : Shared) (H : Hp) (args : Args) (Q : VK) (p : Addr × Obj) (er : Er), L2H.RoomH k A → L2H.Hot1 A p → L2H.PinOk outer H s p → L2N.Zn (.ref (G.xc er)) none p.2 → Env0 P w G.K mg base A outer s H → BindsTo s fd args [("e", .ref p.1)] →
      (∃ F, Base G F H ∧ ∀ F' H', Step G F H F' H' → Q (.str (wd er)) H') → codeAny (model P w) A (.call (.ref f) args) (CR CX0 outer P w H s Q E0) s
theorem WordOk.mono {P : Program} {w : World} {G : Gb} {mg : Str → Option Value} {base : Heap} {x : Str} {j k : Nat} {wd : Er → Str} (h : WordOk P w G mg base x j wd) (hk : j ≤ k) : WordOk P w G mg base x k wd := by
  obtain ⟨f, fd, h1, h2, h3, h4⟩ := h.ex
  exact ⟨f, fd, h1, h2, h3, fun A outer s H args Q p er hr => h4 A outer s H args Q p er (hr.mono hk)⟩
theorem env_raw {K : PySem.W.Frag} {F H : Hp} {N : List Str} {v : V} : EnvOk K F H (L2.start N [v]) (.raw v :: List.replicate (N.length - 1) .no) := by
  refine ⟨by unfold L2.start; simp, fun i s ov h1 h2 => ?_, fun i j p s t _ h1 _ o1 _ => ?_⟩
  · cases i with
    | zero =>
      cases h1
      cases h2
      rfl
    | succ i =>
      rw [List.getElem?_cons_succ] at h1
      obtain ⟨_, e⟩ := List.getElem?_eq_some_iff.mp h1
      rw [List.getElem_replicate] at e
      rw [← e]
      trivial
  · exfalso
    cases i with
    | zero =>
      cases h1
      cases o1
    | succ i =>
      rw [List.getElem?_cons_succ] at h1
      obtain ⟨_, e⟩ := List.getElem?_eq_some_iff.mp h1
      rw [List.getElem_replicate] at e
      rw [← e] at o1
      cases o1
theorem word_ok {P : Program} {w : World} {G : Gb} {mg : Str → Option Value} {base : Heap} {x : Str} {params : Arguments} {body : List Stmt} {scope : Scope} {kws : List (Str × V)} {f : Addr} {fd : FuncData} {N : List Str} {k : Nat} {wd : Er → Str} {g : Er → Addr → Rho → O}
    (Fd : FunD G.K x x params body scope [] kws f fd) (hmg : mg x = some (.ref f)) (hbi : Binds G.K fd ["e"] []) (S : FnScope N ["e"] scope)
    (hg : ∀ er a, fin (g er a (.raw (.ref a) :: List.replicate (N.length - 1) .no)) = .ok (.str (wd er)))
    (hb : ∀ (cdv : Value) (A : Around) (outer : List Env) (s : Shared) (H : Hp) (p : Addr × Obj) (er : Er), L2H.Hot1 A p → L2N.Zn (.ref (G.xc er)) none p.2 → L2H.RoomH k (A.deeper (envOfC x scope s.heap.objs.size f cdv)) →
      PSs (L2H.cxH CX0 P w G.K mg base N x scope f cdv A outer s H E0 p) body (tS G E0' (g er p.1))) : WordOk P w G mg base x (k + 1) wd := by
  refine ⟨f, fd, hmg, Fd.kp, hbi, fun A outer s H args Q p er hr hot hpin hz e0 hbd ⟨F, b, hq⟩ => ?_⟩
  obtain ⟨oc, od, dV, kV, doc, pm, an, cdv, ct, osl, rfl, lk, hcd, _, _⟩ := Fd.ex
  have KX : G.K.In s.heap := e0.mod.kin.keeps fun b o e => (e0.bs b o e).1
  have hkind : ∀ y ∈ (["e"] : List Str).zip [Value.ref p.1], scope.names.lookup y.1 = some .local ∨ (scope.names.lookup y.1 = some .cell ∧ ((cellsFrom (s.heap.objs.size + 1) scope.names []).lookup y.1).isSome = true) := fun ⟨n, v⟩ hy =>
    (S.par n (List.of_mem_zip hy).1).elim .inl fun q => .inr ⟨q, PySem.W.cellsFrom_some _ _ _ (.inl q)⟩
  refine codeAny_call_function hr.depth (KX _ _ lk) rfl S.co S.gen rfl (PySem.W.codeRec_of KX hcd) (hbd _ _ _ _ ?_)
  refine wpAny_newFunctionEnv_cells S.kind hkind fun env he s1 x1 => ?_
  subst he
  refine ⟨(e0.mod.nolimit.keeps fun b o e => (e0.bs b o e).1).keeps x1.toInCall.keep, codeAny_func ?_⟩
  have I := L2H.inv_startH (CX := CX0) (E := E0) (vs := [V.ref p.1]) S hpin e0 rfl (.cons rfl .nil) x1
  have hr' := hb cdv A outer s H p er hot hz (hr.deeper _)
  refine wpAny_mono (hr'.run [] s1 _ H { nx := fun _ H' => Q .non H', rt := Q } I ⟨F, H, _, F, ⟨.refl b, env_raw, fun i p s o h1 h2 _ _ => ?_⟩, ?_⟩) (fun fl s' hs => ?_) fun e s' hs => ?_
  · exfalso
    cases i with
    | zero =>
      cases h1
      cases h2
    | succ i =>
      rw [List.getElem?_cons_succ] at h1
      obtain ⟨_, e⟩ := List.getElem?_eq_some_iff.mp h1
      rw [List.getElem_replicate] at e
      rw [← e] at h2
      cases h2
  · have z := hg er p.1
    cases q : g er p.1 (.raw (.ref p.1) :: List.replicate (N.length - 1) .no) with
    | ret d =>
      rw [q] at z
      have z2 : d = .str (wd er) := by injection z
      intro v F' H' s' hd
      rw [z2] at hd
      cases hd
      exact hq F' H' s'
    | nx ρ =>
      rw [q] at z
      cases z
    | err c =>
      rw [q] at z
      cases z
    | brk ρ =>
      rw [q] at z
      cases z
    | ct ρ =>
      rw [q] at z
      cases z
    | bad =>
      rw [q] at z
      cases z
  · have fin' : ∀ {σ' : L2.St} {H' : Hp} {v : V} {u : Value}, Inv (L2H.cxH CX0 P w G.K mg base N x scope f cdv A outer s H E0 p) [] σ' H' s' → RelV v u → Q v H' → CE outer P w H s Q u s' := fun {σ' H' v u} J rv q => ⟨v, H', J.os, J.bare, J.base, J.hok, rv, q⟩
    cases fl with
    | ret u =>
      obtain ⟨v, σ', H', J, rv, q⟩ := hs
      exact fin' J rv q
    | next =>
      obtain ⟨σ', H', J, q⟩ := hs
      exact fin' (v := V.non) (u := Value.none) J rfl q
    | brk =>
      obtain ⟨_, _, _, q⟩ := hs
      exact False.elim q
    | cont =>
      obtain ⟨_, _, _, q⟩ := hs
      exact False.elim q
  · exact hs
section
variable {X : Cx} {G : Gb} {E : XK}
/-- its call in an except suite -/
theorem pe_word {ad : Addr} {oe : Obj} {pn : List (Addr × Obj)} {k i : Nat} {x n : Str} {wd : Er → Str} {er : Er} {p pe pos : Pos} (W : WordOk X.prog X.w G X.mg X.base x k wd) (hr : L2H.RoomH k (X.suite ad ((ad, oe) :: pn)).A) (hz : L2N.Zn (.ref (G.xc er)) none oe) (hf : ∃ vs, oe.data = .fields vs)
    (hN : X.N[i]? = some n) (hv : Vis X.env.scope n) (hg : Gl X x) (hK : X.K = G.K) (hd : (n == ("__debug__" : Str)) = false := by decide) (hcd : (n == ("__classdict__" : Str)) = false := by decide) (hdb : (x == ("__debug__" : Str)) = false := by decide) :
    PE (X.suite ad ((ad, oe) :: pn)) (.Call (.Name x p) [.Name n pe] [] pos) (fun σ H Q => σ[i]? = some (some (.ref ad)) ∧ ∃ F, Base G F H ∧ ∀ F' H', Step G F H F' H' → Q (.str (wd er)) H') := by
  refine ⟨fun pins s σ H Q I ⟨hs, F, b, hq⟩ => ?_⟩
  obtain ⟨f, fd, h1, h2, h3, h4⟩ := W.ex
  rw [← hK] at h2 h3
  obtain ⟨vs, hvs⟩ := hf
  refine wpAny_Call_Name_kw (ld_glob I hg h1 ?_ hdb)
  refine PySem.W.callWith_K (h₀ := X.base) I.ok.mod.kin h2 (thn ((pa_cons (pe_var (X := X.suite ad ((ad, oe) :: pn)) (pos := pe) (i := i) hN hv hd hcd) pa_nil).run pos pins s σ H (fun vs H1 => vs = [V.ref ad] ∧ H1 = H) I ⟨.ref ad, hs, rfl, rfl⟩) fun us s1 ⟨ws, H1, I1, r, ew, eH⟩ => ⟨I1.kIn, ?_⟩) rfl rfl
  subst ew eH
  have P1 := I1.pin (ad, oe) (List.mem_append_left _ List.mem_cons_self)
  have hpin : L2H.PinOk X.stack H1 s1 (ad, oe) := ⟨P1.1, P1.2.1, fun hm => (List.mem_cons.mp (I1.stkSub ad hm)).elim P1.2.2.1 P1.2.2.2.1, P1.2.2.2.2⟩
  cases r with
  | cons r1 r2 =>
    cases r2
    cases r1
    have e0 := I1.env0
    have bd := h3 s1 [.ref ad] I1.kIn rfl
    rw [hK] at e0
    refine wpAny_call (codeAny_mono (h4 _ X.stack s1 H1 ⟨[.ref ad], []⟩ Q (ad, oe) er hr ⟨rfl, vs, hvs, hz.2.2 vs hvs⟩ hpin hz e0 bd ⟨F, b, hq⟩) fun rs s' hq' => ?_)
    cases rs with
    | error e => exact (show False from hq').elim
    | ok fl =>
      cases fl with
      | ret u => exact I1.after hq'
      | next => exact False.elim hq'
      | brk => exact False.elim hq'
      | cont => exact False.elim hq'

/-! ### a lambda handed to the def that tells -/
/-- the lambda's context, errors told with their context -/
def lamN (X : Cx) (A : Around) (outer : List Env) (s : Shared) (H : Hp) (E : XK) (scope : Scope) (f c' : Addr) : Cx :=
  (lamCx X A outer s H E scope f c').wish fun e s' => wpAny (model X.prog X.w) (A.deeper (lamEnv X scope s.heap.objs.size f c')) (leaving (lamEnv X scope s.heap.objs.size f c') e) (fun _ s'' => L2N.CX X.prog X.w outer H s E e s'') (fun e' s'' => L2N.CX X.prog X.w outer H s E e' s'') s'
theorem lam_takes {A : Around} {outer : List Env} {s : Shared} {H : Hp} {E : XK} {scope : Scope} {f c' : Addr} : L2N.Takes (lamN X A outer s H E scope f c') fun cls d _ H => E cls d H := L2N.takes_of rfl rfl rfl rfl
theorem lam_passes {A : Around} {outer : List Env} {s : Shared} {H : Hp} {E : XK} {scope : Scope} {f c' : Addr} : Passes (L2N.CX X.prog X.w) (lamN X A outer s H E scope f c') E := L2N.passes_call lam_takes fun _ _ _ _ h => h
/-- deed(), in the def that got the lambda -/
theorem pe_deed {CXg : CXT} {Eg : XK} {Ng : List Str} {qg : Str} {sg : Scope} {g f c' : Addr} {cdg pm ctv : Value} {params : Arguments} {body : Expr} {scope : Scope} {k i : Nat} {a : Str} {pn : List (Addr × Obj)} {xe : Value → Shared → Prop} {W : WX} {Ein : XK} {tb : TE} {p1 p2 : Pos} {pins : List (Addr × Obj)} {σ : L2.St} {H : Hp} {s : Shared}
    (I : Inv X pins σ H s) (L : LamS X.env.scope scope) (hf : s.heap.get? f = some (PySem.W.kla_obj "<lambda>" (X.env.qual ++ "<lambda>") params body scope (cloFrom X.env.cells scope.names []) pm c' ctv)) (hfn : H f = none) (hfr : f ∉ frs X.stack)
    (hbind : bindArgs (PySem.W.kla_fn "<lambda>" (X.env.qual ++ "<lambda>") params body scope (cloFrom X.env.cells scope.names []) pm (.ref c') ctv) ⟨[], []⟩ = pure [])
    (tk : L2N.Takes ((cxOf CXg X.prog X.w X.K X.mg X.base Ng qg sg g cdg X.A X.stack s H Eg).nox.tr pn xe) W) (hW : ∀ cls d σ' H', Ein cls d H' → W cls d σ' H') (hr : Room (k + 1) (X.A.deeper (envOfC qg sg s.heap.objs.size g cdg)))
    (hbody : ∀ (A : Around) (outer : List Env) (s : Shared) (H : Hp), Room k (A.deeper (lamEnv X scope s.heap.objs.size f c')) → PE (lamN X A outer s H Ein scope f c') body tb)
    (hN : Ng[i]? = some a) (hv : Vis sg a) (hd : (a == ("__debug__" : Str)) = false := by decide) (hcd : (a == ("__classdict__" : Str)) = false := by decide) :
    PE ((cxOf CXg X.prog X.w X.K X.mg X.base Ng qg sg g cdg X.A X.stack s H Eg).nox.tr pn xe) (.Call (.Name a p1) [] [] p2)
      (fun σZ HZ Q => σZ[i]? = some (some (.ref f)) ∧ HZ c' = some (CodeO c' (X.env.qual ++ "<lambda>")) ∧ tb σ HZ Q) := by
  refine ⟨fun pinsZ sZ σZ HZ Q IZ ⟨hs, hc, ht⟩ => ?_⟩
  refine wpAny_Call_Name_kw (thn ((pe_var (pos := p1) (i := i) hN hv hd hcd).run pinsZ sZ σZ HZ (fun v H1 => v = .ref f ∧ H1 = HZ) IZ ⟨.ref f, hs, rfl, rfl⟩) fun u s1 ⟨v, H1, I1, r1, ev, eH⟩ => ?_)
  subst ev
  subst eH
  cases r1
  have of1 : s1.heap.get? f = some (PySem.W.kla_obj "<lambda>" (X.env.qual ++ "<lambda>") params body scope (cloFrom X.env.cells scope.names []) pm c' ctv) := I1.base.keep f _ hf hfn hfr fun z => nomatch (show f ∈ ([] : List Addr) from z)
  refine PySem.W.callWith_F0 ⟨_, _, _, _, of1⟩ ?_
  obtain ⟨⟨oc, vs, t, hoc, hdc, hvc⟩, _, _⟩ := I1.hok c' _ hc
  have rc : codeAny (model X.prog X.w) (X.A.deeper (envOfC qg sg s.heap.objs.size g cdg)) (.call (.ref f) ⟨[], []⟩) (CR (L2N.CX X.prog X.w) (envOfC qg sg s.heap.objs.size g cdg :: X.stack) X.prog X.w H1 s1 Q Ein) s1 := by
    refine PySem.W.kla_callFunE hr.depth of1 rfl L.co L.gen rfl ⟨c', oc, vs, t, rfl, hoc, hdc, hvc⟩ ?_
    rw [hbind]
    refine wpAny_pure (wpAny_newFunctionEnv (fun y hy => (L.own y hy).2) (fun y hy => absurd hy (by simp)) (fun h₁ hns hsb => ⟨I1.nolimit.fresh _ hsb, ?_⟩) L.kind)
    show codeAny _ _ (.expr body (lamEnv X scope s1.heap.objs.size f c')) _ _
    have J0 := lam_start2 (E := Ein) (f := f) (c' := c') (tk := s1.toks + ([] : List (Str × Value)).length) I L I1.env0 hr.hd I1.base hns fun b o e => hsb.extBut b o (Nat.ne_of_lt (Heap.lt_size e)) (Heap.get?_push_of_some _ e)
    have J : Inv (lamN X (X.A.deeper (envOfC qg sg s.heap.objs.size g cdg)) (envOfC qg sg s.heap.objs.size g cdg :: X.stack) s1 H1 Ein scope f c') [] σ H1 { s1 with heap := h₁, toks := s1.toks + ([] : List (Str × Value)).length } := J0.wish _
    refine PySem.W.kla_codeExpr (wpAny_mono ((hbody _ _ s1 H1 (hr.deeper _)).run [] _ _ H1 Q J ht) (fun v s' ⟨w', H', J', rv, q⟩ => ⟨w', H', J'.os, J'.bare, J'.base, J'.hok, rv, q⟩) fun e s' hq => hq)
  have hx : Passes (L2N.CX X.prog X.w) ((cxOf CXg X.prog X.w X.K X.mg X.base Ng qg sg g cdg X.A X.stack s H Eg).nox.tr pn xe) Ein := L2N.passes_call tk hW
  refine wpAny_call (codeAny_mono rc fun r s' hq => ?_)
  cases r with
  | error e => exact hx pinsZ σZ H1 s1 e s' I1 hq
  | ok fl =>
    cases fl with
    | ret u => exact I1.after hq
    | next => exact False.elim hq
    | brk => exact False.elim hq
    | cont => exact False.elim hq
@[reducible] def tellR (wd : Er → Str) : R D → R D
  | .ok d => .ok d
  | .err c => .ok (.str (wd c))
  | .bad => .bad
@[reducible] def rTell (wd : Er → Str) (f : Rho → R D) : Rho → R D := fun ρ => tellR wd (f ρ)
/-- a lambda's qualified name in the def x -/
def lq (x : Str) : Str := (envOfC x ⟨.function, [], false, false, []⟩ 0 0 .none).qual ++ "<lambda>"
/-- what is known of the def that tells -/
structure TellOk (P : Program) (w : World) (G : Gb) (mg : Str → Option Value) (base : Heap) (x xw xe : Str) (k : Nat) (wd : Er → Str) (nm : Er → Str) : Prop where
  word : WordOk P w G mg base xw k wd
  ex : ∃ (g CB : Addr) (params : Arguments) (scope : Scope) (kws : List (Str × V)) (fd : FuncData) (p1 p2 p3 p4 p5 p6 p7 p8 p9 p10 p11 : Pos), XOk G mg nm CB ∧ mg xe = some (.ref CB) ∧ mg x = some (.ref g) ∧ Binds G.K fd ["deed"] [] ∧ FnScope ["deed", "e"] ["deed"] scope ∧ scope.names.lookup ("e" : Str) = some .local ∧ scope.names.lookup ("deed" : Str) = some .local ∧
    scope.names.lookup xe = some .globalImplicit ∧ scope.names.lookup xw = some .globalImplicit ∧ (xe == ("__debug__" : Str)) = false ∧ (xw == ("__debug__" : Str)) = false ∧
    FunD G.K x x params [.Try [.Return (some (.Call (.Name "deed" p1) [] [] p2)) p3] [.ExceptHandler (some (.Name xe p4)) (some "e") [.Return (some (.Call (.Name xw p5) [.Name "e" p6] [] p7)) p8] p9] [] [] p10] scope [] kws g fd
theorem e_tell {x xw xe x0 : Str} {k : Nat} {wd nm : Er → Str} {c P : Addr} {params : Arguments} {body : Expr} {scope : Scope} {fb : Rho → R D} {p lpos pos : Pos} (T : TellOk X.prog X.w G X.mg X.base x xw xe k wd nm) (TB : TabB X.base X.mg c P) (hcode : X.env.code = .ref c)
    (hmT' : (P, lq x0) ∈ G.T) (hu' : ∀ p ∈ G.T, p.1 = P → p.2 = lq x0) (hr : Room (k + 2) X.A) (L : LamS X.env.scope scope)
    (hbody' : ∀ (A : Around) (outer : List Env) (s : Shared) (H : Hp) (E : XK) (f c' : Addr), Room k (A.deeper (lamEnv X scope s.heap.objs.size f c')) → Passes (L2N.CX X.prog X.w) (lamN X A outer s H E scope f c') E → PE (lamN X A outer s H E scope f c') body (tE G E fb))
    (hdef : defaultsOf params X.env = ([], []) := by rfl) (hbind : ∀ (q : Str) (cl : List (Str × Addr)) (pm cv ctv : Value), bindArgs (PySem.W.kla_fn "<lambda>" q params body scope cl pm cv ctv) ⟨[], []⟩ = pure [] := by intro _ _ _ _ _; rfl)
    (hg : Gl X x := by rfl) (hdb : (x == ("__debug__" : Str)) = false := by decide) (hK : X.K = G.K := by rfl) (hq : X.env.qual = (envOfC x0 ⟨.function, [], false, false, []⟩ 0 0 .none).qual := by rfl) :
    PE X (.Call (.Name x p) [.Lambda params body scope lpos] [] pos) (tE G E (rTell wd fb)) := by
  have hbody : ∀ (A : Around) (outer : List Env) (s : Shared) (H : Hp) (E : XK) (f c' : Addr), Room k (A.deeper (lamEnv X scope s.heap.objs.size f c')) → PE (lamN X A outer s H E scope f c') body (tE G E fb) := fun A outer s H E f c' hr => hbody' A outer s H E f c' hr (lam_passes (X := X) (A := A) (outer := outer) (s := s) (H := H) (E := E) (scope := scope) (f := f) (c' := c'))
  have hmT : (P, X.env.qual ++ "<lambda>") ∈ G.T := by rw [hq]; exact hmT'
  have hu : ∀ p ∈ G.T, p.1 = P → p.2 = X.env.qual ++ "<lambda>" := by rw [hq]; exact hu'
  refine ⟨fun pins s σ H Q I ⟨ρ, F, e, b, h⟩ => ?_⟩
  obtain ⟨g, CB, pg, sg, kws, fd, p1, p2, p3, p4, p5, p6, p7, p8, p9, p10, p11, XO, hme, hm, hbi, Sg, le, ld, lxe, lxw, de, dw, Fd⟩ := T.ex
  obtain ⟨oc, od, dV, kV, doc, pm, an, cdv, ct, osl, rfl, lk, hcd, _, _⟩ := Fd.ex
  have hk := Fd.kp
  rw [← hK] at hk lk hcd hbi
  refine wpAny_Call_Name_kw (ld_glob I hg hm ?_ hdb)
  refine PySem.W.callWith_K (h₀ := X.base) I.ok.mod.kin hk ?_ (by rfl) (by rfl)
  show wpAny _ _ (spliced ((false, eval (.Lambda params body scope lpos) X.env) :: backTo pos (starEach [] X.env))) _ _ s
  refine Calls.spliced_cons (lam_make2 (T := G.T) I TB hcode hmT hu b.tab hdef (L.has I.ok) fun f c' pm' ctv H1 s' I1 eN T1 hf hfn hfr hco => ?_)
  refine Calls.spliced_nil ⟨I1.kIn, ?_⟩
  have b1 : Base G F H1 := ⟨fun a o q => eN a o (b.sub a o q) (b.ntbl q), b.nt, T1⟩
  have s1 : Step G F H F H1 := ⟨.refl F, eN, b1, fun _ _ _ _ n => n⟩
  have e1 : EnvOk G.K F H1 σ ρ := e.step s1
  have h1 := PostR.step h s1
  -- what is wished of an error of the lambda's body
  have rc : codeAny (model X.prog X.w) X.A (.call (.ref g) ⟨[.ref f], []⟩) (CR CX0 X.stack X.prog X.w H1 s' Q E0) s' := by
    refine run_ofS (N := ["deed", "e"]) (ps := ["deed"]) (us := [.ref f]) (vs := [.ref f]) lk hcd Sg hr I1.env0 (hbi s' [.ref f] I1.kIn rfl) (.cons rfl .nil) rfl fun hr' => ?_
    let Ein : XK := fun cls d H' => ∃ er : Er, cls = .ref (G.xc er) ∧ d = none ∧ ∃ F2, Base G F2 H' ∧ ∀ F' H2, Step G F2 H' F' H2 → Q (.str (wd er)) H2
    let ts : Addr → Value → Option Addr → TS := fun a cls d D σ' H' => ∃ er : Er, cls = .ref (G.xc er) ∧ d = none ∧ (∃ σ0 : L2.St, σ' = σ0.set 1 (some (.ref a))) ∧ ∃ F2, Base G F2 H' ∧ ∀ F' H2, Step G F2 H' F' H2 → D.rt (.str (wd er)) H2
    have hE : (cxOf CX0 X.prog X.w X.K X.mg X.base ["deed", "e"] x sg g cdv X.A X.stack s' H1 E0).nox.K = G.K := hK
    refine ⟨_, PSs.nox (pss_one (L2N.ps_try_as (X := (cxOf CX0 X.prog X.w X.K X.mg X.base ["deed", "e"] x sg g cdv X.A X.stack s' H1 E0).nox) (c := .ref CB) (i := 1) (ts := ts) (Wout := fun _ _ _ _ => False)
      (tb := fun W D σZ HZ => ∃ Eb : XK, (∀ cls d σ' H', Eb cls d H' → W cls d σ' H') ∧ σZ[0]? = some (some (.ref f)) ∧ HZ c' = some (CodeO c' (X.env.qual ++ "<lambda>")) ∧ tE G Eb fb σ HZ D.rt)
      rfl rfl Sg.nd rfl le ⟨lxe, de, .inl hme⟩ (fun _ _ z => by
        obtain ⟨_, _, _, _, _, _, _, _, _, _, _, _, _, _, _, _, y⟩ := z
        exact y.elim) (fun W pn xe' tk _ => ?_) (fun a oe cls d pn hz hf' => ?_))), ?_⟩
    · refine ⟨fun pinsZ sZ σZ HZ D IZ ⟨Eb, hW, q1, q2, q3⟩ => ?_⟩
      have hp := pe_deed (i := 0) (p1 := p1) (p2 := p2) I1 L hf hfn hfr (hbind _ _ _ _ _) tk hW hr' (fun A outer s H hr2 => hbody A outer s H Eb f c' hr2) rfl (Or.inl ld)
      exact (pss_one (ps_ret (pos := p3) hp)).run pinsZ sZ σZ HZ D IZ ⟨q1, q2, q3⟩
    · refine ⟨fun pinsZ sZ σZ HZ D IZ ⟨er, ec, ed, ⟨σ0, q0⟩, q2⟩ => ?_⟩
      subst ec ed
      have q1 : σZ[1]? = some (some (.ref a)) := by
        have hl : σZ.length = 2 := IZ.len
        rw [q0, List.length_set] at hl
        rw [q0, List.getElem?_set_self (by omega)]
      have hrm : L2H.RoomH k ((cxOf CX0 X.prog X.w X.K X.mg X.base ["deed", "e"] x sg g cdv X.A X.stack s' H1 E0).nox.suite a ((a, oe) :: pn)).A := by
        have h1 := hr'.dp
        have h2 := hr'.un
        constructor
        · show (X.A.deeper (envOfC x sg s'.heap.objs.size g cdv)).depth + 3 * k + 5 < _
          omega
        · show (X.A.deeper (envOfC x sg s'.heap.objs.size g cdv)).units + 16 * k + 200 < _
          omega
      have hp := pe_word (X := (cxOf CX0 X.prog X.w X.K X.mg X.base ["deed", "e"] x sg g cdv X.A X.stack s' H1 E0).nox) (ad := a) (oe := oe) (pn := pn) (i := 1) (n := "e") (p := p5) (pe := p6) (pos := p7) T.word hrm hz hf' rfl (Or.inl le) lxw hK
        (by decide) (by decide) dw
      exact (pss_one (ps_ret (pos := p8) hp)).run pinsZ sZ σZ HZ D IZ ⟨q1, q2⟩
    · refine ⟨Ein, fun cls d σ' H' ⟨er, ec, ed, F2, b2, q2⟩ => ?_, rfl, hco, ρ, F, e1, b1, ?_⟩
      · subst ec ed
        refine ⟨true, by rw [hE]; exact XO.exm er, fun _ a ha => ?_, fun z => by cases z⟩
        exact ⟨er, rfl, rfl, ⟨_, rfl⟩, F2, b2, q2⟩
      · have h2 : PostR G (Dd G.K) E F H1 Q (tellR wd (fb ρ)) := h1
        cases q : fb ρ with
        | ok d =>
          rw [q] at h2
          exact h2
        | err er =>
          rw [q] at h2
          exact fun F' H' s2 => ⟨er, rfl, rfl, F', s2.base, fun F2 H2 s3 => h2 (.str (wd er)) F2 H2 (s2.trans s3) (.str _)⟩
        | bad =>
          rw [q] at h2
          exact h2
  refine wpAny_call (codeAny_mono rc fun r s2 hq => ?_)
  cases r with
  | error e => exact (show False from hq).elim
  | ok fl =>
    cases fl with
    | ret u => exact I1.after hq
    | next => exact False.elim hq
    | brk => exact False.elim hq
    | cont => exact False.elim hq
end
end Py

namespace Py
open PySem PySem.Spec PyProof.Rows L2 LamX

/-! ### sets made of a list: texts, ints -/
section
variable {K : Type} [DecidableEq K]
def setStep (acc : List K) (x : K) : List K := if x ∈ acc then acc else acc ++ [x]
def setL (xs : List K) : List K := xs.foldl setStep []
theorem setStep_len (acc : List K) (x : K) : (setStep acc x).length ≤ acc.length + 1 := by
  unfold setStep
  split <;> simp
theorem setL_len_aux : ∀ (xs acc : List K), (xs.foldl setStep acc).length ≤ acc.length + xs.length
  | [], _ => by simp
  | x :: xs, acc => by
    have h1 := setL_len_aux xs (setStep acc x)
    have h2 := setStep_len acc x
    simp only [List.foldl_cons, List.length_cons]
    omega
theorem setL_len (xs : List K) : (setL xs).length ≤ xs.length := by
  have h := setL_len_aux xs []
  rw [List.length_nil, Nat.zero_add] at h
  exact h
theorem setL_take (xs : List K) (i : Nat) (x : K) (h : xs[i]? = some x) : setL (xs.take (i + 1)) = setStep (setL (xs.take i)) x := by
  unfold setL
  rw [List.take_add_one, h]
  simp
variable {prog : Program} {w : World} {A : Around} {R : Result → Shared → Prop} {I : Addr} {fp wr : List Addr} {G : Array GenState → Array GenState → Prop} {n : Nat} {P : Nat → Value → Prop} {St : Nat → Shared → Prop}
theorem setOf_congr {knd : KeyKind prog w K} {h : Heap} {a : Addr} {S S' : K → Bool} {n n' : Nat} (hS : h.SetOf knd a S n) (e : ∀ k, S k = S' k) (en : n = n') : h.SetOf knd a S' n' := by
  have : S = S' := funext e
  subst this
  subst en
  exact hS
theorem loopSetK (knd : KeyKind prog w K) (W : WalksS prog w A.in1 I fp wr G n P St) (S : Addr) (hSf : S ∉ fp) (xs : List K) (hsz : xs.length = n) (hroom : n + 1 < scanBound)
    (hval : ∀ i v, P i v → ∃ k, xs[i]? = some k ∧ knd.is k v = true ∧ v.scannable = true) :
    ∀ (k i : Nat) (s : Shared), n - i = k → i ≤ n → St i s →
      s.heap.SetOf knd S (fun k' => decide (k' ∈ setL (xs.take i))) (setL (xs.take i)).length →
      (∀ s', Moved (S :: wr) G s s' → s'.heap.SetOf knd S (fun k' => decide (k' ∈ setL (xs.take n))) (setL (xs.take n)).length → R (.ok (.ret .none)) s') →
      codeAny (model prog w) A (.builtin "set.update.loop" ⟨[.ref S, .ref I], []⟩) R s := by
  have hSw : S ∉ wr := fun h => hSf (W.sub _ h)
  have hsub : ∀ b ∈ wr, b ∈ S :: wr := fun b hb => List.mem_cons_of_mem _ hb
  intro k
  induction k with
  | zero =>
    intro i s hk hi hst hS hR
    have hin : i = n := by omega
    subst hin
    refine codeAny_builtin PyProof.Rows.F.entry_set_update_loop ?_
    rw [Around.under_plainId PyProof.Rows.F.plain_set_update_loop _]
    show wpAny _ A.in1 (pyNext (.ref I) >>= _) _ _ s
    refine wpAny_bind (W.done s _ _ hst fun s' hm => ?_)
    show wpAny _ A.in1 (ret Value.none) _ _ s'
    exact wpAny_pure (hR s' (hm.mono hsub) (by
      obtain ⟨o, es, ep, t, ho, rest⟩ := hS
      exact ⟨o, es, ep, t, hm.heap S _ hSw ho, rest⟩))
  | succ k ih =>
    intro i s hk hi hst hS hR
    have hlt : i < n := by omega
    refine codeAny_builtin PyProof.Rows.F.entry_set_update_loop ?_
    rw [Around.under_plainId PyProof.Rows.F.plain_set_update_loop _]
    show wpAny _ A.in1 (pyNext (.ref I) >>= _) _ _ s
    refine wpAny_bind (W.item i s _ _ hlt hst fun v s' hP hst' hm => ?_)
    obtain ⟨x, hx, hkx, hsc⟩ := hval i v hP
    have hS' : s'.heap.SetOf knd S (fun k' => decide (k' ∈ setL (xs.take i))) (setL (xs.take i)).length := by
      obtain ⟨o, es, ep, tb, ho, rest⟩ := hS
      exact ⟨o, es, ep, tb, hm.heap S _ hSw ho, rest⟩
    show wpAny _ A.in1 (holding [v] (setAdd S v) >>= _) _ _ s'
    refine wpAny_bind (wpAny_holding ?_)
    unfold setAdd
    refine wpAny_holding ?_
    refine wpAny_bind (knd.pyHash (k := x) hkx ?_)
    have hl1 : (setL (xs.take i)).length ≤ i := Nat.le_trans (setL_len _) (by rw [List.length_take]; omega)
    refine wpAny_setAddHashed_of (knd := knd) (s := { s' with toks := s'.toks + 1 }) hkx hsc hS' (by omega) fun h' hsb hS2 => ?_
    have hSi : h'.SetOf knd S (fun k' => decide (k' ∈ setL (xs.take (i + 1)))) (setL (xs.take (i + 1))).length := by
      rw [setL_take xs i x hx]
      refine setOf_congr hS2 (fun k' => ?_) ?_
      · unfold setStep
        split
        · rename_i q
          by_cases e : k' = x
          · subst e
            simp [q]
          · simp [e]
        · rename_i q
          simp
      · unfold setStep
        by_cases q : x ∈ setL (xs.take i)
        · rw [if_pos q, if_pos (decide_eq_true q)]
        · rw [if_neg q, if_neg (by simpa using q), List.length_append, List.length_singleton]
    refine wpAny_pure ⟨plainId_quiet PyProof.Rows.F.plain_set_update_loop _, ih (i + 1) _ (by omega) hlt (W.frame _ s' _ _ hst' (Nat.le_succ _) fun b hb o e => ?_) hSi fun s'' hm'' hS'' => ?_⟩
    · rw [hsb.2 b (fun h : b = S => hSf (by rw [← h]; exact hb))]; exact e
    · refine hR s'' (Moved.trans W.gtrans ((hm.mono hsub).then_heap (Nat.le_succ _) fun b o hb e => ?_) hm'') hS''
      rw [hsb.2 b (fun h : b = S => hb (by rw [h]; exact List.mem_cons_self))]; exact e
end
section
variable {K : Type} [DecidableEq K]
variable {prog : Program} {w : World} {A : Around} {E : Value → Shared → Prop} {s : Shared}
theorem call_set_listK (knd : KeyKind prog w K) {l : Addr} {items : Array Value} {xs : List K} {Q : Value → Shared → Prop}
    (hh : A.handled = none) (hl : s.heap.IsList l items) (hsz : xs.length = items.size) (hi : ∀ (i : Nat) (v : Value), items[i]? = some v → ∃ k, xs[i]? = some k ∧ knd.is k v = true ∧ v.scannable = true) (hroom : items.size + 1 < scanBound)
    (h : ∀ (h' : Heap) (tk : Nat), h'.SetOf knd s.heap.objs.size (fun k' => decide (k' ∈ setL xs)) (setL xs).length →
      (∀ b o, b < s.heap.objs.size → s.heap.get? b = some o → h'.get? b = some o) → Q (.ref s.heap.objs.size) { s with heap := h', toks := tk }) :
    wpAny (model prog w) A (call (.type "set") [.ref l]) Q E s := by
  obtain ⟨c, tl, hmro⟩ := PySem.F.called_set.mro
  have hmade := PySem.F.called_set.made
  have hsub := PySem.F.called_set.sub
  refine wpAny_call (codeAny_of_tree ?_)
  show wpAny _ _ (callAny (.type "set") _) _ _ _
  refine wpAny_pure ⟨Code.quiet_builtin _ (by decide +kernel), codeAny_builtin PySem.F.entry_type_call ?_⟩
  rw [Around.under_plain (weight_type_call_type "set" [.ref l] []) rfl]
  have h1 := PySem.F.called_set.notType
  have h2 := PySem.F.called_set.canCreate
  have hct := PySem.F.typeCall_set_1 (.ref l)
  repeat (any_goals (first | assumption | wp_step))

  refine codeAny_mono (code_set_new_1 (.ref l) (E := E) (Q₁ := fun obj s₁ => ∃ led : Bool, obj = .ref s.heap.objs.size ∧ s₁ = { s with heap := s.heap.push { cls := .type "set", dict := none, data := .set #[] 0 (.fresh 0 0 led) } }) fun led => ⟨led, rfl, rfl⟩) fun r s₁ hr => ?_
  cases r with
  | error e => exact hr
  | ok fl =>
    cases fl with
    | ret obj =>
      obtain ⟨led, rfl, rfl⟩ := hr
      have hS : (s.heap.push { cls := .type "set", dict := none, data := .set #[] 0 (.fresh 0 0 led) }).get? s.heap.objs.size = some { cls := .type "set", dict := none, data := .set #[] 0 (.fresh 0 0 led) } := Heap.get?_push_size _ rfl
      have hT : Shared.TypeIs { s with heap := s.heap.push { cls := .type "set", dict := none, data := .set #[] 0 (.fresh 0 0 led) } } (.ref s.heap.objs.size) "set" := ⟨_, hS, rfl⟩
      have hli := PySem.F.called_set.init.lookup
      have hbi := PySem.F.called_set.init.bind (.ref s.heap.objs.size)
      repeat (any_goals (first | assumption | wp_step))

      refine codeAny_mono (codeAny_call_builtin (R := wants (fun r s₂ => r = .none ∧ ∃ h' tk, s₂ = { s with heap := h', toks := tk } ∧
          h'.SetOf knd s.heap.objs.size (fun k' => decide (k' ∈ setL xs)) (setL xs).length ∧
          (∀ b o, b < s.heap.objs.size → s.heap.get? b = some o → h'.get? b = some o)) E) PySem.F.called_set.init.plain PySem.F.entry_set_init (check_set_init_1 hT ?_)) fun r₂ s₂ hr₂ => ?_
      · obtain ⟨ol, hol, hcl, nl, hdl⟩ := hl
        obtain ⟨ocls, odict, odata, oslots⟩ := ol
        simp only at hcl hdl
        subst hcl; subst hdl
        have hol' : (s.heap.push { cls := .type "set", dict := none, data := .set #[] 0 (.fresh 0 0 led) }).get? l = some { cls := .type "list", dict := odict, data := .seq items nl, slots := oslots } := Heap.get?_push_of_some _ hol
        have hsls := PySem.F.sub_list_set
        have hslf := PySem.F.sub_list_frozenset
        have hne : (Value.type "list" == Value.type "dict") = false := by decide
        have hl1 : (s.heap.push { cls := .type "set", dict := none, data := .set #[] 0 (.fresh 0 0 led) }).IsList l items := ⟨_, hol', rfl, nl, rfl⟩
        unfold Builtin.«set.__init__» noKeywords Builtin.Frozenset.updateFrom
        generalize hPI : pyIter = PI
        wp_walk
        subst hPI

        refine wpAny_pyIter_list hl1 ?_
        refine wpAny_bind (wpAny_runValue ?_)
        have hlS : l < s.heap.objs.size := Heap.lt_size hol
        have hh3 : A.in1.in1.in1.handled = none := by simp [hh]
        have hneI : l ≠ (s.heap.push { cls := .type "set", dict := none, data := .set #[] 0 (.fresh 0 0 led) }).objs.size := by
          rw [Heap.size_push]; exact Nat.ne_of_lt (Nat.lt_succ_of_lt hlS)
        have hSf : s.heap.objs.size ∉ [(s.heap.push { cls := .type "set", dict := none, data := .set #[] 0 (.fresh 0 0 led) }).objs.size, l] := by
          rw [Heap.size_push]; simp only [List.mem_cons, List.mem_singleton, List.not_mem_nil, or_false, not_or]
          exact ⟨Nat.ne_of_lt (Nat.lt_succ_self _), Nat.ne_of_gt hlS⟩
        have etk : setL (xs.take items.size) = setL xs := by rw [← hsz, List.take_length]
        refine loopSetK knd ((Walks.list hh3 _ l hneI items).toS) s.heap.objs.size
          hSf xs hsz hroom hi (items.size - 0) 0 _ (by omega) (Nat.zero_le _)
          ⟨⟨_, Heap.get?_push_size _ rfl, rfl, rfl⟩, (hl1.push _)⟩ ?hS0 ?hR
        case hS0 =>
          have hget : ((s.heap.push { cls := .type "set", dict := none, data := .set #[] 0 (.fresh 0 0 led) }).push { cls := .type "list_iterator", data := .fields #[.ref l, .int 0 0] }).get? s.heap.objs.size
              = some { cls := .type "set", dict := none, data := .set #[] 0 (.fresh 0 0 led) } := Heap.get?_push_of_some _ hS
          exact setOf_congr ((PyProof.Rows.setObjOf_fresh (knd := knd) led).setOf hget (by unfold scanBound; omega)) (fun _ => by simp [setL]) (by simp [setL])
        case hR =>
          intro s' hm hS'
          rw [etk] at hS'
          obtain ⟨h', g', d', tk', os'⟩ := s'
          have eg : g' = s.gens := hm.gens
          have ed : d' = s.drawn := hm.drawn
          have eo : os' = s.os := hm.os
          subst eg; subst ed; subst eo
          show wpAny _ _ _ _ _ _
          refine wpAny_pure ?_
          show wpAny _ _ (ret Value.none) _ _ _
          refine wpAny_pure ⟨rfl, h', tk', rfl, hS', fun b o hb e => ?_⟩
          have hb1 : b ≠ s.heap.objs.size := Nat.ne_of_lt hb
          have hb2 : b ≠ (s.heap.push { cls := .type "set", dict := none, data := .set #[] 0 (.fresh 0 0 led) }).objs.size := by
            rw [Heap.size_push]; exact Nat.ne_of_lt (Nat.lt_succ_of_lt hb)
          exact hm.heap b o (by simp only [List.mem_cons, List.mem_singleton, List.not_mem_nil, or_false, not_or]; exact ⟨hb1, hb2⟩) (Heap.get?_push_of_some _ (Heap.get?_push_of_some _ e))

      · cases r₂ with
        | error e => exact hr₂
        | ok fl₂ =>
          cases fl₂ with
          | ret r =>
            obtain ⟨rfl, h', tk, rfl, hS', hk'⟩ := hr₂
            repeat (any_goals (first | assumption | wp_step))
            exact h _ _ hS' hk'
          | _ => exact hr₂.elim
    | _ => exact hr.elim
end
@[reducible] def strsOf : List D → Option (List Str)
  | [] => some []
  | .str x :: ds => (strsOf ds).map (x :: ·)
  | _ => none
@[reducible] def intsOf : List D → Option (List Int)
  | [] => some []
  | .int x :: ds => (intsOf ds).map (x :: ·)
  | _ => none
theorem strsOf_dd {K : PySem.W.Frag} {F : Hp} : ∀ {ds : List D} {xs : List Str} {vs : List V}, strsOf ds = some xs → DdAll K F vs ds → vs = xs.map V.str
  | [], xs, _, h, .nil => by
    cases h
    rfl
  | .str x :: ds, xs, _, h, .cons (.str _) t => by
    have h1 : (strsOf ds).map (x :: ·) = some xs := h
    cases q : strsOf ds with
    | none =>
      rw [q] at h1
      cases h1
    | some ys =>
      rw [q] at h1
      cases h1
      rw [strsOf_dd q t]
      rfl
theorem intsOf_dd {K : PySem.W.Frag} {F : Hp} : ∀ {ds : List D} {xs : List Int} {vs : List V}, intsOf ds = some xs → DdAll K F vs ds → vs = xs.map V.int
  | [], xs, _, h, .nil => by
    cases h
    rfl
  | .int x :: ds, xs, _, h, .cons (.int _) t => by
    have h1 : (intsOf ds).map (x :: ·) = some xs := h
    cases q : intsOf ds with
    | none =>
      rw [q] at h1
      cases h1
    | some ys =>
      rw [q] at h1
      cases h1
      rw [intsOf_dd q t]
      rfl
@[reducible] def pLenSet : D → R D
  | .list ds => if ds.length < 4000 then (match strsOf ds with
    | some xs => .ok (.int ((setL xs).length : Nat))
    | none => match intsOf ds with
      | some xs => .ok (.int ((setL xs).length : Nat))
      | none => .bad) else .bad
  | _ => .bad
@[reducible] def rLenSet (f : Rho → R D) : Rho → R D := fun ρ => (f ρ).bind pLenSet
section
variable {X : Cx} {G : Gb} {E : XK} {a : Expr} {fa : Rho → R D}
def tLenSetK (K : PySem.W.Frag) (ta : TE) : TE := fun σ H Q => ta σ H fun x H1 => ∃ l vs, x = .ref l ∧ SqL K H1 l vs ∧ vs.length < 4000 ∧
  ((∃ xs : List Str, vs = xs.map V.str ∧ Q (.int ((setL xs).length : Nat)) H1) ∨ ∃ xs : List Int, vs = xs.map V.int ∧ Q (.int ((setL xs).length : Nat)) H1)
theorem pe_lenSetK {ta : TE} {p p2 q pos : Pos} (hc : X.calm = true) (hg : Gl X "len") (hm : X.mg "len" = none) (hg2 : Gl X "set") (hm2 : X.mg "set" = none) (ha : PE X a ta)
    (na : starEach [a] X.env = (false, eval a X.env) :: starEach [] X.env := by rfl) : PE X (.Call (.Name "len" p) [.Call (.Name "set" p2) [a] [] q] [] pos) (tLenSetK X.K ta) := by
  refine ⟨fun pins s σ H Q I h => ?_⟩
  refine Call_ (ld_blt I hg hm boot_len ?_)
  refine PyProof.Rows.callWith_builtin1 (PyProof.Rows.args_cons ?_ rfl) rfl rfl
  refine Call_ (ld_blt I hg2 hm2 boot_set ?_)
  refine PyProof.Rows.callWith_type1 (PyProof.Rows.args_cons (thn (ha.run pins s σ H _ I h) fun v s1 ⟨x, H1, I1, r1, q1⟩ => PyProof.Rows.args_nil ?_) na) na rfl
  obtain ⟨l, vs, rfl, hq, hb, q1⟩ := q1
  cases r1
  have fin : ∀ {KK : Type} [DecidableEq KK] (knd : KeyKind X.prog X.w KK) (n : Nat) (S : KK → Bool), Q (.int (n : Nat)) H1 → ∀ (h' : Heap) (tk : Nat), h'.SetOf knd s1.heap.objs.size S n →
      (∀ b o, b < s1.heap.objs.size → s1.heap.get? b = some o → h'.get? b = some o) →
      wpAny (model X.prog X.w) X.A (spliced (backTo pos (starEach [] X.env))) (fun vs s₂ => wpAny (model X.prog X.w) X.A (call (.builtin "len") (Value.ref s1.heap.objs.size :: vs)) (EP X pins σ Q) X.xe s₂) X.xe { s1 with heap := h', toks := tk } := fun knd n S q1 h' tk hS hk => by
    refine PyProof.Rows.args_nil ?_
    obtain ⟨o, es, ep, t, ho, hex, hd, _, _, hbs, hf, hn⟩ := hS
    have I2 : Inv X pins σ H1 { s1 with heap := h', toks := tk } := I1.kept fun b o e => hk b o (Heap.lt_size e) e
    refine call_len_set ho hex hd hf (by rw [hn] at hbs ⊢; unfold scanBound at hbs; omega) ⟨.int (n : Nat), H1, I2.tok _, ⟨_, by rw [hn]⟩, q1⟩
  obtain ⟨its, r, pl, hz⟩ := I1.list hq
  have hl : its.toArray.size = vs.length := by rw [List.size_toArray, ← r.length]
  rcases q1 with ⟨xs, rfl, q1⟩ | ⟨xs, rfl, q1⟩
  · refine call_set_listK (strKind X.prog X.w) (xs := xs) (I1.ok.hd hc) pl.isList (by rw [hl, List.length_map]) (fun i v hv => ?_) (by rw [hl]; unfold scanBound; omega) fun h' tk hS hk => fin (strKind X.prog X.w) _ _ q1 h' tk hS hk
    have hi : i < xs.length := by
      have := (Array.getElem?_eq_some_iff.mp hv).1
      rw [hl, List.length_map] at this
      exact this
    obtain ⟨u, hu, t, rfl⟩ := r.get (i := i) (x := .str xs[i]) (by simp [hi])
    have e : v = .str xs[i] t := by
      rw [List.getElem?_toArray, hu] at hv
      cases hv
      rfl
    subst e
    exact ⟨xs[i], List.getElem?_eq_getElem hi, strKind_is _ _ _ _, rfl⟩
  · refine call_set_listK (intKind X.prog X.w) (xs := xs) (I1.ok.hd hc) pl.isList (by rw [hl, List.length_map]) (fun i v hv => ?_) (by rw [hl]; unfold scanBound; omega) fun h' tk hS hk => fin (intKind X.prog X.w) _ _ q1 h' tk hS hk
    have hi : i < xs.length := by
      have := (Array.getElem?_eq_some_iff.mp hv).1
      rw [hl, List.length_map] at this
      exact this
    obtain ⟨u, hu, t, rfl⟩ := r.get (i := i) (x := .int xs[i]) (by simp [hi])
    have e : v = .int xs[i] t := by
      rw [List.getElem?_toArray, hu] at hv
      cases hv
      rfl
    subst e
    exact ⟨xs[i], List.getElem?_eq_getElem hi, intKind_is _ _ _ _, rfl⟩
theorem e_lenSet {p p2 q pos : Pos} (hc : X.calm = true) (hm : X.mg "len" = none) (hm2 : X.mg "set" = none) (ha : PE X a (tE G E fa)) (hg : Gl X "len" := by rfl) (hg2 : Gl X "set" := by rfl) (na : starEach [a] X.env = (false, eval a X.env) :: starEach [] X.env := by rfl) (hK : X.K = G.K := by rfl) :
    PE X (.Call (.Name "len" p) [.Call (.Name "set" p2) [a] [] q] [] pos) (tE G E (rLenSet fa)) :=
  pe_imp (pe_lenSetK hc hg hm hg2 hm2 ha na) fun σ H Q ⟨ρ, F, e, b, h⟩ => ⟨ρ, F, e, b, PostR.seq h fun d x F1 H1 _ s1 d1 h1 => by
    rw [hK]
    cases d1 with
    | @lst p vs ds hp hd =>
      have h2 : PostR G (Dd G.K) E F1 H1 Q (if ds.length < 4000 then (match strsOf ds with
        | some xs => .ok (.int ((setL xs).length : Nat))
        | none => match intsOf ds with
          | some xs => .ok (.int ((setL xs).length : Nat))
          | none => .bad) else .bad) := h1
      split at h2
      · rename_i hb
        refine ⟨p, vs, rfl, SqL.of (s1.base.sub _ _ hp), by rw [hd.length]; exact hb, ?_⟩
        split at h2
        · rename_i xs q
          exact .inl ⟨xs, strsOf_dd q hd, PostR.val h2 s1.base (.int _)⟩
        · split at h2
          · rename_i xs q
            exact .inr ⟨xs, intsOf_dd q hd, PostR.val h2 s1.base (.int _)⟩
          · exact (show False from h2).elim
      · exact (show False from h2).elim
    | _ => exact (show False from h1).elim⟩

/-! ### sorted, of a list of ints -/
@[reducible] def insI (x : Int) : List Int → List Int
  | [] => [x]
  | y :: ys => if x ≤ y then x :: y :: ys else y :: insI x ys
@[reducible] def sortI : List Int → List Int
  | [] => []
  | x :: xs => insI x (sortI xs)
theorem insI_perm (x : Int) : ∀ ys : List Int, (insI x ys).Perm (x :: ys)
  | [] => .refl _
  | y :: ys => by
    show (if x ≤ y then x :: y :: ys else y :: insI x ys).Perm _
    split
    · exact .refl _
    · exact ((insI_perm x ys).cons y).trans (.swap x y ys)
theorem sortI_perm : ∀ xs : List Int, (sortI xs).Perm xs
  | [] => .refl _
  | x :: xs => (insI_perm x (sortI xs)).trans ((sortI_perm xs).cons x)
theorem insI_le {x : Int} : ∀ {ys : List Int}, ys.Pairwise (· ≤ ·) → (insI x ys).Pairwise (· ≤ ·)
  | [], _ => by simp [insI]
  | y :: ys, h => by
    show (if x ≤ y then x :: y :: ys else y :: insI x ys).Pairwise _
    have h0 := List.pairwise_cons.mp h
    split
    · rename_i q
      refine List.pairwise_cons.mpr ⟨fun z hz => ?_, h⟩
      rcases List.mem_cons.mp hz with rfl | hz
      · exact q
      · have := h0.1 z hz
        omega
    · rename_i q
      refine List.pairwise_cons.mpr ⟨fun z hz => ?_, insI_le h0.2⟩
      rcases List.mem_cons.mp ((insI_perm x ys).mem_iff.mp hz) with rfl | hz
      · omega
      · exact h0.1 z hz
theorem sortI_le : ∀ xs : List Int, (sortI xs).Pairwise (· ≤ ·)
  | [] => .nil
  | x :: xs => insI_le (sortI_le xs)
theorem sortI_uniq {xs ys : List Int} (h1 : ys.Perm xs) (h2 : ys.Pairwise (· ≤ ·)) : ys = sortI xs :=
  List.Perm.eq_of_pairwise (fun a b _ _ h1 h2 => Int.le_antisymm h1 h2) h2 (sortI_le xs) (h1.trans (sortI_perm xs).symm)
@[reducible] def pSorted : List D → R D
  | [.list ds] => match intsOf ds with
    | some xs => .ok (.list ((sortI xs).map .int))
    | none => .bad
  | _ => .bad
theorem ddAll_ints {K : PySem.W.Frag} {F : Hp} : ∀ xs : List Int, DdAll K F (xs.map V.int) (xs.map PyData.int)
  | [] => .nil
  | x :: xs => .cons (.int x) (ddAll_ints xs)
theorem c_sorted : CallD G (rSortedI G.K) pSorted := one_dd (fun ds h => by
    match ds, h with
    | [], _ => rfl
    | [d], h => exact absurd rfl (h d)
    | d :: _ :: _, _ => cases d <;> rfl) fun E F H x d Q bs hd h => by
  cases hd with
  | @lst p vs ds hp hd =>
    have h2 : PostR G (Dd G.K) E F H Q (match intsOf ds with
      | some xs => .ok (.list ((sortI xs).map .int))
      | none => .bad) := h
    split at h2
    · rename_i xs q
      have e := intsOf_dd q hd
      subst e
      refine ⟨p, xs, rfl, SqL.of (bs.sub _ _ hp), fun ns' l k1 k2 hl => ?_⟩
      rw [sortI_uniq k1 k2]
      exact PostR.new h2 bs hl lst_ne (.lst upd_same (ddAll_ints _))
    · exact (show False from h2).elim
  | _ => exact (show False from h).elim
theorem e_sorted {fs : Rho → R (List D)} {p pos : Pos} (hm : X.mg "sorted" = none) (ha : PA X [a] (tA G E fs)) (hg : Gl X "sorted" := by rfl) (he : starEach [a] X.env = (false, eval a X.env) :: starEach [] X.env := by rfl) (hpl : (backTo pos (starEach [] X.env)).any (·.1) = false := by rfl) (hK : X.K = G.K := by rfl) : PE X (.Call (.Name "sorted" p) [a] [] pos) (tE G E (rCall fs pSorted)) :=
  e_callB (x := "sorted") (r := rSortedI G.K) (by rw [← hK]; exact cr_sortedI) c_sorted hm (by decide +kernel) ha hg (by decide) (by decide) he hpl
end
end Py

namespace Py
open PySem PySem.Spec PyProof.Rows L2 LamX

/-! ### parts of a text -/
def nthS (ss : List Stmt) (i : Nat) : Stmt := ss.getD i (.Pass ⟨0, 0, 0, 0⟩)
def bodyS : Stmt → List Stmt
  | .For _ _ b _ _ => b
  | .If _ b _ _ => b
  | .While _ b _ _ => b
  | _ => []
def elseS : Stmt → List Stmt
  | .If _ _ b _ => b
  | _ => []
theorem u65 {k : Nat} {A : Around} (r : Room k A) : A.units + 65 < cLine := by
  have := r.un
  omega
theorem u1 {k : Nat} {A : Around} (r : Room k A) : A.units + 1 < cLine := by
  have := r.un
  omega
theorem u65h {k : Nat} {A : Around} (r : L2H.RoomH k A) : A.units + 65 < cLine := by
  have := r.un
  omega
section
variable {X : Cx} {G : Gb} {E : XK} {a b c : Expr} {es : List Expr} {fa fb fc : Rho → R D} {fs : Rho → R (List D)} {pos p2 : Pos}
/-! ### -n -/
@[reducible] def pNeg : D → R D
  | .int i => .ok (.int (-i))
  | _ => .bad
@[reducible] def rNeg (f : Rho → R D) : Rho → R D := fun ρ => (f ρ).bind pNeg
theorem e_neg (ha : PE X a (tE G E fa)) : PE X (.UnaryOp .USub a pos) (tE G E (rNeg fa)) :=
  pe_imp (pe_un un_neg ha) fun σ H Q ⟨ρ, F, e, b, h⟩ => ⟨ρ, F, e, b, PostR.seq h fun d x F1 H1 _ s1 d1 h1 => by
    cases d1 with
    | int i => exact ⟨i, rfl, PostR.val (show PostR G (Dd G.K) E F1 H1 Q (.ok (.int (-i))) from h1) s1.base (.int _)⟩
    | _ => exact (show False from h1).elim⟩
/-! ### a call of the text's own def, how many it takes written out -/
theorem e_callF {k n : Nat} {ps : List Str} {m : List D → R D} {x : Str} {p : Pos} (h : Df X.prog X.w G X.mg X.base x k ps m) (hr : Room k X.A) (hx : Passes (L2N.CX X.prog X.w) X E) (ha : PA X (a :: es) (tA G E fs)) (hn : ps.length = n := by rfl) (hK : X.K = G.K := by rfl) (hl : (a :: es).length = ps.length := by rfl)
    (hg : Gl X x := by rfl) (hdb : (x == ("__debug__" : Str)) = false := by decide) (he : starEach (a :: es) X.env = (false, eval a X.env) :: starEach es X.env := by rfl) (hpl : (backTo pos (starEach es X.env)).any (·.1) = false := by rfl) :
    PE X (.Call (.Name x p) (a :: es) [] pos) (tE G E (rCall (rArgs n fs) m)) := by
  subst hn
  exact e_callD h hr hx ha hK hl hg hdb he hpl
/-! ### x, y = a, b -/
@[reducible] def put2 (i j : Nat) (ρ : Rho) : List D → O
  | [d, e] => .nx ((ρ.set i (.dat d)).set j (.dat e))
  | _ => .bad
@[reducible] def put3 (i j l : Nat) (ρ : Rho) : List D → O
  | [d, e, f] => .nx (((ρ.set i (.dat d)).set j (.dat e)).set l (.dat f))
  | _ => .bad
@[reducible] def gPar (i j : Nat) (fs : Rho → R (List D)) : Rho → O := fun ρ => oB (fs ρ) (put2 i j ρ)
@[reducible] def gPar3 (i j l : Nat) (fs : Rho → R (List D)) : Rho → O := fun ρ => oB (fs ρ) (put3 i j l ρ)
theorem s_par (i j : Nat) {x y : Str} {px py pt : Pos} {kt k2 pt2} (hN : X.N.Nodup) (ha : PA X [a, b] (tA G E fs)) (hc : X.calm = true := by rfl) (hi : X.N[i]? = some x := by rfl) (hj : X.N[j]? = some y := by rfl) (hij : i ≠ j := by decide)
    (hx : X.env.scope.names.lookup x = some .local := by rfl) (hy : X.env.scope.names.lookup y = some .local := by rfl)
    (hw : swappedStores [.Tuple [.Name x px, .Name y py] kt pt] (.Tuple [a, b] k2 pt2) X.env = pure (some [x, y]) := by rfl) (hs : swapsWithSole [.Tuple [.Name x px, .Name y py] kt pt] (.Tuple [a, b] k2 pt2) pos.line X.env = pure false := by rfl) :
    PS X (.Assign [.Tuple [.Name x px, .Name y py] kt pt] (.Tuple [a, b] k2 pt2) pos) (tS G E (gPar i j fs)) :=
  ps_imp (ps_par hc hN hi hj hij hx hy ha hw hs) fun D σ H ⟨F0, H0, ρ, F, i0, h⟩ => ⟨ρ, F, i0.env, i0.base, PostO.seq h i0.st fun ds vs F1 H1 _ s1 d1 h1 => by
    match vs, ds, d1, h1 with
    | [v, w], [d, e], .cons r1 (.cons r2 .nil), h1 => exact ⟨v, w, rfl, (show PostO G E F0 H0 D (.nx ((ρ.set i (.dat d)).set j (.dat e))) from h1) _ F1 H1 (((i0.step s1).set i r1).set j r2)⟩
    | [], [], .nil, h1 => exact (show False from h1).elim
    | [_], [_], .cons _ .nil, h1 => exact (show False from h1).elim
    | _ :: _ :: _ :: _, _ :: _ :: _ :: _, .cons _ (.cons _ (.cons _ _)), h1 => exact (show False from h1).elim⟩
theorem s_par3 (i j l : Nat) {x y z : Str} {px py pz pt : Pos} {kt k2 pt2} (hN : X.N.Nodup) (ha : PA X [a, b, c] (tA G E fs)) (hc : X.calm = true := by rfl) (hi : X.N[i]? = some x := by rfl) (hj : X.N[j]? = some y := by rfl) (hl : X.N[l]? = some z := by rfl) (hij : i ≠ j := by decide) (hil : i ≠ l := by decide) (hjl : j ≠ l := by decide)
    (hx : X.env.scope.names.lookup x = some .local := by rfl) (hy : X.env.scope.names.lookup y = some .local := by rfl) (hz : X.env.scope.names.lookup z = some .local := by rfl)
    (hw : swappedStores [.Tuple [.Name x px, .Name y py, .Name z pz] kt pt] (.Tuple [a, b, c] k2 pt2) X.env = pure (some [x, y, z]) := by rfl) (hs : swapsWithSole [.Tuple [.Name x px, .Name y py, .Name z pz] kt pt] (.Tuple [a, b, c] k2 pt2) pos.line X.env = pure false := by rfl) :
    PS X (.Assign [.Tuple [.Name x px, .Name y py, .Name z pz] kt pt] (.Tuple [a, b, c] k2 pt2) pos) (tS G E (gPar3 i j l fs)) :=
  ps_imp (ps_par3 hc hN hi hj hl hij hil hjl hx hy hz ha hw hs) fun D σ H ⟨F0, H0, ρ, F, i0, h⟩ => ⟨ρ, F, i0.env, i0.base, PostO.seq h i0.st fun ds vs F1 H1 _ s1 d1 h1 => by
    match vs, ds, d1, h1 with
    | [u, v, w], [d, e, f], .cons r1 (.cons r2 (.cons r3 .nil)), h1 => exact ⟨u, v, w, rfl, (show PostO G E F0 H0 D (.nx (((ρ.set i (.dat d)).set j (.dat e)).set l (.dat f))) from h1) _ F1 H1 ((((i0.step s1).set i r1).set j r2).set l r3)⟩
    | [], [], .nil, h1 => exact (show False from h1).elim
    | [_], [_], .cons _ .nil, h1 => exact (show False from h1).elim
    | [_, _], [_, _], .cons _ (.cons _ .nil), h1 => exact (show False from h1).elim
    | _ :: _ :: _ :: _ :: _, _ :: _ :: _ :: _ :: _, .cons _ (.cons _ (.cons _ (.cons _ _))), h1 => exact (show False from h1).elim⟩
end
/-! ### a def of the top, at its name -/
/-- it stands there -/
structure DefAt (G : Gb) (mg : Str → Option Value) (x : Str) (st : Stmt) : Prop where
  ex : ∃ fd, FunD G.K x x (defArgs st) (defBody st) (defScope st) [] [] (He.ga G.K x) fd
  gl : mg x = some (.ref (He.ga G.K x))
theorem DefAt.fk {P : Program} {w : World} {G : Gb} {mg : Str → Option Value} {base : Heap} {x : Str} {st : Stmt} {N ps : List Str} {k n : Nat} {g : Rho → O} {fd : FuncData} (Fd : FunD G.K x x (defArgs st) (defBody st) (defScope st) [] [] (He.ga G.K x) fd) (S : FnScope N ps (defScope st)) (hn : N.length = n)
    (hb : ∀ (A : Around) (outer : List Env) (s : Shared) (H : Hp) (E : XK), Room k (A.deeper (envOfC x (defScope st) s.heap.objs.size (He.ga G.K x) (.ref (He.codeOf G.K (x, none))))) →
      PSs (cxOf (L2N.CX P w) P w G.K mg base N x (defScope st) (He.ga G.K x) (.ref (He.codeOf G.K (x, none))) A outer s H E) (defBody st) (tS G E g)) :
    FnOk P w G.K mg base (L2N.CX P w) (k + 1) (He.ga G.K x) fd ps (spD G ps.length (run n g)) := by
  subst hn
  obtain ⟨oc, od, dV, kV, doc, pm, an, cdv, ct, osl, rfl, lk, hcd, _, _⟩ := Fd.ex
  obtain ⟨c, rfl⟩ := He.codeIn_ref hcd
  have ec : He.codeOf G.K (x, none) = c := He.codeOf_eq (p := (x, none)) lk rfl
  subst ec
  exact fn_of lk hcd S (fun vs H Q E h => h.1) fun A outer s H vs Q E hr ⟨_, F, ds, b, hd, h⟩ => ⟨_, hb A outer s H E hr, body_ok b hd h⟩
theorem DefAt.df {P : Program} {w : World} {G : Gb} {mg : Str → Option Value} {base : Heap} {x : Str} {st : Stmt} {N ps : List Str} {k n : Nat} {g : Rho → O} (h : DefAt G mg x st) (S : FnScope N ps (defScope st)) (hn : N.length = n)
    (hbi : ∀ fd, FunD G.K x x (defArgs st) (defBody st) (defScope st) [] [] (He.ga G.K x) fd → Binds G.K fd ps [])
    (hb : ∀ (A : Around) (outer : List Env) (s : Shared) (H : Hp) (E : XK), Room k (A.deeper (envOfC x (defScope st) s.heap.objs.size (He.ga G.K x) (.ref (He.codeOf G.K (x, none))))) →
      PSs (cxOf (L2N.CX P w) P w G.K mg base N x (defScope st) (He.ga G.K x) (.ref (He.codeOf G.K (x, none))) A outer s H E) (defBody st) (tS G E g)) :
    Df P w G mg base x (k + 1) ps (run n g) := by
  obtain ⟨fd, Fd⟩ := h.ex
  exact ⟨He.ga G.K x, fd, DefAt.fk Fd S hn hb, h.gl, Fd.kp, hbi fd Fd⟩
end Py

/-! zip of a tuple and a list, turned from the kit's zip of two tuples -/
namespace RZM
open PySem PySem.Spec PyProof.Rows L2 RZ
open PySem.Sem (wp)
section
variable {prog : Program} {w : World} {A : Around} {E : Value → Shared → Prop} {s : Shared}
theorem zipM_next_item {z TI TO i1 i2 l1 l2 : Addr} {k1 k2 : Nat} {xs ys : Array Value} {x y a b : Value} {Q : Value → Shared → Prop} (D : ZipApart z TI TO i1 i2 l1 l2)
    (hz : IsZip s.heap z TI TO .none) (hTI : IsPair s.heap TI (.ref i1) (.ref i2)) (hTO : IsPair s.heap TO a b)
    (h1 : s.heap.IsTupleIter i1 l1 k1) (h2 : s.heap.IsListIter i2 l2 k2) (hl1 : s.heap.IsTuple l1 xs) (hl2 : s.heap.IsList l2 ys) (hx : xs[k1]? = some x) (hy : ys[k2]? = some y)
    (hQ : ∀ h', IsZip h' z TI TO (rawInt s.heap.objs.size) → IsPair h' TO x y → h'.IsTupleIter i1 l1 (k1 + 1) → h'.IsListIter i2 l2 (k2 + 1) → IsPair h' s.heap.objs.size x y → h'.objs.size = s.heap.objs.size + 1 →
      (∀ c o, c ≠ z → c ≠ TO → c ≠ i1 → c ≠ i2 → s.heap.get? c = some o → h'.get? c = some o) → Q (.ref s.heap.objs.size) { s with heap := h' }) :
    wpAny (model prog w) A (Builtin.«zip.__next__» ⟨[.ref z], []⟩) (fun fin s' => ∃ v, fin = .done (.ret v) ∧ Q v s') E s := by
  show wpAny _ _ (field (.ref z) 2 >>= _) _ _ _
  refine wpAny_bind (wpAny_field hz rfl (x := .bool false) rfl ?_)
  show wpAny _ _ (field (.ref z) 3 >>= _) _ _ _
  refine wpAny_bind (wpAny_field hz rfl (x := .ref TI) rfl ?_)
  refine wpAny_bind (wpAny_seqItems hTI rfl ?_)
  show wpAny _ _ (Builtin.SmallTypes.ownedTupleIsFree (.ref z) >>= _) _ _ _
  refine wpAny_bind ?_
  unfold Builtin.SmallTypes.ownedTupleIsFree
  refine wpAny_bind (wpAny_field hz rfl (x := .none) rfl (wpAny_pure ?_))
  simp only [if_true]
  refine wpAny_bind (wpAny_rule ?_)
  refine wpAny_bind (wpAny_field hz rfl (x := .ref TO) rfl ?_)
  refine wpAny_bind (wpAny_setField_rec hz (by simp) fun h₁ hz₁ hs₁ => ?_)
  replace hz₁ : IsZip h₁ z TI TO .ellipsis := hz₁
  refine wpAny_bind ?_
  simp only [List.zipIdx_cons, List.zipIdx_nil, List.forIn_cons, List.forIn_nil]

  refine wpAny_bind (wpAny_bind (wpAny_onRaise ?_))
  show wpAny _ _ (Builtin.SmallTypes.nextOf (.ref i1) >>= _) _ _ _
  refine wpAny_bind (nextOf_tuple_item (h1.extBut hs₁.extBut D.i1z) (hl1.extBut hs₁.extBut D.l1z) hx fun h₂ h1₂ hs₂ => wpAny_pure ?_)
  have hTO₂ : IsPair h₂ TO a b := hs₂.extBut _ _ D.TOi1 (hs₁.extBut _ _ D.TOz hTO)
  refine wpAny_bind (wpAny_seqItems hTO₂ rfl ?_)
  refine wpAny_bind (wpAny_updateSeq_pair hTO₂ fun h₃ hTO₃ hs₃ => ?_)
  replace hTO₃ : IsPair h₃ TO x b := hTO₃
  refine wpAny_bind (wpAny_letGo (wpAny_pure ?_))

  refine wpAny_bind (wpAny_bind (wpAny_onRaise ?_))
  show wpAny _ _ (Builtin.SmallTypes.nextOf (.ref i2) >>= _) _ _ _
  refine wpAny_bind (wpAny_nextOf_list_item (((h2.extBut hs₁.extBut D.i2z).extBut hs₂.extBut D.i12.symm).extBut hs₃.extBut D.TOi2.symm)
    (((hl2.extBut hs₁.extBut D.l2z).extBut hs₂.extBut D.l2i1).extBut hs₃.extBut D.l2TO) hy fun h₄ h2₄ hs₄ => wpAny_pure ?_)
  have hTO₄ : IsPair h₄ TO x b := hs₄.extBut _ _ D.TOi2 hTO₃
  refine wpAny_bind (wpAny_seqItems hTO₄ rfl ?_)
  refine wpAny_bind (wpAny_updateSeq_pair hTO₄ fun h₅ hTO₅ hs₅ => ?_)
  replace hTO₅ : IsPair h₅ TO x y := hTO₅
  refine wpAny_bind (wpAny_letGo (wpAny_pure (wpAny_pure ?_)))

  refine wpAny_bind (wpAny_seqItems hTO₅ rfl ?_)
  refine wpAny_bind (wpAny_newTuple ?_)
  have hsz : h₅.objs.size = s.heap.objs.size := by rw [hs₅.1, hs₄.1, hs₃.1, hs₂.1, hs₁.1]
  have hz₅ : IsZip h₅ z TI TO .ellipsis := hs₅.extBut _ _ D.TOz.symm (hs₄.extBut _ _ D.i2z.symm (hs₃.extBut _ _ D.TOz.symm (hs₂.extBut _ _ D.i1z.symm hz₁)))
  have hk₅ : ∀ c o, c ≠ z → c ≠ TO → c ≠ i1 → c ≠ i2 → s.heap.get? c = some o → h₅.get? c = some o := fun c o c1 c2 c3 c4 e =>
    hs₅.extBut _ _ c2 (hs₄.extBut _ _ c4 (hs₃.extBut _ _ c2 (hs₂.extBut _ _ c3 (hs₁.extBut _ _ c1 e))))
  have h1₅ : h₅.IsTupleIter i1 l1 (k1 + 1) := ((h1₂.extBut hs₃.extBut D.TOi1.symm).extBut hs₄.extBut D.i12).extBut hs₅.extBut D.TOi1.symm
  have h2₅ : h₅.IsListIter i2 l2 (k2 + 1) := h2₄.extBut hs₅.extBut D.TOi2.symm
  have hzlt : z < h₅.objs.size := Heap.lt_size hz₅
  have hTOlt : TO < h₅.objs.size := Heap.lt_size hTO₅
  have hi1lt : i1 < h₅.objs.size := by obtain ⟨_, e, _⟩ := h1₅; exact Heap.lt_size e
  have hi2lt : i2 < h₅.objs.size := by obtain ⟨_, e, _⟩ := h2₅; exact Heap.lt_size e
  show wpAny _ _ (Builtin.SmallTypes.ownedTupleHandOut (.ref z) (.ref h₅.objs.size) >>= _) _ _ _
  refine wpAny_bind ?_
  unfold Builtin.SmallTypes.ownedTupleHandOut
  have hz₆ : IsZip (h₅.push { cls := .type "tuple", data := .seq #[x, y] }) z TI TO .ellipsis := Heap.get?_push_of_some _ hz₅
  refine wpAny_bind (wpAny_setField_rec hz₆ (by simp) fun h₇ hz₇ hs₇ => ?_)
  replace hz₇ : IsZip h₇ z TI TO (rawInt h₅.objs.size) := hz₇
  refine wpAny_setField_rec hz₇ (by simp) fun h₈ hz₈ hs₈ => ?_
  replace hz₈ : IsZip h₈ z TI TO (rawInt h₅.objs.size) := hz₈
  have up : ∀ c o, c ≠ z → h₅.get? c = some o → h₈.get? c = some o := fun c o c1 e => hs₈.extBut _ _ c1 (hs₇.extBut _ _ c1 (Heap.get?_push_of_some _ e))
  have hT₈ : IsPair h₈ h₅.objs.size x y := hs₈.extBut _ _ (Nat.ne_of_gt hzlt) (hs₇.extBut _ _ (Nat.ne_of_gt hzlt) (Heap.get?_push_size _ rfl))
  have hz8 : h₈.objs.size = h₅.objs.size + 1 := by rw [hs₈.1, hs₇.1, Heap.size_push]
  rw [hsz] at hz₈ hT₈ hz8
  refine wpAny_pure ⟨_, rfl, ?_⟩
  show Q (.ref h₅.objs.size) _
  rw [hsz]
  exact hQ h₈ hz₈ (up _ _ D.TOz hTO₅) (h1₅.at fun o e => up _ o D.i1z e) (h2₅.at fun o e => up _ o D.i2z e) hT₈ hz8 fun c o c1 c2 c3 c4 e => up c o c1 (hk₅ c o c1 c2 c3 c4 e)

theorem zipM_next_end {z TI TO i1 i2 l1 l2 : Addr} {k1 k2 : Nat} {xs ys : Array Value} {a b : Value} {Q : Fin → Shared → Prop} (hh : A.handled = none) (D : ZipApart z TI TO i1 i2 l1 l2)
    (hz : IsZip s.heap z TI TO .none) (hTI : IsPair s.heap TI (.ref i1) (.ref i2)) (hTO : IsPair s.heap TO a b)
    (h1 : s.heap.IsTupleIter i1 l1 k1) (h2 : s.heap.IsListIter i2 l2 k2) (hl1 : s.heap.IsTuple l1 xs) (hl2 : s.heap.IsList l2 ys) (hend : xs[k1]? = none ∨ ys[k2]? = none)
    (hE : ∀ h' e, (∀ c o, c ≠ z → c ≠ TO → c ≠ i1 → c ≠ i2 → s.heap.get? c = some o → h'.get? c = some o) → (∃ o, h'.get? e = some o ∧ o.cls = .type "StopIteration") → E (.ref e) { s with heap := h' }) :
    wpAny (model prog w) A (Builtin.«zip.__next__» ⟨[.ref z], []⟩) Q E s := by
  show wpAny _ _ (field (.ref z) 2 >>= _) _ _ _
  refine wpAny_bind (wpAny_field hz rfl (x := .bool false) rfl ?_)
  show wpAny _ _ (field (.ref z) 3 >>= _) _ _ _
  refine wpAny_bind (wpAny_field hz rfl (x := .ref TI) rfl ?_)
  refine wpAny_bind (wpAny_seqItems hTI rfl ?_)
  show wpAny _ _ (Builtin.SmallTypes.ownedTupleIsFree (.ref z) >>= _) _ _ _
  refine wpAny_bind ?_
  unfold Builtin.SmallTypes.ownedTupleIsFree
  refine wpAny_bind (wpAny_field hz rfl (x := .none) rfl (wpAny_pure ?_))
  simp only [if_true]
  refine wpAny_bind (wpAny_rule ?_)
  refine wpAny_bind (wpAny_field hz rfl (x := .ref TO) rfl ?_)
  refine wpAny_bind (wpAny_setField_rec hz (by simp) fun h₁ hz₁ hs₁ => ?_)
  replace hz₁ : IsZip h₁ z TI TO .ellipsis := hz₁
  refine wpAny_bind ?_
  simp only [List.zipIdx_cons, List.zipIdx_nil, List.forIn_cons, List.forIn_nil]
  refine wpAny_bind (wpAny_bind (wpAny_onRaise ?_))
  show wpAny _ _ (Builtin.SmallTypes.nextOf (.ref i1) >>= _) _ _ _
  cases hx : xs[k1]? with
  | none =>
    refine wpAny_bind (nextOf_tuple_end hh (h1.extBut hs₁.extBut D.i1z) (hl1.extBut hs₁.extBut D.l1z) hx fun h₂ e hs₂ he => ?_)
    obtain ⟨oe, hoe, hce⟩ := he
    have hz₂ : IsZip h₂ z TI TO .ellipsis := hs₂ _ _ D.i1z.symm hz₁
    have hez : e ≠ z := fun x => by subst x; rw [hz₂] at hoe; cases hoe; simp at hce
    refine wpAny_setField_rec hz₂ (by simp) fun h₃ _ hs₃ => hE h₃ e (fun c o c1 _ c3 _ x => hs₃.extBut _ _ c1 (hs₂ _ _ c3 (hs₁.extBut _ _ c1 x))) ⟨oe, hs₃.extBut _ _ hez hoe, hce⟩
  | some x =>
    have hy : ys[k2]? = none := by rcases hend with h | h; rw [hx] at h; cases h; exact h
    refine wpAny_bind (nextOf_tuple_item (h1.extBut hs₁.extBut D.i1z) (hl1.extBut hs₁.extBut D.l1z) hx fun h₂ h1₂ hs₂ => wpAny_pure ?_)
    have hTO₂ : IsPair h₂ TO a b := hs₂.extBut _ _ D.TOi1 (hs₁.extBut _ _ D.TOz hTO)
    refine wpAny_bind (wpAny_seqItems hTO₂ rfl ?_)
    refine wpAny_bind (wpAny_updateSeq_pair hTO₂ fun h₃ hTO₃ hs₃ => ?_)
    refine wpAny_bind (wpAny_letGo (wpAny_pure ?_))
    refine wpAny_bind (wpAny_bind (wpAny_onRaise ?_))
    show wpAny _ _ (Builtin.SmallTypes.nextOf (.ref i2) >>= _) _ _ _
    refine wpAny_bind (wpAny_nextOf_list_end hh (((h2.extBut hs₁.extBut D.i2z).extBut hs₂.extBut D.i12.symm).extBut hs₃.extBut D.TOi2.symm)
      (((hl2.extBut hs₁.extBut D.l2z).extBut hs₂.extBut D.l2i1).extBut hs₃.extBut D.l2TO) hy fun h₄ e hs₄ he => ?_)
    obtain ⟨oe, hoe, hce⟩ := he
    have hz₄ : IsZip h₄ z TI TO .ellipsis := hs₄ _ _ D.i2z.symm (hs₃.extBut _ _ D.TOz.symm (hs₂.extBut _ _ D.i1z.symm hz₁))
    have hez : e ≠ z := fun x => by subst x; rw [hz₄] at hoe; cases hoe; simp at hce
    refine wpAny_setField_rec hz₄ (by simp) fun h₅ _ hs₅ => hE h₅ e (fun c o c1 c2 c3 c4 x => hs₅.extBut _ _ c1 (hs₄ _ _ c4 (hs₃.extBut _ _ c2 (hs₂.extBut _ _ c3 (hs₁.extBut _ _ c1 x))))) ⟨oe, hs₅.extBut _ _ hez hoe, hce⟩

theorem pyNext_zipM_item {z TI TO i1 i2 l1 l2 : Addr} {k1 k2 : Nat} {xs ys : Array Value} {x y a b : Value} {Q : Option Value → Shared → Prop} (D : ZipApart z TI TO i1 i2 l1 l2)
    (hz : IsZip s.heap z TI TO .none) (hTI : IsPair s.heap TI (.ref i1) (.ref i2)) (hTO : IsPair s.heap TO a b)
    (h1 : s.heap.IsTupleIter i1 l1 k1) (h2 : s.heap.IsListIter i2 l2 k2) (hl1 : s.heap.IsTuple l1 xs) (hl2 : s.heap.IsList l2 ys) (hx : xs[k1]? = some x) (hy : ys[k2]? = some y)
    (hQ : ∀ h', IsZip h' z TI TO (rawInt s.heap.objs.size) → IsPair h' TO x y → h'.IsTupleIter i1 l1 (k1 + 1) → h'.IsListIter i2 l2 (k2 + 1) → IsPair h' s.heap.objs.size x y → h'.objs.size = s.heap.objs.size + 1 →
      (∀ c o, c ≠ z → c ≠ TO → c ≠ i1 → c ≠ i2 → s.heap.get? c = some o → h'.get? c = some o) → Q (some (.ref s.heap.objs.size)) { s with heap := h' }) :
    wpAny (model prog w) A (pyNext (.ref z)) Q E s := by
  have hT : s.TypeIs (.ref z) "zip" := ⟨_, hz, rfl⟩
  unfold pyNext
  exact wpAny_bind (wpAny_attempt (wpAny_callSpecial?_slot (name := Str.ofString "__next__") hT F.slot_zip_next
    (wpAny_call_entry F.slot_zip_next hT F.entry_zip_next
      (zipM_next_item D hz hTI hTO h1 h2 hl1 hl2 hx hy fun h' a1 a2 a3 a4 a5 a6 a7 => wpAny_pure (hQ h' a1 a2 a3 a4 a5 a6 a7)) (F.args_zip_next_1 _))))

theorem pyNext_zipM_end {z TI TO i1 i2 l1 l2 : Addr} {k1 k2 : Nat} {xs ys : Array Value} {a b : Value} {Q : Option Value → Shared → Prop} (hh : A.handled = none) (D : ZipApart z TI TO i1 i2 l1 l2)
    (hz : IsZip s.heap z TI TO .none) (hTI : IsPair s.heap TI (.ref i1) (.ref i2)) (hTO : IsPair s.heap TO a b)
    (h1 : s.heap.IsTupleIter i1 l1 k1) (h2 : s.heap.IsListIter i2 l2 k2) (hl1 : s.heap.IsTuple l1 xs) (hl2 : s.heap.IsList l2 ys) (hend : xs[k1]? = none ∨ ys[k2]? = none)
    (hQ : ∀ h', (∀ c o, c ≠ z → c ≠ TO → c ≠ i1 → c ≠ i2 → s.heap.get? c = some o → h'.get? c = some o) → Q none { s with heap := h' }) : wpAny (model prog w) A (pyNext (.ref z)) Q E s := by
  have hT : s.TypeIs (.ref z) "zip" := ⟨_, hz, rfl⟩
  unfold pyNext
  refine wpAny_bind (wpAny_attempt (wpAny_callSpecial?_slot (name := Str.ofString "__next__") hT F.slot_zip_next
    (wpAny_call_entry F.slot_zip_next hT F.entry_zip_next (zipM_next_end hh D hz hTI hTO h1 h2 hl1 hl2 hend fun h' e hk he => ?_) (F.args_zip_next_1 _))))
  obtain ⟨o, ho, hc⟩ := he
  refine wpAny_bind (wpAny_isInstance (T := "StopIteration") (b := true) ⟨o, ho, hc⟩ isSubtype_stop ?_)
  exact wpAny_pure (hQ _ hk)
end

abbrev zipMH1 (h : Heap) (l1 : Addr) : Heap := h.push { cls := .type "tuple_iterator", data := .fields #[.ref l1, .int 0 0] }
abbrev zipMH2 (h : Heap) (l1 l2 : Addr) : Heap := (zipMH1 h l1).push { cls := .type "list_iterator", data := .fields #[.ref l2, .int 0 0] }
abbrev zipMH3 (h : Heap) (l1 l2 : Addr) : Heap := (zipMH2 h l1 l2).push { cls := .type "tuple", data := .seq #[.ref h.objs.size, .ref (zipMH1 h l1).objs.size] }
abbrev zipMH4 (h : Heap) (l1 l2 : Addr) : Heap := (zipMH3 h l1 l2).push { cls := .type "tuple", data := .seq #[.none, .none] }
abbrev zipMH5 (h : Heap) (l1 l2 : Addr) : Heap := (zipMH4 h l1 l2).push { cls := .type "zip", data := .fields #[.none, .bool false, .bool false, .ref (zipMH2 h l1 l2).objs.size, .ref (zipMH3 h l1 l2).objs.size] }

theorem meets_zipM_new (l1 l2 : Addr) (xs ys : Array Value) :
    Meets (Builtin.«zip.__new__» ⟨[.type "zip", .ref l1, .ref l2], []⟩) (fun _ R s => s.heap.IsTuple l1 xs ∧ s.heap.IsList l2 ys ∧
      R (.ok (.ret (.ref (zipMH4 s.heap l1 l2).objs.size))) { s with heap := zipMH5 s.heap l1 l2 }) :=
  .of_wp fun prog w A R s h => by
    obtain ⟨hp, g, d, tk, os⟩ := s; obtain ⟨hl1, hl2, h⟩ := h
    have hsub := sub_zip
    have hL1 : Heap.IsTuple (Shared.heap ⟨hp, g, d, tk, os⟩) l1 xs := hl1
    have hL2 : Heap.IsList (Shared.heap ⟨hp.push { cls := .type "tuple_iterator", data := .fields #[.ref l1, .int 0 0] }, g, d, tk, os⟩) l2 ys := Heap.IsList.push hl2 _
    wp_walk using wpAny_pyIter_tuple hL1, wpAny_pyIter_list hL2
    exact ⟨_, rfl, h⟩

section
variable {prog : Program} {w : World} {A : Around} {E : Value → Shared → Prop} {s : Shared}

theorem call_zipM {l1 l2 : Addr} {xs ys : Array Value} {Q : Value → Shared → Prop} (hl1 : s.heap.IsTuple l1 xs) (hl2 : s.heap.IsList l2 ys)
    (h : ∀ h', IsZip h' (s.heap.objs.size + 4) (s.heap.objs.size + 2) (s.heap.objs.size + 3) .none → IsPair h' (s.heap.objs.size + 2) (.ref s.heap.objs.size) (.ref (s.heap.objs.size + 1)) →
      IsPair h' (s.heap.objs.size + 3) .none .none → h'.IsTupleIter s.heap.objs.size l1 0 → h'.IsListIter (s.heap.objs.size + 1) l2 0 → h'.objs.size = s.heap.objs.size + 5 →
      (∀ c o, s.heap.get? c = some o → h'.get? c = some o) → Q (.ref (s.heap.objs.size + 4)) { s with heap := h' }) :
    wpAny (model prog w) A (call (.type "zip") [.ref l1, .ref l2]) Q E s := by
  refine callType_new F.called_zip (by decide) (F.typeCall_zip_2 _ _) (F.newCall_zip_2 _ _) (fun obj => F.args_object_init_3 obj _ _) F.entry_zip_new
    (meets_zipM_new l1 l2 xs ys) ⟨hl1, hl2, ?_⟩
  have z1 : (zipMH1 s.heap l1).objs.size = s.heap.objs.size + 1 := Heap.size_push ..
  have z2 : (zipMH2 s.heap l1 l2).objs.size = s.heap.objs.size + 2 := by rw [Heap.size_push, z1]
  have z3 : (zipMH3 s.heap l1 l2).objs.size = s.heap.objs.size + 3 := by rw [Heap.size_push, z2]
  have z4 : (zipMH4 s.heap l1 l2).objs.size = s.heap.objs.size + 4 := by rw [Heap.size_push, z3]
  have z5 : (zipMH5 s.heap l1 l2).objs.size = s.heap.objs.size + 5 := by rw [Heap.size_push, z4]
  have g5 : (zipMH5 s.heap l1 l2).get? (zipMH4 s.heap l1 l2).objs.size = some _ := Heap.get?_push_size _ rfl
  have g4 : (zipMH5 s.heap l1 l2).get? (zipMH3 s.heap l1 l2).objs.size = some _ := Heap.get?_push_of_some _ (Heap.get?_push_size _ rfl)
  have g3 : (zipMH5 s.heap l1 l2).get? (zipMH2 s.heap l1 l2).objs.size = some _ := Heap.get?_push_of_some _ (Heap.get?_push_of_some _ (Heap.get?_push_size _ rfl))
  have g2 : (zipMH5 s.heap l1 l2).get? (zipMH1 s.heap l1).objs.size = some _ := Heap.get?_push_of_some _ (Heap.get?_push_of_some _ (Heap.get?_push_of_some _ (Heap.get?_push_size _ rfl)))
  have g1 : (zipMH5 s.heap l1 l2).get? s.heap.objs.size = some _ := Heap.get?_push_of_some _ (Heap.get?_push_of_some _ (Heap.get?_push_of_some _ (Heap.get?_push_of_some _ (Heap.get?_push_size _ rfl))))
  show _ ∧ _
  rw [z2, z3, z4] at g5
  rw [z1, z2] at g3
  rw [z3] at g4
  rw [z1] at g2
  rw [z4]
  exact ⟨⟨_, g5, rfl⟩, h _ g5 g3 g4 ⟨_, g1, rfl, rfl⟩ ⟨_, g2, rfl, rfl⟩ z5 fun c o x =>
    Heap.get?_push_of_some _ (Heap.get?_push_of_some _ (Heap.get?_push_of_some _ (Heap.get?_push_of_some _ (Heap.get?_push_of_some _ x))))⟩
end
/-- the tuple at a, the list at b, the items in new pairs -/
def ItzM (K : PySem.W.Frag) (a b : Addr) : It :=
  ⟨fun i H => ∃ (xs ys : List V) (x y : V), SqT K H a xs ∧ SqL K H b ys ∧ xs[i]? = some x ∧ ys[i]? = some y,
    fun i H v H' => ∃ T x y, v = .ref T ∧ H T = none ∧ H' = upd H T (.tup [x, y]) ∧ (∀ xs, SqT K H a xs → xs[i]? = some x) ∧ ∀ ys, SqL K H b ys → ys[i]? = some y,
    fun i H => ∃ xs ys : List V, SqT K H a xs ∧ SqL K H b ys ∧ (xs.length ≤ i ∨ ys.length ≤ i)⟩
theorem turn_zipM {P : Program} {w : World} {K : PySem.W.Frag} {elts : List Expr} {kk : Nat} {tpos : Pos} {a b z TI TO i1 i2 : Addr} (D : ZipApart z TI TO i1 i2 a b) :
    Turn P w K (.Tuple elts kk tpos) (ItzM K a b) [z, TI, TO, i1, i2] z (fun i h => IsZip h z TI TO .none ∧ IsPair h TI (.ref i1) (.ref i2) ∧ (∃ x y, IsPair h TO x y) ∧ h.IsTupleIter i1 a i ∧ h.IsListIter i2 b i) where
  mem := by simp
  obj := fun i h st c hc => by
    obtain ⟨hz, hTI, ⟨x, y, hTO⟩, ⟨o1, e1, _, d1⟩, ⟨o2, e2, _, d2⟩⟩ := st
    have e' : c = z ∨ c = TI ∨ c = TO ∨ c = i1 ∨ c = i2 := by simpa using hc
    rcases e' with q | q | q | q | q
    · rw [q]; exact ⟨_, hz, fun v q => nomatch q⟩
    · rw [q]; exact ⟨_, hTI, fun v q => nomatch q⟩
    · rw [q]; exact ⟨_, hTO, fun v q => nomatch q⟩
    · rw [q]; exact ⟨o1, e1, fun v q => by rw [d1] at q; cases q⟩
    · rw [q]; exact ⟨o2, e2, fun v q => by rw [d2] at q; cases q⟩
  keep := fun i h h' st k => by
    obtain ⟨hz, hTI, ⟨x, y, hTO⟩, h1, h2⟩ := st
    exact ⟨k z (by simp) _ hz, k TI (by simp) _ hTI, ⟨x, y, k TO (by simp) _ hTO⟩, h1.at fun o q => k i1 (by simp) o q, h2.at fun o q => k i2 (by simp) o q⟩
  item := by
    intro X hP hw hK hc i pins s σ H E I hf st hg
    subst hP hw hK
    obtain ⟨hz, hTI, ⟨x0, y0, hTO⟩, h1, h2⟩ := st
    obtain ⟨xs, ys, x, y, hqx, hqy, hx, hy⟩ := hg
    obtain ⟨its, rv, p, _⟩ := I.tuple hqx
    obtain ⟨its2, rv2, p2, _⟩ := I.list hqy
    obtain ⟨u, hu, ru⟩ := rv.get hx
    obtain ⟨u2, hu2, ru2⟩ := rv2.get hy
    have hzl : z < s.heap.objs.size := Heap.lt_size hz
    refine pyNext_zipM_item D hz hTI hTO h1 h2 p p2.isList (x := u) (y := u2) (by simpa using hu) (by simpa using hu2) fun h' z' TO' h1' h2' hT hsz hk => ?_
    refine ⟨_, rfl, wpAny_letOwnedTupleGo_zip (s := { s with heap := h' }) z' fun h'' z'' sb => ?_⟩
    have hT2 : h''.get? s.heap.objs.size = some { cls := .type "tuple", data := .seq #[u, u2] } := (sb.2 _ (Nat.ne_of_gt hzl)).trans hT
    have new : ObjOk X.prog X.w (upd H s.heap.objs.size (.tup [x, y])) h'' s.heap.objs.size (.tup [x, y]) :=
      ⟨by show 2 ≤ sizeLine; decide, [u, u2], .cons ru (.cons ru2 .nil), ⟨_, hT2, rfl, _, rfl⟩⟩
    have I1 : Inv X pins σ (upd H s.heap.objs.size (.tup [x, y])) { s with heap := h'' } :=
      I.turnedNew (t' := s.toks) (ch := [z, TI, TO, i1, i2]) (fun c o hb q => (sb.2 c (fun q' => hb (by simp [q']))).trans (hk c o (fun q' => hb (by simp [q'])) (fun q' => hb (by simp [q'])) (fun q' => hb (by simp [q'])) (fun q' => hb (by simp [q'])) q)) hf (Nat.le_refl _) new
    refine ⟨.ref s.heap.objs.size, _, I1, rfl, ⟨_, x, y, rfl, I.hok.fresh (Nat.le_refl _), rfl, fun l hl => by rw [I.tuple_inj hl hqx]; exact hx, fun l hl => by rw [I.list_inj hl hqy]; exact hy⟩, ⟨z'', ?_, ⟨u, u2, ?_⟩, ?_, ?_⟩, fun c hcm => ?_⟩
    · exact (sb.2 _ D.TIz).trans (hk _ _ D.TIz D.TITO D.TIi1 D.TIi2 hTI)
    · exact (sb.2 _ D.TOz).trans TO'
    · exact h1'.at fun o q => (sb.2 _ D.i1z).trans q
    · exact h2'.at fun o q => (sb.2 _ D.i2z).trans q
    · have hlt : c < s.heap.objs.size := by
        have e' : c = z ∨ c = TI ∨ c = TO ∨ c = i1 ∨ c = i2 := by simpa using hcm
        rcases e' with q | q | q | q | q
        · rw [q]; exact hzl
        · rw [q]; exact Heap.lt_size hTI
        · rw [q]; exact Heap.lt_size hTO
        · rw [q]; obtain ⟨_, e1, _⟩ := h1; exact Heap.lt_size e1
        · rw [q]; obtain ⟨_, e2, _⟩ := h2; exact Heap.lt_size e2
      rw [upd_ne (Nat.ne_of_lt hlt)]
      exact (hf c hcm).1
  done := by
    intro X hP hw hK hc i pins s σ H E I hf st hg
    subst hP hw hK
    obtain ⟨hz, hTI, ⟨x0, y0, hTO⟩, h1, h2⟩ := st
    obtain ⟨xs, ys, hqx, hqy, hend⟩ := hg
    obtain ⟨its, rv, p, _⟩ := I.tuple hqx
    obtain ⟨its2, rv2, p2, _⟩ := I.list hqy
    have l1 := rv.length
    have l2 := rv2.length
    have he : its.toArray[i]? = none ∨ its2.toArray[i]? = none := by
      rcases hend with q | q
      · exact .inl (by simp; omega)
      · exact .inr (by simp; omega)
    exact pyNext_zipM_end (I.ok.hd hc) D hz hTI hTO h1 h2 p p2.isList he fun h' hk => ⟨rfl, I.turnedL (t' := s.toks) (ch := [z, TI, TO, i1, i2]) (fun c o hb q =>
      hk c o (fun q' => hb (by simp [q'])) (fun q' => hb (by simp [q'])) (fun q' => hb (by simp [q'])) (fun q' => hb (by simp [q'])) q) hf⟩
  self := fun A i s Q E st h => wpAny_pyIter_zip st.1 h

def iZipM (K : PySem.W.Frag) (ta : TA) : TI := fun σ H R => ta σ H fun vs H1 => ∃ a b xs ys, vs = [.ref a, .ref b] ∧ SqT K H1 a xs ∧ SqL K H1 b ys ∧ R (ItzM K a b) H1
theorem pi_zipM {X : Cx} {e e2 : Expr} {ta : TA} {p pos tpos : Pos} {elts : List Expr} {kk : Nat} (hg : Gl X "zip") (hm : X.mg "zip" = none) (ha : PA X [e, e2] ta)
    (hs : starEach [e, e2] X.env = (false, eval e X.env) :: starEach [e2] X.env := by rfl) (hpl : (backTo pos (starEach [e2] X.env)).any (·.1) = false := by rfl) :
    PI X (.Tuple elts kk tpos) (.Call (.Name "zip" p) [e, e2] [] pos) (iZipM X.K ta) := by
  refine ⟨fun pins s σ H R I h => ?_⟩
  refine Call_ (ld_blt I hg hm PyProof.Rows.boot_zip (PyProof.Rows.callWith_type1 (thn (ha.run pos pins s σ H _ I h) fun us s1 ⟨vs, H1, I1, r1, q1⟩ => ?_) hs hpl))
  obtain ⟨a, b, xs, ys, ex, q1⟩ := q1
  subst ex
  cases r1 with
  | cons r rr =>
    cases rr with
    | cons r' rr =>
      cases rr
      cases r
      cases r'
      have fresh5 : ∀ c, c ∈ [s1.heap.objs.size + 4, s1.heap.objs.size + 2, s1.heap.objs.size + 3, s1.heap.objs.size, s1.heap.objs.size + 1] → FpOk X pins H1 c := fun c hcm => by
        have e' : c = s1.heap.objs.size + 4 ∨ c = s1.heap.objs.size + 2 ∨ c = s1.heap.objs.size + 3 ∨ c = s1.heap.objs.size ∨ c = s1.heap.objs.size + 1 := by simpa using hcm
        have hle : s1.heap.objs.size ≤ c := by
          rcases e' with z | z | z | z | z
          · rw [z]; exact Nat.le_add_right _ _
          · rw [z]; exact Nat.le_add_right _ _
          · rw [z]; exact Nat.le_add_right _ _
          · rw [z]; exact Nat.le_refl _
          · rw [z]; exact Nat.le_add_right _ _
        exact I1.fpOk hle (I1.hok.fresh hle)
      obtain ⟨hqx, hqy, q⟩ := q1
      obtain ⟨its, rv, p1, _⟩ := I1.tuple hqx
      obtain ⟨its2, rv2, p2, _⟩ := I1.list hqy
      obtain ⟨o1, ho1, _⟩ := id p1
      have ho2 := p2.lt
      refine call_zipM (show s1.heap.IsTuple a its.toArray from p1) p2.isList fun h' hz hTI hTO h1 h2 hsz hk => wpAny_pyIter_zip hz ?_
      have I2 : Inv X pins σ H1 { s1 with heap := h' } := I1.kept (t' := s1.toks) hk
      exact ⟨s1.heap.objs.size + 4, [s1.heap.objs.size + 4, s1.heap.objs.size + 2, s1.heap.objs.size + 3, s1.heap.objs.size, s1.heap.objs.size + 1], _, _, H1, rfl, I2, turn_zipM (PySem.W.ktu_apart s1.heap.objs.size a b (Heap.lt_size ho1) ho2), ⟨hz, hTI, ⟨_, _, hTO⟩, h1, h2⟩, fresh5, q⟩
end RZM
namespace Py
open PySem PySem.Spec PyProof.Rows L2 LamX
section
variable {X : Cx} {G : Gb} {E : XK} {a b : Expr} {fs : Rho → R (List D)} {pos : Pos}
theorem wk_zipM {F : Hp} {p q : Addr} {vs ws : List V} {ds es : List D} (hp : SqT G.K F p vs) (hq : SqL G.K F q ws) (hd : DdAll G.K F vs ds) (he : DdAll G.K F ws es) : Wk G F (RZM.ItzM G.K p q) (zipD ds es) where
  go := fun i H s hi => by
    rw [zipD_len, ← hd.length, ← he.length] at hi
    exact ⟨vs, ws, vs[i]'(by omega), ws[i]'(by omega), s.sqT hp, s.sqL hq, List.getElem?_eq_getElem _, List.getElem?_eq_getElem _⟩
  stop := fun H s => ⟨vs, ws, s.sqT hp, s.sqL hq, by
    rw [zipD_len, ← hd.length, ← he.length]
    omega⟩
  yld := fun i d F1 H x H' e s b y => by
    obtain ⟨c, f, e0, f0, rfl⟩ := zipD_get e
    obtain ⟨v, e1, e2⟩ := hd.get e0
    obtain ⟨w, f1, f2⟩ := he.get f0
    obtain ⟨T, z, z', h1, h2, h3, h4, h5⟩ := y
    have h6 := h4 vs (b.sub.sqT (s.sqT hp))
    have h7 := h5 ws (b.sub.sqL (s.sqL hq))
    rw [e1] at h6
    rw [f1] at h7
    cases h6
    cases h7
    exact pair_new b h1 h2 h3 (e2.mono s) (f2.mono s)
@[reducible] def asZipM : List D → R (List D)
  | [.tuple xs, .list ys] => .ok (zipD xs ys)
  | _ => .bad
@[reducible] def rZipM (fs : Rho → R (List D)) : Rho → R (List D) := fun ρ => (fs ρ).bind asZipM
theorem i_zipM {p tpos : Pos} {elts : List Expr} {kk : Nat} (hm : X.mg "zip" = none) (ha : PA X [a, b] (tA G E fs)) (hg : Gl X "zip" := by rfl) (hs : starEach [a, b] X.env = (false, eval a X.env) :: starEach [b] X.env := by rfl) (hpl : (backTo pos (starEach [b] X.env)).any (·.1) = false := by rfl) (hK : X.K = G.K := by rfl) :
    PI X (.Tuple elts kk tpos) (.Call (.Name "zip" p) [a, b] [] pos) (tI G E (rZipM fs)) :=
  pi_imp (RZM.pi_zipM hg hm ha hs hpl) fun σ H Q ⟨ρ, F, e, b, h⟩ => ⟨ρ, F, e, b, PostR.seq h fun ds vs F1 H1 _ s1 d1 h1 => by
    rw [hK]
    cases d1 with
    | nil => exact (show False from h1).elim
    | cons hd ht =>
      cases ht with
      | nil => cases hd <;> exact (show False from h1).elim
      | cons hd2 ht2 =>
        cases ht2 with
        | cons _ _ => cases hd <;> cases hd2 <;> exact (show False from h1).elim
        | nil =>
          cases hd with
          | @tup p vs xs hp hx =>
            cases hd2 with
            | @lst q ws ys hq hy => exact ⟨p, q, vs, ws, rfl, s1.base.sub.sqT hp, SqL.of (s1.base.sub _ _ hq), PostR.val (show PostR G (Wk G) E F1 H1 Q (.ok (zipD xs ys)) from h1) s1.base (wk_zipM hp (SqL.of hq) hx hy)⟩
            | _ => exact (show False from h1).elim
          | _ => cases hd2 <;> exact (show False from h1).elim⟩
end
end Py

namespace Py
open PySem PySem.Spec PyProof.Rows L2 LamX

/-! ### what a value of the top is worth, looked at in K -/
mutual
def ddB (K : PySem.W.Frag) : D → Value → Bool
  | .none, .none => true
  | .bool b, .bool c => b == c
  | .int i, .int j _ => decide (i = j)
  | .str x, .str y _ => decide (x = y)
  | .tuple ds, .ref a => match K.lookup a with
    | some ⟨.type c, _, .seq its _, _⟩ => decide (c = "tuple") && (decide (its.size ≤ sizeLine) && ddsB K ds its.toList)
    | _ => false
  | _, _ => false
def ddsB (K : PySem.W.Frag) : List D → List Value → Bool
  | [], [] => true
  | d :: ds, u :: us => ddB K d u && ddsB K ds us
  | _, _ => false
end
mutual
theorem ddB_ok {K : PySem.W.Frag} : ∀ {d : D} {u : Value}, ddB K d u = true → ∃ v, RelV v u ∧ ∀ F, Dd K F v d
  | .none, u, h => by
    cases u with
    | none => exact ⟨.non, rfl, fun _ => .non⟩
    | _ => simp [ddB] at h
  | .bool b, u, h => by
    cases u with
    | bool c =>
      have e : b = c := by simpa [ddB] using h
      subst e
      exact ⟨.bl b, rfl, fun _ => .bl b⟩
    | _ => simp [ddB] at h
  | .int i, u, h => by
    cases u with
    | int j t =>
      have e : i = j := by simpa [ddB] using h
      subst e
      exact ⟨.int i, ⟨t, rfl⟩, fun _ => .int i⟩
    | _ => simp [ddB] at h
  | .str x, u, h => by
    cases u with
    | str y t =>
      have e : x = y := by simpa [ddB] using h
      subst e
      exact ⟨.str x, ⟨t, rfl⟩, fun _ => .str x⟩
    | _ => simp [ddB] at h
  | .tuple ds, u, h => by
    cases u with
    | ref a =>
      have h1 : (match K.lookup a with
        | some ⟨.type c, _, .seq its _, _⟩ => decide (c = "tuple") && (decide (its.size ≤ sizeLine) && ddsB K ds its.toList)
        | _ => false) = true := by simpa only [ddB] using h
      split at h1
      · rename_i c od its n sl q
        obtain ⟨e1, h2⟩ := He.ba h1
        obtain ⟨e2, h3⟩ := He.ba h2
        obtain ⟨vs, r, hd⟩ := ddsB_ok h3
        exact ⟨.ref a, rfl, fun F => .tup (.inr ⟨_, its, n, q, congrArg Value.type (of_decide_eq_true e1), rfl, of_decide_eq_true e2, r⟩) (hd F)⟩
      · cases h1
    | _ => simp [ddB] at h
  | .list ds, u, h => by cases u <;> simp [ddB] at h
  | .dict ds, u, h => by cases u <;> simp [ddB] at h
theorem ddsB_ok {K : PySem.W.Frag} : ∀ {ds : List D} {us : List Value}, ddsB K ds us = true → ∃ vs, Vals vs us ∧ ∀ F, DdAll K F vs ds
  | [], [], _ => ⟨[], .nil, fun _ => .nil⟩
  | [], _ :: _, h => by simp [ddsB] at h
  | _ :: _, [], h => by simp [ddsB] at h
  | d :: ds, u :: us, h => by
    have h1 : (ddB K d u && ddsB K ds us) = true := by simpa only [ddsB] using h
    obtain ⟨h2, h3⟩ := He.ba h1
    obtain ⟨v, r, hd⟩ := ddB_ok h2
    obtain ⟨vs, rs, hds⟩ := ddsB_ok h3
    exact ⟨v :: vs, .cons r rs, fun F => .cons (hd F) (hds F)⟩
end
/-- a name of the top and its worth -/
def gloB (K : PySem.W.Frag) (x : Str) (d : D) : Bool := ddB K d (.ref (He.ga K x))
theorem gloB_ok {K : PySem.W.Frag} {x : Str} {d : D} (h : gloB K x d = true) : ∀ F, Dd K F (V.ref (He.ga K x)) d := by
  obtain ⟨v, r, hd⟩ := ddB_ok h
  cases v with
  | ref a =>
    have e : Value.ref (He.ga K x) = Value.ref a := r
    cases e
    exact hd
  | non => cases (show Value.ref (He.ga K x) = Value.none from r)
  | bl b => cases (show Value.ref (He.ga K x) = Value.bool b from r)
  | int i =>
    obtain ⟨t, r⟩ := r
    cases r
  | str i =>
    obtain ⟨t, r⟩ := r
    cases r
  | byt i =>
    obtain ⟨t, r⟩ := r
    cases r
  | flt i =>
    obtain ⟨t, r⟩ := r
    cases r
  | ty i => cases (show Value.ref (He.ga K x) = Value.type i from r)
/-- a dict of the top with text keys and its worth -/
def tabB (K : PySem.W.Frag) (a : Addr) (tab : List (Str × D)) : Bool := tab.all fun q => match PySem.W.nsIn K a q.1 with
  | some (some u) => ddB K q.2 u
  | _ => false
theorem tabB_ok {w : World} {K : PySem.W.Frag} {a : Addr} {tab : List (Str × D)} (hk : ∃ es n, KDict K w a es n) (h : tabB K a tab = true) : KTab w K a tab := by
  refine ⟨fun q hq => ?_⟩
  have h2 := List.all_eq_true.mp h q hq
  obtain ⟨es, n, k⟩ := hk
  cases e : PySem.W.nsIn K a q.1 with
  | none =>
    rw [e] at h2
    cases h2
  | some r =>
    rw [e] at h2
    cases r with
    | none => cases h2
    | some u =>
      obtain ⟨v, rv, hd⟩ := ddB_ok h2
      exact ⟨v, ⟨es, n, u, k.at_, k.lit, e, rv⟩, hd⟩
/-! ### the refusals' classes -/
def optB (a b : Option Bool) : Bool := decide (a = b)
def exB (K : PySem.W.Frag) (D : Addr) : Bool :=
  He.eqO (PySem.W.findIn K (.ref D) "__getattribute__") (some (some (.builtin "BaseException.__getattribute__"))) && (He.eqO (PySem.W.findIn K (.ref D) "__getattr__") (some none) && (optB (PySem.W.subIn K (.ref D) (.type "BaseException")) (some true) && (PySem.W.hasDictIn K D && (He.eqO (PySem.W.findIn K (.ref D) "__class__") (some (some (.builtin "object.__class__"))) &&
    (He.eqO (PySem.W.specialIn K (.builtin "object.__class__") "__get__") (some (some (.builtin "getset_descriptor.__get__"))) && (optB (PySem.W.takesIn K (.builtin "object.__class__")) (some true) && (optB (PySem.W.mroIn K D (.type "object")) (some true) && optB (PySem.W.kitOne K (.ref D) (.type "ValueError")) (some true))))))))
theorem exB_ok {K : PySem.W.Frag} {D : Addr} (h : exB K D = true) : ExcC K D ∧ PySem.W.kitOne K (.ref D) (.type "ValueError") = some true := by
  obtain ⟨h1, h⟩ := He.ba h
  obtain ⟨h2, h⟩ := He.ba h
  obtain ⟨h3, h⟩ := He.ba h
  obtain ⟨h4, h⟩ := He.ba h
  obtain ⟨h5, h⟩ := He.ba h
  obtain ⟨h6, h⟩ := He.ba h
  obtain ⟨h7, h⟩ := He.ba h
  obtain ⟨h8, h9⟩ := He.ba h
  exact ⟨⟨He.eqO_ok h1, He.eqO_ok h2, of_decide_eq_true h3, h4, He.eqO_ok h5, He.eqO_ok h6, of_decide_eq_true h7, of_decide_eq_true h8⟩, of_decide_eq_true h9⟩
def xsB (K : PySem.W.Frag) (xs : List Str) : Bool := xs.all fun x => exB K (He.ga K x) && xs.all fun y => optB (PySem.W.kitOne K (.ref (He.ga K x)) (.ref (He.ga K y))) (some (decide (x = y)))
theorem xsB_ok {K : PySem.W.Frag} {xs : List Str} (h : xsB K xs = true) {x : Str} (hx : x ∈ xs) : ExcC K (He.ga K x) ∧ PySem.W.kitOne K (.ref (He.ga K x)) (.type "ValueError") = some true ∧ ∀ y ∈ xs, PySem.W.kitOne K (.ref (He.ga K x)) (.ref (He.ga K y)) = some (decide (x = y)) := by
  obtain ⟨h1, h2⟩ := He.ba (List.all_eq_true.mp h x hx)
  obtain ⟨e1, e2⟩ := exB_ok h1
  exact ⟨e1, e2, fun y hy => of_decide_eq_true (List.all_eq_true.mp h2 y hy)⟩
theorem xok_of {fa : List He.Fa} {fn : List He.DefD} {K : PySem.W.Frag} {h : Heap} {mg : Str → Option Value} {G : Gb} {nm : Er → Str} {xs : List Str} {xe : Str} (hK : G.K = K) (hxc : ∀ er, G.xc er = He.ga K (nm er)) (X : K.In h) (N : h.Ns mainGlobals mg) (c : He.SaysD fa fn K) (hin : ∀ er, nm er ∈ xs) (hb : xsB K xs = true)
    (h1 : ∀ x ∈ xs, He.Fa.glo x ∈ fa) (h2 : ∀ x ∈ xs, He.Fa.exc x ∈ fa) (h3 : ∀ x ∈ xs, He.Fa.exm x xe true ∈ fa) : XOk G mg nm (He.ga K xe) := by
  subst hK
  refine ⟨fun er => ?_, fun er => ?_, fun er => ?_, fun er => ?_, fun er => ?_, fun er => ?_, fun er er' => ?_, fun er => ?_, fun er => ?_⟩
  · rw [hxc]
    exact He.glo_ok X N (c.facts (h1 _ (hin er)))
  · rw [hxc]
    exact (He.exc_ok (c.facts (h2 _ (hin er)))).1
  · rw [hxc]
    exact (He.exc_ok (c.facts (h2 _ (hin er)))).2.1
  · rw [hxc]
    exact (He.exc_ok (c.facts (h2 _ (hin er)))).2.2.1
  · rw [hxc]
    exact (He.exc_ok (c.facts (h2 _ (hin er)))).2.2.2
  · rw [hxc]
    exact (xsB_ok hb (hin er)).1
  · rw [hxc, hxc]
    exact (xsB_ok hb (hin er)).2.2 _ (hin er')
  · rw [hxc]
    exact (xsB_ok hb (hin er)).2.1
  · rw [hxc]
    exact He.exm_ok (c.facts (h3 _ (hin er)))
/-! ### the start -/
theorem start_base {G : Gb} {H : Hp} {a : Addr} {ns : List Int} (hT : ∀ p ∈ G.T, H p.1 = some (.tbl #[])) (h : SqL G.K H a (ns.map V.int)) : ∃ F, Base G F H ∧ Dd G.K F (.ref a) (scrD ns) := by
  have tabs : Tabs G.T H := fun p hp => ⟨#[], hT p hp, by simp [TriplesOk], fun pos cv e => by simp [codeAmong] at e⟩
  rcases h with h | ⟨o, its, n, h⟩
  · refine ⟨fun b => if b = a then H a else none, ⟨fun b o e => ?_, fun b ps e => ?_, tabs⟩, .scr (.inl ?_)⟩
    · by_cases q : b = a
      · rw [if_pos q] at e
        rw [q]
        exact e
      · rw [if_neg q] at e
        cases e
    · by_cases q : b = a
      · rw [if_pos q] at e
        rcases h with h | ⟨u, h⟩
        · rw [h] at e
          cases e
        · rw [h] at e
          cases e
      · rw [if_neg q] at e
        cases e
    · rcases h with h | ⟨u, h⟩
      · exact .inl ((if_pos rfl : (if a = a then H a else none) = H a).trans h)
      · exact .inr ⟨u, (if_pos rfl : (if a = a then H a else none) = H a).trans h⟩
  · exact ⟨fun _ => none, ⟨fun b o e => (by cases e), fun b ps e => (by cases e), tabs⟩, .scr (.inr ⟨o, its, n, h⟩)⟩
/-- the law's promise at the script -/
theorem start_sp {G : Gb} {H : Hp} {a : Addr} {ns : List Int} {m : List D → R D} (hT : ∀ p ∈ G.T, H p.1 = some (.tbl #[])) (h : SqL G.K H a (ns.map V.int)) (hm : m [scrD ns] = .ok (.bool true)) : spD G 1 m [.ref a] H (fun v _ => v = .bl true) fun _ _ _ => False := by
  obtain ⟨F, b, d⟩ := start_base hT h
  refine ⟨rfl, F, [scrD ns], b, .cons d .nil, ?_⟩
  rw [hm]
  intro x F' H' _ r
  cases r
  rfl
/-! ### the join -/
theorem cx_no {P : Program} {w : World} {H : Hp} {s s' : Shared} {e : Value} (z : L2N.CX P w [] H s (fun _ _ _ => False) e s') : False := by
  obtain ⟨_, _, _, _, _, _, _, _, _, _, _, _, h⟩ := z
  exact h
def tabNd (K : PySem.W.Frag) (tf : List He.Defn) : Bool := decide ((tf.map fun p => (He.cT K p).2).Nodup)
theorem nodup_inj {α β : Type} {f : α → β} : ∀ {l : List α} {p q : α}, (l.map f).Nodup → p ∈ l → q ∈ l → f p = f q → p = q
  | [], _, _, _, hp, _, _ => by cases hp
  | x :: l, p, q, h, hp, hq, e => by
    rw [List.map_cons, List.nodup_cons] at h
    rcases List.mem_cons.mp hp with ep | hp
    · rcases List.mem_cons.mp hq with eq | hq
      · rw [ep, eq]
      · exact (h.1 (by rw [← ep, e]; exact List.mem_map_of_mem hq)).elim
    · rcases List.mem_cons.mp hq with eq | hq
      · exact (h.1 (by rw [← eq, ← e]; exact List.mem_map_of_mem hp)).elim
      · exact nodup_inj h.2 hp hq e
theorem tab_inj {K : PySem.W.Frag} {tf : List He.Defn} {p q : He.Defn} (h : tabNd K tf = true) (hp : p ∈ tf) (hq : q ∈ tf) (e : (He.cT K p).2 = (He.cT K q).2) : p = q :=
  nodup_inj (f := fun p => (He.cT K p).2) (of_decide_eq_true h) hp hq e
end Py

namespace Py
open PySem PySem.Spec PyProof.Rows L2 LamX
section
variable {X : Cx} {G : Gb} {E : XK}
/-- what is never reached -/
theorem s_bad {st : Stmt} : PS X st (tS G E fun _ => .bad) := ⟨fun _ _ _ _ _ _ ⟨_, _, _, _, _, h⟩ => (show False from h).elim⟩
theorem ss_bad {st : List Stmt} : PSs X st (tS G E fun _ => .bad) := ⟨fun _ _ _ _ _ _ ⟨_, _, _, _, _, h⟩ => (show False from h).elim⟩
variable {a : Expr} {fa : Rho → R D} {pos : Pos}
/-- x, y = e, [] where y will grow -/
@[reducible] def gParO (i j : Nat) (f : Rho → R D) : Rho → O := fun ρ => oB (f ρ) fun d => .nx ((ρ.set i (.dat d)).set j (.own []))
theorem s_parO (i j : Nat) {x y : Str} {px py pt pl : Pos} {kt k2 pt2} (hN : X.N.Nodup) (ha : PE X a (tE G E fa)) (hc : X.calm = true := by rfl) (hi : X.N[i]? = some x := by rfl) (hj : X.N[j]? = some y := by rfl) (hij : i ≠ j := by decide)
    (hx : X.env.scope.names.lookup x = some .local := by rfl) (hy : X.env.scope.names.lookup y = some .local := by rfl) (he : starEach [a, .List [] pl] X.env = (false, eval a X.env) :: starEach [.List [] pl] X.env := by rfl)
    (hw : swappedStores [.Tuple [.Name x px, .Name y py] kt pt] (.Tuple [a, .List [] pl] k2 pt2) X.env = pure (some [x, y]) := by rfl) (hs : swapsWithSole [.Tuple [.Name x px, .Name y py] kt pt] (.Tuple [a, .List [] pl] k2 pt2) pos.line X.env = pure false := by rfl) :
    PS X (.Assign [.Tuple [.Name x px, .Name y py] kt pt] (.Tuple [a, .List [] pl] k2 pt2) pos) (tS G E (gParO i j fa)) :=
  ps_imp (ps_par hc hN hi hj hij hx hy (pa_cons ha (pa_cons (pe_lst pa_nil) pa_nil) he) hw hs) fun D σ H ⟨F0, H0, ρ, F, i0, h⟩ =>
    ⟨ρ, F, i0.env, i0.base, PostO.seq h i0.st fun d v F1 H1 _ s1 d1 h1 => ⟨Nat.zero_le _, fun p hp => ⟨v, .ref p, rfl, h1 _ F1 _ (((i0.step s1).set i d1).mkOwn j hp .nil)⟩⟩⟩
/-! ### xs[e], xs a list that still grows -/
@[reducible] def pIxO (ds : List D) : D → R D
  | .int k => orBad (atI ds k)
  | _ => .bad
@[reducible] def rIxO (i : Nat) (f : Rho → R D) : Rho → R D := fun ρ => (getO ρ i).bind fun ds => (f ρ).bind (pIxO ds)
theorem e_ixO (i : Nat) {x : Str} {b : Expr} {fb : Rho → R D} {px : Pos} (hb : PE X b (tE G E fb)) (hN : X.N[i]? = some x := by rfl) (hv : Vis X.env.scope x := by first | exact Or.inl rfl | exact Or.inr (Or.inl rfl) | exact Or.inr (Or.inr rfl)) (hd : (x == ("__debug__" : Str)) = false := by decide) (hcd : (x == ("__classdict__" : Str)) = false := by decide)
    (hs : PlainIx b := by exact fun _ _ => rfl) (hK : X.K = G.K := by rfl) : PE X (.Subscript (.Name x px) b pos) (tE G E (rIxO i fb)) :=
  pe_imp (pe_ix ix_seq (pe_var hN hv hd hcd) hb hs) fun σ H Q ⟨ρ, F, e, bs, h⟩ => by
    rw [hK]
    cases q : getO ρ i with
    | bad =>
      have h0 : PostR G (Dd G.K) E F H Q ((getO ρ i).bind fun ds => (fb ρ).bind (pIxO ds)) := h
      rw [q] at h0
      exact (show False from h0).elim
    | err c =>
      unfold getO at q
      split at q <;> cases q
    | ok ds =>
      have h0 : PostR G (Dd G.K) E F H Q ((getO ρ i).bind fun ds => (fb ρ).bind (pIxO ds)) := h
      rw [q] at h0
      obtain ⟨p, vs, e1, e2, e3, e4⟩ := e.getOwn (getO_ok q)
      refine ⟨.ref p, e1, ρ, F, e, bs, PostR.seq (show PostR G (Dd G.K) E F H Q ((fb ρ).bind (pIxO ds)) from h0) fun d y F1 H1 _ s1 d1 h1 => ?_⟩
      cases d1 with
      | int k =>
        have h2 : PostR G (Dd G.K) E F1 H1 Q (orBad (atI ds k)) := h1
        cases qa : atI ds k with
        | none =>
          rw [qa] at h2
          exact (show False from h2).elim
        | some d =>
          rw [qa] at h2
          obtain ⟨v, a1, a2⟩ := atI_dd (e4.mono s1.ff) qa
          exact .inl ⟨p, vs, k, v, rfl, rfl, SqL.of (s1.hh p _ e3 (fun ps => lst_ne ps)), a1, PostR.val (show PostR G (Dd G.K) E F1 H1 Q (.ok d) from h2) s1.base a2⟩
      | _ => exact (show False from h1).elim
end
end Py

namespace Py
open PySem PySem.Spec PyProof.Rows L2 LamX
/-! ### min, sorted of data -/
theorem vals_at : ∀ {xs : List V} {us : List Value} {i : Nat} {u : Value}, Vals xs us → us[i]? = some u → ∃ x, xs[i]? = some x ∧ RelV x u
  | _, _, _, _, .nil, h => by simp at h
  | _, _, 0, _, .cons r _, h => by
    simp at h
    subst h
    exact ⟨_, rfl, r⟩
  | _, _, i + 1, u, .cons _ t, h => by
    obtain ⟨x, h1, h2⟩ := vals_at (i := i) t (by simpa using h)
    exact ⟨x, by simpa using h1, h2⟩
@[reducible] def alikeB (ds : List D) : Bool := (ds.all fun x => ds.all fun y => PySem.W.alike x y) && ds.all fun x => match x with | .none => false | _ => true
theorem alikeB_ok {ds : List D} (h : alikeB ds = true) : PySem.W.AlikeAll ds := by
  obtain ⟨h1, h2⟩ := Bool.and_eq_true_iff.mp h
  refine ⟨fun x hx y hy => List.all_eq_true.mp (List.all_eq_true.mp h1 x hx) y hy, fun x hx z => ?_⟩
  have := List.all_eq_true.mp h2 x hx
  rw [z] at this
  cases this
section
variable {X : Cx} {G : Gb} {E : XK} {a : Expr} {es : List Expr} {fs : Rho → R (List D)} {pos : Pos}
def rMinD (K : PySem.W.Frag) : List V → Hp → VK → Prop := fun vs H Q => ∃ (a : Addr) (xs : List V) (d : D) (ds : List D), vs = [V.ref a] ∧ SqL K H a xs ∧ DpAll K H xs (d :: ds) ∧ PySem.W.AlikeAll (d :: ds) ∧ PyData.depthAll (d :: ds) ≤ 60 ∧
  ∀ (i : Nat) (x : V), xs[i]? = some x → (d :: ds)[i]? = some (PySem.W.minD d ds) → Q x H
theorem cr_minD (hc : X.calm = true) (hu : X.A.units + 65 < cLine) : CallR X (.builtin "min") (rMinD X.K) := by
  intro pins s σ H vs us Q I r h
  obtain ⟨a, xs, d, ds, rfl, hs, hd, ha, hdp, q⟩ := h
  obtain ⟨its, rv, hl, hz⟩ := I.list hs
  rw [Vals.ref1 r]
  obtain ⟨as, hr⟩ := Dp.readsAll I (d :: ds) xs its hd rv
  refine PySem.W.min_list_data (I.ok.hd hc) hl.isList (as := as) (by simpa using hr) ha (by omega) fun i v h' tk bs hv hrd hk => ?_
  have hv' : its[i]? = some v := by simpa using hv
  obtain ⟨x, hx, rx⟩ := vals_at rv hv'
  obtain ⟨cs, hc1, hc2, _⟩ := PySem.W.readsAll_atA (vs := its.toArray) (by simpa using hr) i v hv
  have e := (hrd.unique _ _ (PySem.W.reads_keeps hk hc1)).1
  refine ⟨x, H, I.kept hk, rx, q i x hx ?_⟩
  rw [e, List.getD_eq_getElem?_getD, List.getElem?_eq_getElem hc2]
  rfl
@[reducible] def pMinD : List D → R D
  | [.list (d :: ds)] => if (alikeB (d :: ds) && (PyData.canLayAll0 (d :: ds) && decide (PyData.depthAll (d :: ds) ≤ 60))) = true then .ok (PySem.W.minD d ds) else .bad
  | _ => .bad
theorem pMinD_2 {x y : D} {t : List D} : pMinD (x :: y :: t) = .bad := by
  cases x with
  | list l => cases l <;> rfl
  | _ => rfl
theorem c_minD : CallD G (rMinD G.K) pMinD := fun E F H xs ds Q bs hd h => by
  match xs, ds, hd, h with
  | _, [.list (d :: ds)], .cons (.lst hp hds) .nil, h =>
    rename_i p vs
    have h1 : PostR G (Dd G.K) E F H Q (if (alikeB (d :: ds) && (PyData.canLayAll0 (d :: ds) && decide (PyData.depthAll (d :: ds) ≤ 60))) = true then .ok (PySem.W.minD d ds) else .bad) := h
    split at h1
    · rename_i q
      obtain ⟨q1, q2⟩ := Bool.and_eq_true_iff.mp q
      obtain ⟨q2, q3⟩ := Bool.and_eq_true_iff.mp q2
      refine ⟨p, vs, d, ds, rfl, SqL.of (bs.sub _ _ hp), hds.toDp bs.sub q2, alikeB_ok q1, of_decide_eq_true q3, fun i x hx hi => ?_⟩
      obtain ⟨d', e1, e2⟩ := hds.get' hx
      rw [hi] at e1
      cases e1
      exact h1.val bs e2
    · exact (show False from h1).elim
  | _, [], _, h => exact (show False from h).elim
  | _, [.none], _, h => exact (show False from h).elim
  | _, [.bool _], _, h => exact (show False from h).elim
  | _, [.int _], _, h => exact (show False from h).elim
  | _, [.str _], _, h => exact (show False from h).elim
  | _, [.list []], _, h => exact (show False from h).elim
  | _, [.tuple _], _, h => exact (show False from h).elim
  | _, [.dict _], _, h => exact (show False from h).elim
  | _, _ :: _ :: _, _, h =>
    rw [pMinD_2] at h
    exact (show False from h).elim
theorem e_minD (hc : X.calm = true) (hu : X.A.units + 65 < cLine) (hm : X.mg "min" = none) {p : Pos} (ha : PA X (a :: es) (tA G E fs)) (hg : Gl X "min" := by rfl) (hK : X.K = G.K := by rfl)
    (he : starEach (a :: es) X.env = (false, eval a X.env) :: starEach es X.env := by rfl) (hpl : (backTo pos (starEach es X.env)).any (·.1) = false := by rfl) : PE X (.Call (.Name "min" p) (a :: es) [] pos) (tE G E (rCall fs pMinD)) :=
  e_callB (x := "min") (r := rMinD G.K) (id := "min") (by rw [← hK]; exact cr_minD hc hu) c_minD hm (by decide +kernel) ha hg (by decide) (by decide) he hpl

/-! ### sorted -/
theorem each_zip {R : Value → V × D → Prop} : ∀ {us : List Value} {xs : List V} {ds : List D}, Vals xs us → xs.length = ds.length → (∀ u x d, RelV x u → (x, d) ∈ xs.zip ds → R u (x, d)) → PySem.W.EachIs R us (xs.zip ds)
  | _, _, [], .nil, _, _ => .nil
  | _, _, _ :: _, .nil, h, _ => by cases h
  | _, _, [], .cons _ _, h, _ => by cases h
  | _, _, d :: ds, .cons r t, h, hR => .cons (hR _ _ _ r (List.mem_cons_self ..)) (each_zip t (Nat.succ.inj h) fun u x d hr hm => hR u x d hr (List.mem_cons_of_mem _ hm))
theorem each_vals : ∀ {us : List Value} {bs : List (V × D)}, PySem.W.EachIs (fun u b => RelV b.1 u) us bs → Vals (bs.map (·.1)) us
  | _, _, .nil => .nil
  | _, _, .cons r t => .cons r (each_vals t)
theorem zip_snd : ∀ {xs : List V} {ds : List D}, xs.length = ds.length → (xs.zip ds).map (·.2) = ds
  | [], [], _ => rfl
  | _ :: xs, _ :: ds, h => by
    rw [List.zip_cons_cons, List.map_cons, zip_snd (Nat.succ.inj h)]
  | [], _ :: _, h => by cases h
  | _ :: _, [], h => by cases h
theorem dpAll_len {K : PySem.W.Frag} {H : Hp} : ∀ {xs : List V} {ds : List D}, DpAll K H xs ds → xs.length = ds.length
  | _, _, .nil => rfl
  | _, _, .cons _ t => congrArg Nat.succ (dpAll_len t)
theorem dpAll_zip {K : PySem.W.Frag} {H : Hp} : ∀ {xs : List V} {ds : List D}, DpAll K H xs ds → ∀ p ∈ xs.zip ds, Dp K H p.1 p.2
  | _, _, .nil, p, h => by simp at h
  | _, _, .cons r t, p, h => by
    rw [List.zip_cons_cons] at h
    rcases List.mem_cons.mp h with rfl | h
    · exact r
    · exact dpAll_zip t p h
theorem ddAll_zip {K : PySem.W.Frag} {F : Hp} : ∀ {xs : List V} {ds : List D}, DdAll K F xs ds → ∀ p ∈ xs.zip ds, Dd K F p.1 p.2
  | _, _, .nil, p, h => by simp at h
  | _, _, .cons r t, p, h => by
    rw [List.zip_cons_cons] at h
    rcases List.mem_cons.mp h with rfl | h
    · exact r
    · exact ddAll_zip t p h
theorem zip_ddAll {K : PySem.W.Frag} {F : Hp} : ∀ {bs : List (V × D)}, (∀ p ∈ bs, Dd K F p.1 p.2) → DdAll K F (bs.map (·.1)) (bs.map (·.2))
  | [], _ => .nil
  | b :: bs, h => .cons (h b (List.mem_cons_self ..)) (zip_ddAll fun p hp => h p (List.mem_cons_of_mem _ hp))
@[reducible] def sortD (ds : List D) : List D := ds.mergeSort fun a b => !PySem.W.dataLt b a
def sortP (bs : List (V × D)) : List (V × D) := bs.mergeSort fun a b => !PySem.W.dataLt b.2 a.2
theorem sortP_snd (bs : List (V × D)) : (sortP bs).map (·.2) = sortD (bs.map (·.2)) := List.map_mergeSort fun _ _ _ _ => rfl
def rSortD (K : PySem.W.Frag) : List V → Hp → VK → Prop := fun vs H Q => ∃ (a : Addr) (xs : List V) (ds : List D), vs = [V.ref a] ∧ SqL K H a xs ∧ DpAll K H xs ds ∧ PySem.W.AllAlike ds ∧ PySem.W.Sortable ds ∧ (∀ d ∈ ds, d.depth ≤ 60) ∧
  ∀ p, H p = none → Q (.ref p) (upd H p (.lst ((sortP (xs.zip ds)).map (·.1))))
theorem cr_sortD (hu : X.A.units + 65 < cLine) : CallR X (.builtin "sorted") (rSortD X.K) := by
  intro pins s σ H vs us Q I r h
  obtain ⟨a, xs, ds, rfl, hs, hd, ha, hk, hdp, q⟩ := h
  obtain ⟨its, rv, hl, hz⟩ := I.list hs
  rw [Vals.ref1 r]
  have hlen := dpAll_len hd
  have hsnd : (xs.zip ds).map (·.2) = ds := zip_snd hlen
  have hread : ∀ h' : Heap, (∀ b o, s.heap.get? b = some o → h'.get? b = some o) → PySem.W.EachIs (fun v (b : V × D) => ∃ as, Reads h' v b.2 as) its (xs.zip ds) := fun h' hk' => each_zip rv hlen fun u x d hr hm => by
    obtain ⟨as, e⟩ := Dp.reads I d x u (dpAll_zip hd _ hm) hr
    exact ⟨as, PySem.W.reads_keeps hk' e⟩
  have hL : its.length ≤ sizeLine := by rw [← rv.length]; exact hz
  have hold : ∀ b o, s.heap.get? b = some o → (PySem.W.sortingHeap (PySem.W.copyHeap s.heap its) (s.heap.objs.size + 1) its).get? b = some o := fun b o e => PySem.W.sorting_copy_old e
  refine PySem.W.sorted_vals (κ := PySem.W.dataKind (PySem.W.sortingHeap (PySem.W.copyHeap s.heap its) (s.heap.objs.size + 1) its) ((xs.zip ds).map (·.2))) hl.isList ?_ hL ?_
  · refine PySem.W.SortsAt.data (s := { s with heap := PySem.W.sortingHeap (PySem.W.copyHeap s.heap its) (s.heap.objs.size + 1) its }) (PySem.W.each_map (R := fun v d => ∃ as, Reads _ v d as) (fun b : V × D => b.2) (hread _ hold)) (by rw [hsnd]; exact ha) (by rw [hsnd]; exact hk) fun d hm => ?_
    rw [hsnd] at hm
    have := hdp d hm
    show X.A.units + 1 + 1 + d.depth < cLine
    omega
  · have ev := PySem.W.sortVals_data (R := fun u (b : V × D) => RelV b.1 u) (enc := fun b : V × D => b.2) (vs := its) (bs := xs.zip ds) false (each_zip rv hlen fun u x d hr _ => hr) (hread _ hold) (by rw [hsnd]; exact ha)
    generalize PySem.W.sortVals (PySem.W.dataKind (PySem.W.sortingHeap (PySem.W.copyHeap s.heap its) (s.heap.objs.size + 1) its) ((xs.zip ds).map (·.2))) false its its = out at ev ⊢
    have ev2 : PySem.W.EachIs (fun u (b : V × D) => RelV b.1 u) out (sortP (xs.zip ds)) := ev
    have hv := each_vals ev2
    obtain ⟨ep, he'⟩ := PyProof.Rows.sortedAll_at s.heap its out.toArray
    have hl2 : ((sortP (xs.zip ds)).map (·.1)).length ≤ sizeLine := by
      rw [List.length_map, show (sortP (xs.zip ds)).length = (xs.zip ds).length from (List.mergeSort_perm _ _).length_eq, List.length_zip, hlen, Nat.min_self, ← hlen]
      exact hz
    exact ⟨.ref _, upd H (s.heap.objs.size + 1) (.lst ((sortP (xs.zip ds)).map (·.1))), I.laid (t' := s.toks) (fun _ _ => PyProof.Rows.sortedAll_old) (Nat.le_succ _) ⟨hl2, out, ep, hv, he'⟩, rfl, q _ (I.hok.fresh (Nat.le_succ _))⟩
@[reducible] def sortableB (ds : List D) : Bool := (ds.all fun x => match x with | .tuple (_ :: _) => true | _ => false) || ds.all fun x => match x with | .none => false | .tuple _ => false | _ => true
theorem sortableB_ok {ds : List D} (h : sortableB ds = true) : PySem.W.Sortable ds := by
  rcases Bool.or_eq_true_iff.mp h with h | h
  · refine .inl fun d hd => ?_
    have := List.all_eq_true.mp h d hd
    cases d with
    | tuple xs =>
      cases xs with
      | nil => cases this
      | cons x r => exact ⟨x, r, rfl⟩
    | _ => cases this
  · refine .inr fun d hd => ?_
    have := List.all_eq_true.mp h d hd
    constructor
    · intro z
      rw [z] at this
      cases this
    · intro xs z
      rw [z] at this
      cases this
@[reducible] def pSortD : List D → R D
  | [.list ds] => if (((ds.all fun x => ds.all fun y => PySem.W.alike x y) && sortableB ds) && (PyData.canLayAll0 ds && ds.all fun d => decide (d.depth ≤ 60))) = true then .ok (.list (sortD ds)) else .bad
  | _ => .bad
theorem pSortD_2 {x y : D} {t : List D} : pSortD (x :: y :: t) = .bad := by cases x <;> rfl
theorem c_sortD : CallD G (rSortD G.K) pSortD := fun E F H xs ds Q bs hd h => by
  match xs, ds, hd, h with
  | _, [.list ds], .cons (.lst hp hds) .nil, h =>
    rename_i p vs
    have h1 : PostR G (Dd G.K) E F H Q (if (((ds.all fun x => ds.all fun y => PySem.W.alike x y) && sortableB ds) && (PyData.canLayAll0 ds && ds.all fun d => decide (d.depth ≤ 60))) = true then .ok (.list (sortD ds)) else .bad) := h
    split at h1
    · rename_i q
      obtain ⟨q1, q2⟩ := Bool.and_eq_true_iff.mp q
      obtain ⟨q1, q4⟩ := Bool.and_eq_true_iff.mp q1
      obtain ⟨q2, q3⟩ := Bool.and_eq_true_iff.mp q2
      refine ⟨p, vs, ds, rfl, SqL.of (bs.sub _ _ hp), hds.toDp bs.sub q2, fun x hx y hy => List.all_eq_true.mp (List.all_eq_true.mp q1 x hx) y hy, sortableB_ok q4, fun d hd => of_decide_eq_true (List.all_eq_true.mp q3 d hd), fun r hr => ?_⟩
      have e : DdAll G.K F ((sortP (vs.zip ds)).map (·.1)) (sortD ds) := by
        have z := zip_ddAll (K := G.K) (F := F) (bs := sortP (vs.zip ds)) fun p hp => ddAll_zip hds p ((List.mergeSort_perm _ _).mem_iff.mp hp)
        rw [sortP_snd, zip_snd hds.length] at z
        exact z
      exact h1.new bs hr lst_ne (.lst upd_same (dd_self (bs.free hr) e))
    · exact (show False from h1).elim
  | _, [], _, h => exact (show False from h).elim
  | _, [.none], _, h => exact (show False from h).elim
  | _, [.bool _], _, h => exact (show False from h).elim
  | _, [.int _], _, h => exact (show False from h).elim
  | _, [.str _], _, h => exact (show False from h).elim
  | _, [.tuple _], _, h => exact (show False from h).elim
  | _, [.dict _], _, h => exact (show False from h).elim
  | _, _ :: _ :: _, _, h =>
    rw [pSortD_2] at h
    exact (show False from h).elim
theorem e_sortD (hu : X.A.units + 65 < cLine) (hm : X.mg "sorted" = none) {p : Pos} (ha : PA X (a :: es) (tA G E fs)) (hg : Gl X "sorted" := by rfl) (hK : X.K = G.K := by rfl)
    (he : starEach (a :: es) X.env = (false, eval a X.env) :: starEach es X.env := by rfl) (hpl : (backTo pos (starEach es X.env)).any (·.1) = false := by rfl) : PE X (.Call (.Name "sorted" p) (a :: es) [] pos) (tE G E (rCall fs pSortD)) :=
  e_callB (x := "sorted") (r := rSortD G.K) (id := "sorted") (by rw [← hK]; exact cr_sortD hu) c_sortD hm (by decide +kernel) ha hg (by decide) (by decide) he hpl
end
end Py

namespace Py
open PySem PySem.Spec PyProof.Rows L2 LamX
/-! ### defs as values: for x in [f, g, ..]: .. x(..) .. -/
def forF (i : Nat) : List (V × (Rho → O)) → Rho → O
  | [], ρ => .nx ρ
  | (v, gb) :: r, ρ => match gb (ρ.set i (.raw v)) with
    | .nx ρ' => forF i r ρ'
    | .ct ρ' => forF i r ρ'
    | .brk ρ' => .nx ρ'
    | .ret d => .ret d
    | .err c => .err c
    | .bad => .bad
@[reducible] def gForF (i : Nat) (bs : List (V × (Rho → O))) : Rho → O := fun ρ => if (ρ.all fun s => !s.isOwn) = true then forF i bs ρ else .bad
theorem EnvOk.raw {K : PySem.W.Frag} {F H : Hp} {σ : L2.St} {ρ : Rho} (e : EnvOk K F H σ ρ) (i : Nat) (v : V) : EnvOk K F H (σ.set i (some v)) (ρ.set i (.raw v)) := by
  have ni : ∀ (j : Nat) (s : Sl), (ρ.set i (.raw v))[j]? = some s → s.isOwn = true → i ≠ j := fun j s h1 o1 z => by
    subst z
    rw [List.getElem?_set_self'] at h1
    cases e1 : ρ[i]? with
    | none =>
      rw [e1] at h1
      cases h1
    | some s0 =>
      rw [e1] at h1
      cases h1
      cases o1
  refine ⟨by rw [List.length_set, List.length_set, e.len], fun j s ov h1 h2 => ?_, fun j k p s t hjk h1 h2 o1 o2 => ?_⟩
  · by_cases hj : i = j
    · subst hj
      rw [List.getElem?_set_self'] at h1 h2
      cases e1 : ρ[i]? with
      | none =>
        rw [e1] at h1
        cases h1
      | some s0 =>
        rw [e1] at h1
        cases e2 : σ[i]? with
        | none =>
          rw [e2] at h2
          cases h2
        | some o0 =>
          rw [e2] at h2
          cases h1
          cases h2
          rfl
    · rw [List.getElem?_set_ne hj] at h1 h2
      exact e.at_ j s ov h1 h2
  · have nj := ni j s h1 o1
    have nk := ni k t h2 o2
    rw [List.getElem?_set_ne nj] at h1 ⊢
    rw [List.getElem?_set_ne nk] at h2 ⊢
    exact e.apart j k p s t hjk h1 h2 o1 o2
section
variable {X : Cx} {G : Gb} {E : XK} {pos : Pos}
theorem PostO.lift {F0 H0 F1 H1 : Hp} {D : Ends} {o : O} (s : Step G F0 H0 F1 H1) (h : PostO G E F0 H0 D o) : PostO G E F1 H1 D o := by
  have key : ∀ {F' H' : Hp} {σ' : L2.St} {ρ' : Rho}, In0 G F1 H1 F' H' σ' ρ' → In0 G F0 H0 F' H' σ' ρ' := fun {F' H' σ' ρ'} i => ⟨s.trans i.st, i.env, fun k p t u h1 h2 h3 h4 => by
    by_cases q : ∃ ps, u = .tbl ps
    · exact q
    · exact i.ow k p t u h1 h2 h3 (s.hh p u h4 fun ps z => q ⟨ps, z⟩)⟩
  cases o with
  | nx ρ => exact fun σ' F' H' i => h σ' F' H' (key i)
  | ret d => exact fun v F' H' t q => h v F' H' (s.trans t) q
  | err c => exact fun F' H' t => h F' H' (s.trans t)
  | brk ρ => exact fun σ' F' H' i => h σ' F' H' (key i)
  | ct ρ => exact fun σ' F' H' i => h σ' F' H' (key i)
  | bad => exact h
def tVs (vs : List V) : TA := fun _ H Q => Q vs H
theorem fa_nil : PA X [] (tVs []) := pa_imp pa_nil fun σ H Q h => h
theorem fa_cons {x : Str} {f : Addr} {p : Pos} {es : List Expr} {vs : List V} (hm : X.mg x = some (.ref f)) (h : PA X es (tVs vs)) (hg : Gl X x := by rfl) (hd : (x == ("__debug__" : Str)) = false := by decide) (hs : starEach (.Name x p :: es) X.env = (false, eval (.Name x p) X.env) :: starEach es X.env := by rfl) : PA X (.Name x p :: es) (tVs (.ref f :: vs)) :=
  pa_imp (pa_cons (pe_glob (v := .ref f) hg hm rfl hd) h hs) fun σ H Q h => h
theorem forF_own {i : Nat} {v : V} {ρ : Rho} (h : (ρ.all fun s => !s.isOwn) = true) : ((ρ.set i (.raw v)).all fun s => !s.isOwn) = true := by
  rw [List.all_eq_true] at h ⊢
  intro s hs
  rcases List.mem_or_eq_of_mem_set hs with hs | rfl
  · exact h s hs
  · rfl
theorem s_forF (i : Nat) {x : Str} {es : List Expr} {body : List Stmt} {bs : List (V × (Rho → O))} {px pl : Pos} (hp : PassesOwn (model X.prog X.w) X.A X.env X.xe) (hc : X.calm = true) (hN : X.N.Nodup) (hes : PA X es (tVs (bs.map (·.1)))) (hb : ∀ b ∈ bs, PSs X body (tS G E b.2)) (hl : bs.length ≤ 1000 := by exact Nat.le_of_ble_eq_true rfl)
    (hi : X.N[i]? = some x := by rfl) (hx : Loc X.env.scope x := by first | exact Or.inl rfl | exact Or.inr rfl) (hf : X.fn x = true ∨ X.env.scope.names.lookup x = some .local := by first | exact .inl rfl | exact .inr rfl | assumption) (hs : ∀ y, foldedSetIterable (.List es pl) X.env y = pure y := by intro _; rfl) :
    PS X (.For (.Name x px) (.List es pl) body [] pos) (tS G E (gForF i bs)) :=
  ps_imp (ps_for hp hc (pi_list (pe_lst hes)) (pg_name hN hi hx hf) (tb := fun D σ H => ∃ b ∈ bs, tS G E b.2 D σ H) ⟨fun pins s σ H D I ⟨b, hm, h⟩ => (hb b hm).run pins s σ H D I h⟩ hs) fun D σ H ⟨F0, H0, ρ, F, i0, h⟩ => by
    have h0 : PostO G E F0 H0 D (if (ρ.all fun s => !s.isOwn) = true then forF i bs ρ else .bad) := h
    split at h0
    · rename_i hno
      refine ⟨by rw [List.length_map]; exact Nat.le_trans hl (by decide), fun p hp => ⟨p, rfl, ⟨_, SqL.of upd_same⟩, ?_⟩⟩
      have hF : F p = none := i0.base.free hp
      have hxt : ∀ a u, H a = some u → upd H p (.lst (bs.map (·.1))) a = some u := fun a u e => by
        rw [upd_ne (ne_of_none e hp)]
        exact e
      have b1 : Base G F (upd H p (.lst (bs.map (·.1)))) := ⟨fun a u e => hxt a u (i0.base.sub a u e), i0.base.nt, i0.base.tab.ext hxt⟩
      have s1 : Step G F0 H0 F (upd H p (.lst (bs.map (·.1)))) := ⟨i0.st.ff, fun a u e z => hxt a u (i0.st.hh a u e z), b1, i0.st.own⟩
      have e1 : EnvOk G.K F (upd H p (.lst (bs.map (·.1)))) σ ρ := by
        have st : Step G F H F (upd H p (.lst (bs.map (·.1)))) := ⟨.refl F, fun a u e _ => hxt a u e, b1, fun _ _ _ _ n => n⟩
        exact i0.env.step st
      have i1 : In0 G F (upd H p (.lst (bs.map (·.1)))) F (upd H p (.lst (bs.map (·.1)))) σ ρ := ⟨.refl b1, e1, fun k q s o h1 h2 _ _ => by
        have := List.all_eq_true.mp hno s (List.mem_of_getElem? h1)
        rw [h2] at this
        cases this⟩
      have h1 : PostO G E F (upd H p (.lst (bs.map (·.1)))) D (forF i bs ρ) := PostO.lift s1 h0
      generalize hH1 : upd H p (.lst (bs.map (·.1))) = H1 at b1 i1 h1 ⊢
      have hp1 : H1 p = some (.lst (bs.map (·.1))) := by
        rw [← hH1]
        exact upd_same
      refine ⟨fun j m σ H => m = bs.length - j ∧ j ≤ bs.length ∧ ∃ ρ F', In0 G F H1 F' H σ ρ ∧ PostO G E F H1 D (forF i (bs.drop j) ρ), ⟨bs.length, by simp, Nat.zero_le _, ρ, F, i1, by simpa using h1⟩, ?_⟩
      rintro j m σ' H' ⟨rfl, hj, ρ', F', i', h'⟩
      have hsq : SqL X.K H' p (bs.map (·.1)) := SqL.of (i'.st.hh p _ hp1 fun ps => lst_ne ps)
      by_cases hlt : j < bs.length
      · refine .inr ⟨walk_list.goes j H' (by rw [List.length_map]; exact hlt) hsq, fun σ2 H2 => ∃ ρ2 F2, In0 G F H1 F2 H2 σ2 ρ2 ∧ PostO G E F H1 D (forF i (bs.drop (j + 1)) ρ2), fun σ2 H2 ⟨ρ2, F2, i2, h2⟩ => ⟨bs.length - (j + 1), by omega, rfl, by omega, ρ2, F2, i2, h2⟩, fun x H2 y => ?_⟩
        obtain ⟨y1, y2⟩ := y
        have y3 := y2 _ hsq
        rw [List.getElem?_map, List.getElem?_eq_getElem hlt] at y3
        have ex : bs[j].1 = x := Option.some.inj y3
        subst y1 ex
        rw [List.drop_eq_getElem_cons hlt] at h'
        refine ⟨bs[j], List.getElem_mem hlt, F, H1, ρ'.set i (.raw bs[j].1), F', ⟨i'.st, i'.env.raw i _, fun k q s o h1 h2 h3 h4 => ?_⟩, ?_⟩
        · have nk : i ≠ k := fun z => by
            subst z
            rw [List.getElem?_set_self'] at h1
            cases e1 : ρ'[i]? with
            | none =>
              rw [e1] at h1
              cases h1
            | some s0 =>
              rw [e1] at h1
              cases h1
              cases h2
          rw [List.getElem?_set_ne nk] at h1 h3
          exact i'.ow k q s o h1 h2 h3 h4
        · have h4 : PostO G E F H1 D (match bs[j].2 (ρ'.set i (.raw bs[j].1)) with
            | .nx ρ' => forF i (bs.drop (j + 1)) ρ'
            | .ct ρ' => forF i (bs.drop (j + 1)) ρ'
            | .brk ρ' => .nx ρ'
            | .ret d => .ret d
            | .err c => .err c
            | .bad => .bad) := h'
          cases q2 : bs[j].2 (ρ'.set i (.raw bs[j].1)) with
          | nx ρ2 =>
            rw [q2] at h4
            exact fun σ2 F3 H3 i3 => ⟨ρ2, F3, i3, h4⟩
          | ct ρ2 =>
            rw [q2] at h4
            exact fun σ2 F3 H3 i3 => ⟨ρ2, F3, i3, h4⟩
          | brk ρ2 =>
            rw [q2] at h4
            exact fun σ2 F3 H3 i3 => h4 σ2 F3 H3 i3
          | ret d =>
            rw [q2] at h4
            exact h4
          | err c =>
            rw [q2] at h4
            exact h4
          | bad =>
            rw [q2] at h4
            exact h4
      · have e : j = bs.length := by omega
        subst e
        rw [List.drop_length] at h'
        refine .inl ⟨?_, h' σ' F' H' i'⟩
        have := walk_list.stops H' hsq
        rw [List.length_map] at this
        exact this
    · exact (show False from h0).elim
/-- x(..), x a slot that holds this def -/
@[reducible] def rRawF (i : Nat) (v : V) (f : Rho → R (List D)) : Rho → R (List D) := fun ρ => match ρ[i]? with
  | some (.raw u) => if u = v then f ρ else .bad
  | _ => .bad
theorem e_callRaw (i : Nat) {k n : Nat} {ps : List Str} {m : List D → R D} {x g : Str} {f : Addr} {p : Pos} {a : Expr} {es : List Expr} {fs : Rho → R (List D)} (h : Df X.prog X.w G X.mg X.base g k ps m) (hgl : X.mg g = some (.ref f)) (hr : Room k X.A) (hx : Passes (L2N.CX X.prog X.w) X E) (ha : PA X (a :: es) (tA G E fs)) (hn : ps.length = n := by rfl) (hK : X.K = G.K := by rfl)
    (hN : X.N[i]? = some x := by rfl) (hv : Vis X.env.scope x := by first | exact Or.inl rfl | exact Or.inr (Or.inl rfl) | exact Or.inr (Or.inr rfl)) (hdb : (x == ("__debug__" : Str)) = false := by decide) (hcd : (x == ("__classdict__" : Str)) = false := by decide)
    (he : starEach (a :: es) X.env = (false, eval a X.env) :: starEach es X.env := by rfl) (hpl : (backTo pos (starEach es X.env)).any (·.1) = false := by rfl) : PE X (.Call (.Name x p) (a :: es) [] pos) (tE G E (rCall (rRawF i (.ref f) (rArgs n fs)) m)) := by
  subst hn
  obtain ⟨f', fd, h1, h2, h3, h4⟩ := h.ex
  rw [hgl] at h2
  have ef : f = f' := by
    cases h2
    rfl
  subst ef
  rw [← hK] at h1 h3 h4
  refine pe_imp (pe_callL (i := i) (CX := L2N.CX X.prog X.w) h1 hr hN hv h3 h4 .nil hx ha hdb hcd he hpl) fun σ H Q ⟨ρ, F, e, b, h⟩ => ?_
  have h0 : PostR G (Dd G.K) E F H Q ((match ρ[i]? with | some (.raw u) => if u = V.ref f then (fs ρ).bind fun ds => if ds.length = ps.length then .ok ds else .bad else .bad | _ => .bad : R (List D)).bind m) := h
  have hraw : ∃ u, ρ[i]? = some (.raw u) := by
    cases q : ρ[i]? with
    | none =>
      rw [q] at h0
      exact (show False from h0).elim
    | some s =>
      rw [q] at h0
      cases s with
      | raw u => exact ⟨u, rfl⟩
      | no => exact (show False from h0).elim
      | dat d => exact (show False from h0).elim
      | own ds => exact (show False from h0).elim
      | tab hs t => exact (show False from h0).elim
  obtain ⟨u, hu⟩ := hraw
  rw [hu] at h0
  have h0' : PostR G (Dd G.K) E F H Q ((if u = V.ref f then (fs ρ).bind fun ds => if ds.length = ps.length then .ok ds else .bad else .bad : R (List D)).bind m) := h0
  by_cases ef : u = V.ref f
  · rw [if_pos ef] at h0'
    have hi : i < σ.length := by
      rw [e.len]
      exact (List.getElem?_eq_some_iff.mp hu).1
    have hsl := e.at_ i _ σ[i] hu (List.getElem?_eq_getElem hi)
    refine ⟨by rw [List.getElem?_eq_getElem hi, show σ[i] = some u from hsl, ef], ρ, F, e, b, ?_⟩
    have h5 : PostR G (Dd G.K) E F H Q ((fs ρ).bind fun ds => (if ds.length = ps.length then .ok ds else .bad : R (List D)).bind m) := by
      cases q : fs ρ with
      | ok ds =>
        rw [q] at h0'
        exact h0'
      | err c =>
        rw [q] at h0'
        exact h0'
      | bad =>
        rw [q] at h0'
        exact h0'
    refine PostR.seq h5 fun xs vs F1 H1 _ s1 d1 h6 => ?_
    by_cases ql : xs.length = ps.length
    · rw [if_pos ql] at h6
      rw [List.append_nil]
      exact ⟨by rw [d1.length]; exact ql, F1, xs, s1.base, d1, h6⟩
    · rw [if_neg ql] at h6
      exact (show False from h6).elim
  · rw [if_neg ef] at h0'
    exact (show False from h0').elim
end
end Py

namespace Py
open PySem PySem.Spec PyProof.Rows L2 LamX
/-! ### a def that hands out a new list; f(..).append(e) -/
def PostN (G : Gb) (E : XK) (F H : Hp) (Q : VK) : R (List D) → Prop
  | .ok ds => ∀ p vs F' H', Step G F H F' H' → (∀ o, H p = some o → ∃ ps, o = .tbl ps) → F' p = none → H' p = some (.lst vs) → DdAll G.K F' vs ds → Q (.ref p) H'
  | .err c => ∀ F' H', Step G F H F' H' → E (.ref (G.xc c)) none H'
  | .bad => False
def spN (G : Gb) (n : Nat) (m : List D → R (List D)) : Sp := fun vs H Q E => vs.length = n ∧ ∃ F ds, Base G F H ∧ DdAll G.K F vs ds ∧ PostN G E F H Q (m ds)
section
variable {X : Cx} {G : Gb} {E : XK} {pos : Pos} {st : Stmt} {rest : List Stmt} {g g1 g2 : Rho → O}
/-- the block ends with return of slot i -/
def tSN (G : Gb) (E : XK) (i : Nat) (g : Rho → O) : TS := fun D σ H => ∃ F0 H0 ρ F, In0 G F0 H0 F H σ ρ ∧ PostO G E F0 H0 { D with nx := fun σ' H' => ∃ v, σ'[i]? = some (some v) ∧ D.rt v H' } (g ρ)
theorem ssN_cons {i : Nat} (h1 : PS X st (tS G E g1)) (h2 : PSs X rest (tSN G E i g2)) : PSs X (st :: rest) (tSN G E i (gSeq g1 g2)) :=
  pss_imp (pss_cons h1 h2) fun D σ H ⟨F0, H0, ρ, F, i0, h⟩ => ⟨F0, H0, ρ, F, i0, by
    have h0 : PostO G E F0 H0 { D with nx := fun σ' H' => ∃ v, σ'[i]? = some (some v) ∧ D.rt v H' } (oS (g1 ρ) g2) := h
    cases q : g1 ρ with
    | nx ρ' =>
      rw [q] at h0
      exact fun σ' F' H' i' => ⟨F0, H0, ρ', F', i', h0⟩
    | ret d =>
      rw [q] at h0
      exact h0
    | err c =>
      rw [q] at h0
      exact h0
    | brk ρ' =>
      rw [q] at h0
      exact h0
    | ct ρ' =>
      rw [q] at h0
      exact h0
    | bad =>
      rw [q] at h0
      exact h0⟩
theorem ssN_ret (i : Nat) {x : Str} {px : Pos} (hN : X.N[i]? = some x := by rfl) (hv : Vis X.env.scope x := by first | exact Or.inl rfl | exact Or.inr (Or.inl rfl) | exact Or.inr (Or.inr rfl)) (hd : (x == ("__debug__" : Str)) = false := by decide) (hcd : (x == ("__classdict__" : Str)) = false := by decide) :
    PSs X [.Return (some (.Name x px)) pos] (tSN G E i .nx) :=
  pss_imp (pss_one (ps_ret (pe_var hN hv hd hcd))) fun D σ H ⟨F0, H0, ρ, F, i0, h⟩ => h σ F H i0
@[reducible] def runN (n : Nat) (g : Rho → O) (i : Nat) (ds : List D) : R (List D) := match g (startR n ds) with
  | .nx ρ => getO ρ i
  | .err c => .err c
  | _ => .bad
theorem body_okN {N : List Str} {i : Nat} {vs : List V} {ds : List D} {F H : Hp} {Q : VK} (b : Base G F H) (hd : DdAll G.K F vs ds) (h : PostN G E F H Q (runN N.length g i ds)) : tSN G E i g { nx := fun _ H' => Q .non H', rt := Q } (L2.start N vs) H := by
  refine ⟨F, H, startR N.length ds, F, ⟨.refl b, env_start hd, fun i p s o h1 h2 _ _ => (noOwn_start h1 h2).elim⟩, ?_⟩
  have h1 : PostN G E F H Q (match g (startR N.length ds) with
    | .nx ρ => getO ρ i
    | .err c => .err c
    | _ => .bad) := h
  cases q : g (startR N.length ds) with
  | nx ρ =>
    rw [q] at h1
    have h2 : PostN G E F H Q (getO ρ i) := h1
    intro σ' F' H' i'
    cases q2 : getO ρ i with
    | ok es =>
      rw [q2] at h2
      obtain ⟨p, ws, e1, e2, e3, e4⟩ := i'.env.getOwn (getO_ok q2)
      exact ⟨.ref p, e1, h2 p ws F' H' i'.st (fun o ho => i'.ow i p _ o (getO_ok q2) rfl e1 ho) e2 e3 e4⟩
    | err c =>
      unfold getO at q2
      split at q2 <;> cases q2
    | bad =>
      rw [q2] at h2
      exact (show False from h2).elim
  | err c =>
    rw [q] at h1
    exact fun F' H' s => h1 F' H' s
  | ret d =>
    rw [q] at h1
    exact (show False from h1).elim
  | brk ρ =>
    rw [q] at h1
    exact (show False from h1).elim
  | ct ρ =>
    rw [q] at h1
    exact (show False from h1).elim
  | bad =>
    rw [q] at h1
    exact h1
structure DfN (P : Program) (w : World) (G : Gb) (mg : Str → Option Value) (base : Heap) (x : Str) (k : Nat) (ps : List Str) (m : List D → R (List D)) : Prop where
  ex : ∃ (f : Addr) (fd : FuncData), FnOk P w G.K mg base (L2N.CX P w) k f fd ps (spN G ps.length m) ∧ mg x = some (.ref f) ∧ PySem.W.keepIn G.K (.ref f) = true ∧ Binds G.K fd ps []
theorem DefAt.dfN {P : Program} {w : World} {mg : Str → Option Value} {base : Heap} {x : Str} {st : Stmt} {N ps : List Str} {k n i : Nat} (h : DefAt G mg x st) (S : FnScope N ps (defScope st)) (hn : N.length = n)
    (hbi : ∀ fd, FunD G.K x x (defArgs st) (defBody st) (defScope st) [] [] (He.ga G.K x) fd → Binds G.K fd ps [])
    (hb : ∀ (A : Around) (outer : List Env) (s : Shared) (H : Hp) (E : XK), Room k (A.deeper (envOfC x (defScope st) s.heap.objs.size (He.ga G.K x) (.ref (He.codeOf G.K (x, none))))) →
      PSs (cxOf (L2N.CX P w) P w G.K mg base N x (defScope st) (He.ga G.K x) (.ref (He.codeOf G.K (x, none))) A outer s H E) (defBody st) (tSN G E i g)) :
    DfN P w G mg base x (k + 1) ps (runN n g i) := by
  obtain ⟨fd, Fd⟩ := h.ex
  refine ⟨He.ga G.K x, fd, ?_, h.gl, Fd.kp, hbi fd Fd⟩
  subst hn
  obtain ⟨oc, od, dV, kV, doc, pm, an, cdv, ct, osl, rfl, lk, hcd, _, _⟩ := Fd.ex
  obtain ⟨c, rfl⟩ := He.codeIn_ref hcd
  have ec : He.codeOf G.K (x, none) = c := He.codeOf_eq (p := (x, none)) lk rfl
  subst ec
  exact fn_of lk hcd S (fun vs H Q E h => h.1) fun A outer s H vs Q E hr ⟨_, F, ds, b, hd, h⟩ => ⟨_, hb A outer s H E hr, body_okN b hd h⟩
/-- a list that nobody else knows is changed -/
theorem In0.chFree {F0 H0 F H : Hp} {σ : L2.St} {ρ : Rho} (i : In0 G F0 H0 F H σ ρ) {p : Addr} {vs ws : List V} (hp : H p = some (.lst vs)) (hF : F p = none) (h0 : ∀ o, H0 p = some o → ∃ ps, o = .tbl ps) (hn : ∀ (k : Nat) (s : Sl), ρ[k]? = some s → s.isOwn = true → σ[k]? ≠ some (some (.ref p))) : In0 G F0 H0 F (upd H p (.lst ws)) σ ρ := by
  have hx : ∀ a u, a ≠ p → H a = some u → upd H p (.lst ws) a = some u := fun a u n h => by
    rw [upd_ne n]
    exact h
  refine ⟨⟨i.st.ff, fun a u h z => ?_, ⟨fun a u h => hx a u (ne_of_none h hF) (i.base.sub a u h), i.base.nt, Tabs.upd i.base.tab hp⟩, i.st.own⟩, ⟨i.env.len, fun k s ov h1 h2 => ?_, i.env.apart⟩, i.ow⟩
  · by_cases e : a = p
    · subst e
      obtain ⟨ps, e⟩ := h0 u h
      exact (z ps e).elim
    · exact hx a u e (i.st.hh a u h z)
  · have z := i.env.at_ k s ov h1 h2
    cases s with
    | no => trivial
    | dat d => exact z
    | own es =>
      obtain ⟨r, xs, q1, q2, q3, q4⟩ := z
      have nr : r ≠ p := fun y => by
        subst y
        rw [q1] at h2
        exact hn k _ h1 rfl h2
      exact ⟨r, xs, q1, q2, hx _ _ nr q3, q4⟩
    | raw v => exact z
    | tab hs t => exact z
variable {a b : Expr} {es : List Expr} {fs : Rho → R (List D)} {fb : Rho → R D}
@[reducible] def gNewApp (fs : Rho → R (List D)) (n : Nat) (m : List D → R (List D)) (fb : Rho → R D) : Rho → O := fun ρ => oB (fs ρ) fun ds => if ds.length = n then oB (m ds) fun es => oB (fb ρ) fun _ => if es.length < maxL then .nx ρ else .bad else .bad
theorem s_newApp {k : Nat} {ps : List Str} {m : List D → R (List D)} {x : Str} {p pa pc pcc : Pos} (h : DfN X.prog X.w G X.mg X.base x k ps m) (hr : Room k X.A) (hx : Passes (L2N.CX X.prog X.w) X E) (ha : PA X (a :: es) (tA G E fs)) (hb : PE X b (tE G E fb)) (hK : X.K = G.K := by rfl)
    (hg : Gl X x := by rfl) (hdb : (x == ("__debug__" : Str)) = false := by decide) (he : starEach (a :: es) X.env = (false, eval a X.env) :: starEach es X.env := by rfl) (hpl : (backTo pcc (starEach es X.env)).any (·.1) = false := by rfl)
    (hm : ∀ {to t : TE}, PE X (.Call (.Name x p) (a :: es) [] pcc) to → PE X b t → PE X (.Call (.Attribute (.Call (.Name x p) (a :: es) [] pcc) "append" pa) [b] [] pc) (tBM X.K "list" rAppend to (tCons t tNil)))
    (hs : swapsWith (.Call (.Attribute (.Call (.Name x p) (a :: es) [] pcc) "append" pa) [b] [] pc) none pos.line X.env = pure false := by rfl) :
    PS X (.Expr (.Call (.Attribute (.Call (.Name x p) (a :: es) [] pcc) "append" pa) [b] [] pc) pos) (tS G E (gNewApp fs ps.length m fb)) := by
  obtain ⟨f, fd, h1, h2, h3, h4⟩ := h.ex
  rw [← hK] at h1 h3 h4
  refine ps_imp (ps_expr (hm (pe_call (CX := L2N.CX X.prog X.w) h1 hr hg h2 h3 h4 .nil hx ha hdb he hpl) hb) hs) fun D σ H ⟨F0, H0, ρ, F, i0, h⟩ => ?_
  refine ⟨ρ, F, i0.env, i0.base, PostO.seq h i0.st fun ds vs F1 H1 _ s1 d1 h5 => ?_⟩
  have h6 : PostO G E F0 H0 D (if ds.length = ps.length then oB (m ds) fun es => oB (fb ρ) fun _ => if es.length < maxL then .nx ρ else .bad else .bad) := h5
  split at h6
  · rename_i ql
    rw [List.append_nil]
    have i1 := i0.step s1
    refine ⟨by rw [d1.length]; exact ql, F1, ds, s1.base, d1, ?_⟩
    cases q : m ds with
    | bad =>
      rw [q] at h6
      exact h6
    | err c =>
      rw [q] at h6
      exact fun F' H' s => h6 F' H' (i1.st.trans s)
    | ok es =>
      rw [q] at h6
      have h7 : PostO G E F0 H0 D (oB (fb ρ) fun _ => if es.length < maxL then .nx ρ else .bad) := h6
      intro r ws F2 H2 s2 hnew hF2 hr2 hd2
      have i2 := i1.step s2
      refine ⟨.inl ⟨rfl, ws, SqL.of hr2⟩, ρ, F2, i2.env, i2.base, PostO.seq h7 i2.st fun d v F3 H3 _ s3 d3 h8 => ?_⟩
      have h9 : PostO G E F0 H0 D (if es.length < maxL then .nx ρ else .bad) := h8
      split at h9
      · rename_i qm
        have i3 := i2.step s3
        have hr3 := s3.hh r _ hr2 (fun ps => lst_ne ps)
        refine ⟨r, ws, v, rfl, rfl, hr3, by rw [hd2.length]; exact maxL_lt (Nat.le_of_lt qm), h9 σ F3 _ (i3.chFree hr3 (s3.own r _ hr2 (fun ps => lst_ne ps) hF2) (fun o ho => ?_) fun k s hk ho hσ => ?_)⟩
        · by_cases qt : ∃ ps, o = .tbl ps
          · exact qt
          · exact hnew o (i1.st.hh r o ho fun ps z => qt ⟨ps, z⟩)
        · cases s with
          | own es' =>
            obtain ⟨p', vs', e1, e2, e3, e4⟩ := i1.env.getOwn hk
            rw [hσ] at e1
            cases e1
            obtain ⟨ps, z⟩ := hnew _ e3
            cases z
          | no => cases ho
          | dat d => cases ho
          | raw v => cases ho
          | tab hs t => cases ho
      · exact (show False from h9).elim
  · exact (show False from h6).elim
/-! ### str(..) of a truth, a number, a text -/
def rStrA : List V → Hp → VK → Prop := fun xs H Q => (∃ b, xs = [.bl b] ∧ Q (.str (if b then "True" else "False")) H) ∨ ((∃ i, xs = [.int i] ∧ i.natAbs.log2 < 1920 ∧ Q (.str (toString i)) H) ∨ ∃ a, xs = [.str a] ∧ Q (.str a) H)
theorem cr_strA : CallR X (.type "str") rStrA := by
  intro pins s σ H xs us Q I r h
  rcases h with ⟨b, rfl, q⟩ | h | h
  · obtain ⟨u, rfl, r1⟩ := vals1 r
    cases r1
    exact PySem.P.str_of_bool ⟨.str _, H, I.tok _, ⟨_, rfl⟩, q⟩
  · exact call_str_int pins s σ H xs us Q I r h
  · exact SkE.call_str_str pins s σ H xs us Q I r h
@[reducible] def pStr : List D → R D
  | [.bool b] => .ok (.str (if b then "True" else "False"))
  | [.int i] => if i.natAbs < 1000000000 then .ok (.str (toString i)) else .bad
  | [.str a] => .ok (.str a)
  | _ => .bad
theorem pStr_2 {x y : D} {t : List D} : pStr (x :: y :: t) = .bad := by cases x <;> rfl
theorem c_strA : CallD G rStrA pStr := fun E F H xs ds Q bs hd h => by
  match xs, ds, hd, h with
  | _, [.bool b], .cons (.bl _) .nil, h => exact .inl ⟨b, rfl, PostR.val (show PostR G (Dd G.K) E F H Q (.ok (.str (if b then "True" else "False"))) from h) bs (.str _)⟩
  | _, [.int i], .cons (.int _) .nil, h =>
    have h1 : PostR G (Dd G.K) E F H Q (if i.natAbs < 1000000000 then .ok (.str (toString i)) else .bad) := h
    split at h1
    · rename_i q
      refine .inr (.inl ⟨i, rfl, ?_, h1.val bs (.str _)⟩)
      have : i.natAbs.log2 ≤ i.natAbs := Nat.log2_le_self _
      by_cases z : i.natAbs = 0
      · rw [z]
        decide
      · exact (Nat.log2_lt z).mpr (Nat.lt_of_lt_of_le q (by
          have h2 : (1000000000 : Nat) ≤ 2 ^ 30 := by decide
          exact Nat.le_trans h2 (Nat.pow_le_pow_right (by decide) (by decide))))
    · exact (show False from h1).elim
  | _, [.str a], .cons (.str _) .nil, h => exact .inr (.inr ⟨a, rfl, PostR.val (show PostR G (Dd G.K) E F H Q (.ok (.str a)) from h) bs (.str _)⟩)
  | _, [], _, h => exact (show False from h).elim
  | _, [.none], _, h => exact (show False from h).elim
  | _, [.list _], _, h => exact (show False from h).elim
  | _, [.tuple _], _, h => exact (show False from h).elim
  | _, [.dict _], _, h => exact (show False from h).elim
  | _, _ :: _ :: _, _, h =>
    rw [pStr_2] at h
    exact (show False from h).elim
theorem e_strc (hm : X.mg "str" = none) {p : Pos} (ha : PA X (a :: es) (tA G E fs)) (hg : Gl X "str" := by rfl)
    (he : starEach (a :: es) X.env = (false, eval a X.env) :: starEach es X.env := by rfl) (hpl : (backTo pos (starEach es X.env)).any (·.1) = false := by rfl) : PE X (.Call (.Name "str" p) (a :: es) [] pos) (tE G E (rCall fs pStr)) :=
  e_callTy (x := "str") (r := rStrA) (T := "str") cr_strA c_strA hm (by decide +kernel) ha hg (by decide) (by decide) he hpl
end
end Py

namespace Py
open PySem PySem.Spec PyProof.Rows L2
/-! ### i → 5 i + 1 goes round all of 2 ^ p, from anywhere -/
def it5 (i : Nat) : Nat → Nat
  | 0 => i
  | k + 1 => it5 i k * 5 + 1
theorem it5_add (i a : Nat) : ∀ b, it5 i (a + b) = it5 (it5 i a) b
  | 0 => rfl
  | b + 1 => by
    show it5 i (a + b) * 5 + 1 = _
    rw [it5_add i a b]
    rfl
/-- 2 ^ p steps add an odd many of 2 ^ p -/
theorem it5_leap : ∀ p, ∃ c, ∀ x, it5 x (2 ^ p) = x + 2 ^ p * ((2 * c + 1) * (4 * x + 1))
  | 0 => ⟨0, fun x => by
    show x * 5 + 1 = _
    simp only [Nat.pow_zero]
    omega⟩
  | p + 1 => by
    obtain ⟨c, h⟩ := it5_leap p
    refine ⟨c + 2 ^ p * ((2 * c + 1) * (2 * c + 1)), fun x => ?_⟩
    rw [show 2 ^ (p + 1) = 2 ^ p + 2 ^ p by omega, it5_add, h, h]
    generalize 2 ^ p = q
    grind
theorem it5_all : ∀ p i j, ∃ b, b < 2 ^ p ∧ it5 i b % 2 ^ p = j % 2 ^ p
  | 0, i, j => ⟨0, by decide, by simp [Nat.mod_one]⟩
  | p + 1, i, j => by
    obtain ⟨b, hb, e⟩ := it5_all p i j
    have e2 : 2 ^ (p + 1) = 2 * 2 ^ p := by omega
    by_cases q : it5 i b % 2 ^ (p + 1) = j % 2 ^ (p + 1)
    · exact ⟨b, by omega, q⟩
    · obtain ⟨c, hc⟩ := it5_leap p
      refine ⟨b + 2 ^ p, by omega, ?_⟩
      rw [it5_add, hc]
      generalize it5 i b = x at e q
      obtain ⟨d, hd⟩ : ∃ d, (2 * c + 1) * (4 * x + 1) = 2 * d + 1 := ⟨c * (4 * x + 1) + 2 * x, by grind⟩
      rw [hd]
      have hpos : 0 < 2 ^ p := Nat.two_pow_pos p
      rw [e2] at q ⊢
      generalize 2 ^ p = n at e q hpos
      have m1 := Nat.mod_mul_right_mod x n 2
      have h1 := Nat.mod_mul (x := x) (a := n) (b := 2)
      have h2 := Nat.mod_mul (x := j) (a := n) (b := 2)
      have h3 := Nat.mod_mul (x := x + n * (2 * d + 1)) (a := n) (b := 2)
      rw [Nat.mul_comm n 2] at h1 h2 h3
      rw [Nat.add_mul_mod_self_left, Nat.add_mul_div_left _ _ hpos] at h3
      rw [h3, h2, e]
      rw [h1, h2, e] at q
      have : x / n % 2 ≠ j / n % 2 := fun z => q (by rw [z])
      have : (x / n + (2 * d + 1)) % 2 = j / n % 2 := by omega
      rw [this]
/-- a mask of a table: all ones -/
def MaskP (m : Nat) : Prop := ∃ p, m + 1 = 2 ^ p
theorem lcgI_it5 (m i : Nat) (hi : i ≤ m) : ∀ k, lcgI m i k = it5 i k % (m + 1)
  | 0 => (Nat.mod_eq_of_lt (Nat.lt_succ_of_le hi)).symm
  | k + 1 => by
    show (lcgI m i k * 5 + 1) % (m + 1) = (it5 i k * 5 + 1) % (m + 1)
    rw [lcgI_it5 m i hi k, Nat.add_mod, Nat.mul_mod, Nat.mod_mod, ← Nat.mul_mod, ← Nat.add_mod]
theorem lcg_meets {m : Nat} (hm : MaskP m) {i j : Nat} (hi : i ≤ m) (hj : j ≤ m) : ∃ k, k ≤ m ∧ lcgI m i k = j := by
  obtain ⟨p, e⟩ := hm
  obtain ⟨b, hb, q⟩ := it5_all p i j
  refine ⟨b, by omega, ?_⟩
  rw [lcgI_it5 m i hi, e, q, ← e]
  exact Nat.mod_eq_of_lt (Nat.lt_succ_of_le hj)
/-- every slot lies on the way, early enough -/
theorem way_meets {m : Nat} (hm : MaskP m) (h : Int) {j : Nat} (hj : j ≤ m) : ∃ n k, n ≤ m + 12 ∧ k ≤ 10 * n ∧ nth m (runAt m (SetTable.bits h % (m + 1)) (SetTable.bits h)) k = runAt m j (SetTable.bits h / 32 ^ n) ∧ runI m (SetTable.bits h) n = j := by
  obtain ⟨c, hc, e⟩ := lcg_meets hm (runI_le m (SetTable.bits h) 12) hj
  obtain ⟨k, hk, q⟩ := run_nth m (SetTable.bits h) (12 + c)
  rw [runI_tail (bits_lt h), e] at q
  exact ⟨12 + c, k, by omega, hk, q, by rw [runI_tail (bits_lt h), e]⟩
theorem way_at {m : Nat} (hm : MaskP m) (h : Int) {j : Nat} (hj : j ≤ m) : ∃ k, k < 10 * SetTable.turns m ∧ way m h k = j := by
  obtain ⟨n, k, h1, h2, q, _⟩ := way_meets hm h hj
  refine ⟨k, by unfold SetTable.turns; omega, ?_⟩
  show (nth m (runAt m (SetTable.bits h % (m + 1)) (SetTable.bits h)) k).j = j
  rw [q]
  rfl
theorem way_in (m : Nat) (h : Int) (k : Nat) : way m h k ≤ m := by
  have hi : SetTable.bits h % (m + 1) ≤ m := Nat.le_of_lt_succ (Nat.mod_lt _ (Nat.succ_pos _))
  have hr := runEnd_bd hi
  have := nth_in (m := m) k (runAt m (SetTable.bits h % (m + 1)) (SetTable.bits h)) (show SetTable.bits h % (m + 1) + (SetTable.runEnd m (SetTable.bits h % (m + 1)) - SetTable.bits h % (m + 1)) ≤ m by omega)
  exact Nat.le_trans (Nat.le_add_right _ _) this
/-- the first step of the way at a place that is not taken -/
theorem way_first {m : Nat} (hm : MaskP m) (h : Int) {taken : Nat → Prop} {j : Nat} (hj : j ≤ m) (hf : ¬ taken j) : ∃ k, k < 10 * SetTable.turns m ∧ ¬ taken (way m h k) ∧ ∀ k', k' < k → taken (way m h k') := by
  obtain ⟨k0, h0, e0⟩ := way_at hm h hj
  obtain ⟨k, h1, h2, h3⟩ := st_least (p := fun k => ¬ taken (way m h k)) k0 (by show ¬ taken (way m h k0); rw [e0]; exact hf)
  exact ⟨k, by omega, h2, fun k' hk => Classical.byContradiction (h3 k' hk)⟩
end Py

namespace Py
open PySem PySem.Spec PyProof.Rows L2
/-! ### how large a table is -/
theorem size_go (n : Nat) : ∀ f q, ∃ p, SetTable.sizeAbove.go n f (2 ^ q) = 2 ^ p ∧ q ≤ p ∧ (n < 2 ^ (q + f) → n < 2 ^ p) ∧ (p = q ∨ 2 ^ p ≤ 2 * n)
  | 0, q => ⟨q, rfl, Nat.le_refl _, id, .inl rfl⟩
  | f + 1, q => by
    show ∃ p, (if 2 ^ q ≤ n then SetTable.sizeAbove.go n f (2 ^ q * 2) else 2 ^ q) = 2 ^ p ∧ _
    by_cases h : 2 ^ q ≤ n
    · rw [if_pos h]
      obtain ⟨p, e, h1, h2, h3⟩ := size_go n f (q + 1)
      rw [Nat.pow_succ] at e
      refine ⟨p, e, by omega, fun z => h2 (by rw [show q + 1 + f = q + (f + 1) by omega]; exact z), .inr ?_⟩
      rcases h3 with z | z
      · rw [z, Nat.pow_succ]
        omega
      · exact z
    · rw [if_neg h]
      exact ⟨q, rfl, Nat.le_refl _, fun _ => by omega, .inl rfl⟩
theorem size_above (n : Nat) (hn : n < 2 ^ 67) : ∃ p, SetTable.sizeAbove n = 2 ^ p ∧ 3 ≤ p ∧ n < 2 ^ p ∧ (p = 3 ∨ 2 ^ p ≤ 2 * n) := by
  obtain ⟨p, e, h1, h2, h3⟩ := size_go n 64 3
  exact ⟨p, e, h1, h2 hn, h3⟩
/-! ### laying all anew -/
structure Lay (m : Nat) (hs : List Int) (ow : Array (Option Nat)) : Prop where
  sz : ow.size = m + 1
  is : ∀ j k, j ≤ m → oAt ow j = some k → ∃ h c, hs[k]? = some h ∧ way m h c = j ∧ ∀ c', c' < c → oAt ow (way m h c') ≠ none
  inj : ∀ j j' k, j ≤ m → j' ≤ m → oAt ow j = some k → oAt ow j' = some k → j = j'
  all : ∀ k, k < hs.length → ∃ j, j ≤ m ∧ oAt ow j = some k
theorem lay_none (m : Nat) : Lay m [] (Array.replicate (m + 1) none) where
  sz := by simp
  is := fun j k hj e => by rw [oAt_init hj] at e; cases e
  inj := fun j j' k hj _ e _ => by rw [oAt_init hj] at e; cases e
  all := fun k hk => by cases hk
theorem Lay.free {m : Nat} {hs : List Int} {ow : Array (Option Nat)} (W : Lay m hs ow) (hl : hs.length ≤ m) : ∃ j, j ≤ m ∧ oAt ow j = none := by
  refine Classical.byContradiction fun hno => ?_
  have hso : ∀ j, j ≤ m → ∃ k, oAt ow j = some k := fun j hj => by
    cases q : oAt ow j with
    | none => exact (hno ⟨j, hj, q⟩).elim
    | some k => exact ⟨k, rfl⟩
  have := nat_nodup_len ((List.range (m + 1)).map fun j => (oAt ow j).getD 0) (List.range hs.length) ?_ ?_
  · rw [List.length_map, List.length_range, List.length_range] at this
    omega
  · refine List.pairwise_map.mpr (List.Pairwise.imp_of_mem (R := (· < ·)) (fun {a b} ha hb hab e => ?_) List.pairwise_lt_range)
    have ha := List.mem_range.mp ha
    have hb := List.mem_range.mp hb
    obtain ⟨k, ek⟩ := hso a (by omega)
    obtain ⟨k', ek'⟩ := hso b (by omega)
    rw [ek, ek'] at e
    have e : k = k' := e
    subst e
    have := W.inj a b k (by omega) (by omega) ek ek'
    omega
  · intro x hx
    obtain ⟨j, hj, rfl⟩ := List.mem_map.mp hx
    have hj := List.mem_range.mp hj
    obtain ⟨k, ek⟩ := hso j (by omega)
    obtain ⟨h, c, e, _⟩ := W.is j k (by omega) ek
    rw [ek]
    exact List.mem_range.mpr (List.getElem?_eq_some_iff.mp e).1
theorem free_way {m : Nat} (hm : MaskP m) (ow : Array (Option Nat)) (h : Int) {j : Nat} (hj : j ≤ m) (hf : oAt ow j = none) :
    ∃ c, SetTable.layClean.free m ow (SetTable.turns m) (SetTable.bits h % (m + 1)) (SetTable.bits h) = some (way m h c) ∧ oAt ow (way m h c) = none ∧ ∀ c', c' < c → oAt ow (way m h c') ≠ none := by
  obtain ⟨n, _, hn, _, _, er⟩ := way_meets hm h hj
  have ew : way m h (off m (SetTable.bits h % (m + 1)) (SetTable.bits h) n) = j := by
    show (nth m (runAt m _ _) (off m _ _ n)).j = j
    rw [nth_off, itL_run, er]
    rfl
  obtain ⟨c, c1, c2, c3⟩ := st_least (p := fun c => oAt ow (way m h c) = none) _ (show oAt ow (way m h (off m (SetTable.bits h % (m + 1)) (SetTable.bits h) n)) = none by rw [ew]; exact hf)
  refine ⟨c, free_spec m ow _ n _ _ c (by unfold SetTable.turns; omega) c1 (fun k hk => ?_) ?_, c2, c3⟩
  · have := c3 k hk
    show (oAt ow (way m h k)).isNone = false
    cases q : oAt ow (way m h k) with
    | none => exact (this q).elim
    | some _ => rfl
  · show (oAt ow (way m h c)).isNone = true
    rw [c2]
    rfl
theorem Lay.step {m : Nat} (hm : MaskP m) {hs : List Int} {ow : Array (Option Nat)} (W : Lay m hs ow) (hl : hs.length ≤ m) (h : Int) :
    ∃ j, SetTable.layClean.free m ow (SetTable.turns m) (SetTable.bits h % (m + 1)) (SetTable.bits h) = some j ∧ Lay m (hs ++ [h]) (ow.setIfInBounds j (some hs.length)) := by
  obtain ⟨j0, hj0, hf0⟩ := W.free hl
  obtain ⟨c, e, h1, h2⟩ := free_way hm ow h hj0 hf0
  have hw := way_in m h c
  refine ⟨way m h c, e, ?_⟩
  have self : oAt (ow.setIfInBounds (way m h c) (some hs.length)) (way m h c) = some hs.length := oAt_set_self _ (by rw [W.sz]; omega)
  have other : ∀ j, j ≠ way m h c → oAt (ow.setIfInBounds (way m h c) (some hs.length)) j = oAt ow j := fun j hj => oAt_set_ne _ hj
  have keep : ∀ j, oAt ow j ≠ none → oAt (ow.setIfInBounds (way m h c) (some hs.length)) j ≠ none := fun j hj => by
    rw [other j fun z => hj (by rw [z]; exact h1)]
    exact hj
  have old : ∀ j k, j ≤ m → oAt ow j = some k → k < hs.length := fun j k hj ek => by
    obtain ⟨_, _, e, _⟩ := W.is j k hj ek
    exact (List.getElem?_eq_some_iff.mp e).1
  refine ⟨by simp [W.sz], fun j k hj ek => ?_, fun j j' k hj hj' ek ek' => ?_, fun k hk => ?_⟩
  · by_cases q : j = way m h c
    · rw [q, self] at ek
      cases ek
      exact ⟨h, c, by simp, q.symm, fun c' hc => keep _ (h2 c' hc)⟩
    · rw [other j q] at ek
      obtain ⟨h', c', e1, e2, e3⟩ := W.is j k hj ek
      exact ⟨h', c', by rw [List.getElem?_append_left (old j k hj ek)]; exact e1, e2, fun c'' hc => keep _ (e3 c'' hc)⟩
  · by_cases q : j = way m h c <;> by_cases q' : j' = way m h c
    · rw [q, q']
    · rw [q, self] at ek
      cases ek
      rw [other j' q'] at ek'
      have := old _ _ hj' ek'
      omega
    · rw [q', self] at ek'
      cases ek'
      rw [other j q] at ek
      have := old _ _ hj ek
      omega
    · rw [other j q] at ek
      rw [other j' q'] at ek'
      exact W.inj j j' k hj hj' ek ek'
  · rw [List.length_append, List.length_singleton] at hk
    by_cases q : k = hs.length
    · exact ⟨way m h c, hw, by rw [q]; exact self⟩
    · obtain ⟨j, hj, ek⟩ := W.all k (by omega)
      refine ⟨j, hj, ?_⟩
      rw [other j fun z => ?_]
      · exact ek
      · rw [z, h1] at ek
        cases ek
theorem lay_fold {m : Nat} (hm : MaskP m) : ∀ (more hs : List Int) (ow : Array (Option Nat)), Lay m hs ow → hs.length + more.length ≤ m → ∃ ow' k, more.foldl (stepF m) (some (ow, hs.length)) = some (ow', k) ∧ Lay m (hs ++ more) ow'
  | [], hs, ow, W, _ => ⟨ow, hs.length, rfl, by rw [List.append_nil]; exact W⟩
  | h :: more, hs, ow, W, hl => by
    rw [List.length_cons] at hl
    obtain ⟨j, e, W1⟩ := W.step hm (by omega) h
    obtain ⟨ow', k, e2, W2⟩ := lay_fold hm more (hs ++ [h]) _ W1 (by rw [List.length_append, List.length_singleton]; omega)
    refine ⟨ow', k, ?_, by rw [List.append_assoc] at W2; exact W2⟩
    rw [List.foldl_cons, stepF_some e]
    rw [List.length_append, List.length_singleton] at e2
    exact e2
theorem lay_clean {m : Nat} (hm : MaskP m) {hs : Array Int} (hn : hs.size ≤ m) : ∃ ow, SetTable.layClean m hs = some ow ∧ Lay m hs.toList ow := by
  obtain ⟨ow, k, e, W⟩ := lay_fold hm hs.toList [] _ (lay_none m) (by simp; omega)
  refine ⟨ow, ?_, W⟩
  rw [layClean_eq]
  rw [List.length_nil] at e
  rw [e]
  rfl
/-! ### a table in which all is found again -/
structure TabP (t : SetTable) (hs : List Int) : Prop where
  ris : Ris t.place.toList
  dm : t.dummies = #[]
  sz : t.place.size = hs.length
  pw : MaskP t.mask
  odd : t.mask % 2 = 1
  reach : ∀ (i : Nat) (h : Int) (j : Nat), hs[i]? = some h → t.place.toList[i]? = some j → ∃ c, way t.mask h c = j ∧ ∀ c', c' < c → way t.mask h c' ∈ t.place.toList
theorem lay_tab (t : SetTable) {hs : Array Int} {wanted p : Nat} (hw : SetTable.sizeAbove wanted = 2 ^ p) (hp : 1 ≤ p) (hn : hs.size < 2 ^ p) :
    ∃ t' order, t.relaid hs wanted = some (t', order) ∧ order.toList.Perm (List.range hs.size) ∧ TabP t' (order.toList.map fun i => hs.getD i 0) ∧ t'.mask + 1 = 2 ^ p ∧ t'.led = t.led ∧ t'.plain = t.plain := by
  have hpos := Nat.two_pow_pos p
  obtain ⟨m, hm⟩ : ∃ m, m + 1 = 2 ^ p := ⟨2 ^ p - 1, by omega⟩
  have hw1 : SetTable.sizeAbove wanted - 1 = m := by omega
  obtain ⟨ow, e, W⟩ := lay_clean (m := m) ⟨p, hm⟩ (hs := hs) (by omega)
  have er : t.relaid hs wanted = some (tabOf t m ow, ((liveOf m ow).map (·.2)).toArray) := by
    rw [relaid_eq, hw1, e]
    rfl
  have hml : ∀ {j k}, (j, k) ∈ liveOf m ow ↔ j ≤ m ∧ oAt ow j = some k := mem_live W.sz
  have ris := (ris_live (fun j => ow.getD j none) (List.range (m + 1)) List.pairwise_lt_range).1
  have ris : Ris ((liveOf m ow).map (·.1)) := ris
  have nd1 : ((liveOf m ow).map (·.1)).Nodup := List.Pairwise.imp (fun h => Nat.ne_of_lt h) ris
  have nd : (liveOf m ow).Nodup := nodup_of_map nd1
  have nd2 : ((liveOf m ow).map (·.2)).Nodup := by
    refine List.pairwise_map.mpr (List.Pairwise.imp_of_mem (fun {a b} ha hb hab z => hab ?_) nd)
    obtain ⟨j, k⟩ := a
    obtain ⟨j', k'⟩ := b
    have z : k = k' := z
    subst z
    obtain ⟨h1, h2⟩ := hml.mp ha
    obtain ⟨h3, h4⟩ := hml.mp hb
    rw [W.inj j j' k h1 h3 h2 h4]
  have hperm : ((liveOf m ow).map (·.2)).Perm (List.range hs.size) := by
    refine (List.perm_ext_iff_of_nodup nd2 List.nodup_range).mpr fun k => ?_
    rw [List.mem_range]
    constructor
    · intro hk
      obtain ⟨⟨j, k'⟩, hm', rfl⟩ := List.mem_map.mp hk
      obtain ⟨h1, h2⟩ := hml.mp hm'
      obtain ⟨h, c, e1, _⟩ := W.is j k' h1 h2
      have := (List.getElem?_eq_some_iff.mp e1).1
      rw [Array.length_toList] at this
      exact this
    · intro hk
      obtain ⟨j, hj, ek⟩ := W.all k (by rw [Array.length_toList]; exact hk)
      exact List.mem_map.mpr ⟨(j, k), hml.mpr ⟨hj, ek⟩, rfl⟩
  refine ⟨_, _, er, hperm, ⟨ris, rfl, ?_, ⟨p, hm⟩, ?_, fun i h j hi hj => ?_⟩, hm, rfl, rfl⟩
  · show ((liveOf m ow).map (·.1)).toArray.size = _
    simp
  · show m % 2 = 1
    obtain ⟨q, rfl⟩ : ∃ q, p = q + 1 := ⟨p - 1, by omega⟩
    rw [Nat.pow_succ] at hm
    omega
  · have hj : ((liveOf m ow).map (·.1))[i]? = some j := hj
    rw [List.getElem?_map] at hj
    obtain ⟨⟨j', k⟩, hl, hj'⟩ := Option.map_eq_some_iff.mp hj
    have hj' : j' = j := hj'
    subst hj'
    have hi : (((liveOf m ow).map (·.2)).map fun i => hs.getD i 0)[i]? = some h := hi
    rw [List.getElem?_map, List.getElem?_map, hl] at hi
    have hi : hs.getD k 0 = h := Option.some.inj hi
    obtain ⟨h1, h2⟩ := hml.mp (List.mem_of_getElem? hl)
    obtain ⟨h', c, e1, e2, e3⟩ := W.is j' k h1 h2
    have : h' = h := by
      rw [← hi]
      rw [Array.getElem?_toList] at e1
      rw [Array.getD_eq_getD_getElem?, e1]
      rfl
    subst this
    refine ⟨c, e2, fun c' hc => ?_⟩
    cases q : oAt ow (way m h' c') with
    | none => exact (e3 c' hc q).elim
    | some k' => exact List.mem_map.mpr ⟨(way m h' c', k'), hml.mpr ⟨way_in m h' c', q⟩, rfl⟩
/-- one put in at the first free place of its way -/
theorem TabP.put {t : SetTable} {hs : List Int} (T : TabP t hs) {h : Int} {c : Nat} (hc : way t.mask h c ∉ t.place.toList) (hb : ∀ c', c' < c → way t.mask h c' ∈ t.place.toList) :
    SetTable.below t.place (way t.mask h c) ≤ hs.length ∧ TabP (t.put (way t.mask h c)).1 (hs.take (SetTable.below t.place (way t.mask h c)) ++ h :: hs.drop (SetTable.below t.place (way t.mask h c))) := by
  have hcut := below_cut T.ris (way t.mask h c)
  have hpl := put_place t (way t.mask h c)
  have hle : SetTable.below t.place (way t.mask h c) ≤ t.place.size := hcut.1
  have hn : t.place[SetTable.below t.place (way t.mask h c)]? ≠ some (way t.mask h c) := fun z => hc (by
    rw [← Array.getElem?_toList] at z
    exact List.mem_of_getElem? z)
  have hris : Ris (t.put (way t.mask h c)).1.place.toList := ris_insert T.ris hn
  have hmask : (t.put (way t.mask h c)).1.mask = t.mask := rfl
  generalize hp : SetTable.below t.place (way t.mask h c) = p at hpl hle
  have hle2 : p ≤ hs.length := by rw [← T.sz]; exact hle
  have hmem : ∀ x, x ∈ t.place.toList → x ∈ (t.put (way t.mask h c)).1.place.toList := fun x hx => by
    rw [hpl]
    exact mem_ins.mpr (.inr hx)
  refine ⟨hle2, ⟨hris, put_dm T.dm _, ?_, by rw [hmask]; exact T.pw, by rw [hmask]; exact T.odd, fun i h' j hi hj => ?_⟩⟩
  · have := congrArg List.length hpl
    rw [Array.length_toList, len_ins _ (by rw [Array.length_toList]; exact hle), Array.length_toList, T.sz] at this
    rw [this, len_ins _ hle2]
  · rw [hmask]
    rw [hpl, tins_get _ (by rw [Array.length_toList]; exact hle)] at hj
    rw [tins_get _ hle2] at hi
    by_cases q1 : i < p
    · rw [if_pos q1] at hi hj
      obtain ⟨c', e1, e2⟩ := T.reach i h' j hi hj
      exact ⟨c', e1, fun c'' hx => hmem _ (e2 c'' hx)⟩
    · rw [if_neg q1] at hi hj
      by_cases q2 : i = p
      · rw [if_pos q2] at hi hj
        cases hi
        cases hj
        exact ⟨c, rfl, fun c' hx => hmem _ (hb c' hx)⟩
      · rw [if_neg q2] at hi hj
        obtain ⟨c', e1, e2⟩ := T.reach (i - 1) h' j hi hj
        exact ⟨c', e1, fun c'' hx => hmem _ (e2 c'' hx)⟩
/-- the first free place, and that what has the hash stands before it -/
theorem TabP.first {t : SetTable} {hs : List Int} (T : TabP t hs) (hl : hs.length ≤ t.mask) (h : Int) : ∃ c, c < 10 * SetTable.turns t.mask ∧ way t.mask h c ∉ t.place.toList ∧ (∀ c', c' < c → way t.mask h c' ∈ t.place.toList) ∧
    ∀ i : Nat, hs[i]? = some h → ∃ c', c' < c ∧ t.place.toList[i]? = some (way t.mask h c') := by
  obtain ⟨j, hj, hn⟩ := st_missing t.place.toList (t.mask + 1) (by rw [Array.length_toList, T.sz]; omega)
  obtain ⟨c, h1, h2, h3⟩ := way_first T.pw h (taken := fun x => x ∈ t.place.toList) (show j ≤ t.mask by omega) hn
  refine ⟨c, h1, h2, h3, fun i hi => ?_⟩
  have hlt : i < t.place.toList.length := by
    rw [Array.length_toList, T.sz]
    exact (List.getElem?_eq_some_iff.mp hi).1
  obtain ⟨c', e1, e2⟩ := T.reach i h _ hi (List.getElem?_eq_getElem hlt)
  refine ⟨c', ?_, by rw [List.getElem?_eq_getElem hlt, e1]⟩
  refine Classical.byContradiction fun z => ?_
  by_cases q : c' = c
  · rw [q] at e1
    exact h2 (by rw [e1]; exact List.getElem_mem hlt)
  · exact h2 (e2 c (by omega))
end Py

namespace Py
open PySem PySem.Spec PyProof.Rows L2
section
variable {P : Program} {w : World} {A : Around} {E : Value → Shared → Prop} {s : Shared}
/-! ### a set of tuples of ints, up to 2047 of them -/
structure SetP (P : Program) (w : World) (h : Heap) (a : Addr) (L : List (Addr × List Int)) (es : Array (Int × Value)) (ep : Nat) (t : SetTable) : Prop where
  ob : ∃ o, h.get? a = some o ∧ o.ExactSet ∧ o.data = .set es ep t
  rows : es.toList = rowsOf P w L
  tab : TabP t (L.map fun p => thash P w p.2)
  nd : (L.map (·.2)).Nodup
  tup : ∀ p ∈ L, IsT P w h p.2 p.1
  plain : t.plain = true
  led : w.params.followText "set-order" = true ∨ t.led = true
  room : L.length * 5 < t.mask * 3
  few : L.length ≤ 2047
  cap : t.mask ≤ 8191
variable {a : Addr} {L : List (Addr × List Int)} {es : Array (Int × Value)} {ep : Nat} {t : SetTable} {h : Heap}
theorem rows_len (e : es.toList = rowsOf P w L) : es.size = L.length := by
  rw [← Array.length_toList, e]
  exact List.length_map _
theorem rows_at (e : es.toList = rowsOf P w L) {i : Nat} {p : Addr × List Int} (hp : L[i]? = some p) : es[i]? = some (thash P w p.2, Value.ref p.1) := by
  rw [← Array.getElem?_toList, e]
  exact (List.getElem?_map ..).trans (by rw [hp]; rfl)
theorem SetP.psz (R : SetP P w h a L es ep t) : t.place.size = L.length := R.tab.sz.trans (List.length_map _)
theorem SetP.fits (R : SetP P w h a L es ep t) : t.fits es.size = true := by
  have := R.room
  unfold SetTable.fits SetTable.fill
  rw [R.tab.dm, R.psz, rows_len R.rows]
  simp
  omega
theorem SetP.gw (R : SetP P w h a L es ep t) : ¬ t.gaveWay = true := by
  unfold SetTable.gaveWay
  rw [R.tab.odd]
  decide
abbrev stpT (m : Nat) (h : Int) (c : Nat) : SetTable.Probe := nth m (runAt m (SetTable.bits h % (m + 1)) (SetTable.bits h)) c
theorem stpT_dummy (m : Nat) (h : Int) : ∀ c, (stpT m h c).dummy = none
  | 0 => rfl
  | c + 1 => by
    show (nth m (runAt m _ _) (c + 1)).dummy = none
    rw [nth_succ]
    have := stpT_dummy m h c
    unfold adv
    split <;> exact this
theorem sp_search (R : SetP P w s.heap a L es ep t) {x : Addr} {k : List Int} (hx : IsT P w s.heap k x) (hu : A.units < cLine) {z : Nat} (hz0 : z < 10 * SetTable.turns t.mask)
    (hz1 : way t.mask (thash P w k) z ∉ t.place.toList) (hz2 : ∀ c, c < z → way t.mask (thash P w k) c ∈ t.place.toList) {Q : SetFound → Shared → Prop}
    (yes : k ∈ L.map (·.2) → Q (.there none) s) (no : k ∉ L.map (·.2) → Q (.free (way t.mask (thash P w k) z) false) s) :
    ∀ (f c : Nat) (st : Option SetTable.Probe), st.getD (t.probeStart (thash P w k)) = stpT t.mask (thash P w k) c → c ≤ z → z - c < f →
      (∀ (i : Nat) p, L[i]? = some p → p.2 = k → ∃ c', c ≤ c' ∧ c' < z ∧ t.place.toList[i]? = some (way t.mask (thash P w k) c')) →
      wpAny (model P w) A (setSearchFrom a (.ref x) (thash P w k) true f st) Q E s := by
  obtain ⟨o, ho, hex, hd⟩ := R.ob
  have hlen : t.place.toList.length = L.length := by rw [Array.length_toList]; exact R.psz
  have hash : ∀ (i : Nat) p, L[i]? = some p → ((es[i]?.map (·.1)).getD 0) = thash P w p.2 := fun i p hp => by rw [rows_at R.rows hp]; rfl
  intro f
  induction f with
  | zero => exact fun c st _ _ hf _ => absurd hf (Nat.not_lt_zero _)
  | succ f ih =>
    intro c st hst hc hf hre
    have shift : ∀ q, nth t.mask (stpT t.mask (thash P w k) c) q = stpT t.mask (thash P w k) (c + q) := fun q => (nth_add t.mask c _ q).symm
    have spec := go_spec t R.tab.ris R.tab.dm (fun i => (es[i]?.map (·.1)).getD 0) (thash P w k) (10 * SetTable.turns t.mask) (z - c) (stpT t.mask (thash P w k) c) (stpT_dummy _ _ c) (by omega)
      (fun q hq => by rw [shift]; exact hz2 (c + q) (by omega)) (by rw [shift, show c + (z - c) = z by omega]; exact hz1)
    have pr : t.probe (fun i => (es[i]?.map (·.1)).getD 0) (thash P w k) (st.getD (t.probeStart (thash P w k))) = SetTable.probe.go t (fun i => (es[i]?.map (·.1)).getD 0) (thash P w k) (10 * SetTable.turns t.mask) (stpT t.mask (thash P w k) c) := by
      rw [hst]
      rfl
    rw [setSearchFrom_succ]
    refine wpAny_bind (wpAny_setState_of ho hd R.fits ?_)
    dsimp only
    refine wp_if_neg R.gw ?_
    try refine wpAny_bind (wpAny_pure ?_)
    rw [pr]
    rcases spec with ⟨q, i, hq, hi, hh, hno, e⟩ | ⟨hno, e⟩
    · rw [shift] at hi
      have hil : i < L.length := by rw [← hlen]; exact (List.getElem?_eq_some_iff.mp hi).1
      obtain ⟨p, hp⟩ : ∃ p, L[i]? = some p := ⟨_, List.getElem?_eq_getElem hil⟩
      have hpm := List.mem_of_getElem? hp
      rw [e, shift, shift]
      dsimp only
      have rest : wpAny (model P w) A (searchRest a (.ref x) (thash P w k) true f es t (stpT t.mask (thash P w k) (c + q)).j i (stpT t.mask (thash P w k) (c + (q + 1)))) Q E s := by
        unfold searchRest
        rw [rows_at R.rows hp]
        dsimp only
        refine wpAny_bind (wpAny_holding (wpAny_eqBool_tuple hu (R.tup p hpm) hx ?_))
        refine wpAny_bind (wpAny_setState_of ho hd R.fits ?_)
        dsimp only
        by_cases hk : p.2 = k
        · exact wp_if_pos (by simp [hk]) (wpAny_pure (yes (List.mem_map.mpr ⟨p, hpm, hk⟩)))
        · refine wp_if_neg (by simp [hk]) ?_
          try refine wpAny_bind (wpAny_pure ?_)
          have sl : t.slot (stpT t.mask (thash P w k) (c + q)).j = .live i := slot_live R.tab.ris hi
          rw [sameMem]
          simp only [if_true, sl, rows_at R.rows hp]
          refine wpAny_bind (wpAny_isSame_ref_self (wpAny_bind (wpAny_pure ?_)))
          simp only [if_true]
          refine wp_if_neg (by simp [hk]) (ih (c + (q + 1)) _ rfl (by omega) (by omega) fun i0 p0 h0 hk0 => ?_)
          obtain ⟨c', a1, a2, a3⟩ := hre i0 p0 h0 hk0
          refine ⟨c', Classical.byContradiction fun y => ?_, a2, a3⟩
          by_cases y2 : c' = c + q
          · rw [y2] at a3
            have := slot_live R.tab.ris a3
            rw [show way t.mask (thash P w k) (c + q) = (stpT t.mask (thash P w k) (c + q)).j from rfl, sl] at this
            injection this with this
            rw [← this, hp] at h0
            cases h0
            exact hk hk0
          · refine hno (c' - c) i0 (by omega) (by rw [shift, show c + (c' - c) = c' by omega]; exact a3) ?_
            show ((es[i0]?.map (·.1)).getD 0) = _
            rw [hash i0 p0 h0, hk0]
      cases hl : t.led with
      | true =>
        refine wp_if_neg (by simp) ?_
        try refine wpAny_bind (wpAny_pure ?_)
        exact rest
      | false =>
        refine wp_if_pos (by simp) ?_
        refine wpAny_bind (seen_tup hx (fun y hy => ?_) ?_)
        · obtain ⟨e0, he, rfl⟩ := List.mem_map.mp hy
          have he : e0 ∈ es.toList := by
            have : e0 ∈ es ∧ e0.1 = thash P w k := by simpa using he
            simpa using this.1
          rw [R.rows] at he
          obtain ⟨p2, hp2, rfl⟩ := List.mem_map.mp he
          exact ⟨p2.2, p2.1, rfl, R.tup p2 hp2⟩
        · refine wp_if_neg (by decide) ?_
          try refine wpAny_bind (wpAny_pure ?_)
          exact rest
    · rw [e, shift, show c + (z - c) = z by omega]
      dsimp only
      refine wpAny_pure (no fun hm => ?_)
      obtain ⟨p0, h0, hk0⟩ := List.mem_map.mp hm
      obtain ⟨i0, h0⟩ := List.getElem?_of_mem h0
      obtain ⟨c', a1, a2, a3⟩ := hre i0 p0 h0 hk0
      refine hno (c' - c) i0 (by omega) (by rw [shift, show c + (c' - c) = c' by omega]; exact a3) ?_
      show ((es[i0]?.map (·.1)).getD 0) = _
      rw [hash i0 p0 h0, hk0]
theorem sp_found (R : SetP P w s.heap a L es ep t) {x : Addr} {k : List Int} (hx : IsT P w s.heap k x) (hu : A.units < cLine) {Q : SetFound → Shared → Prop}
    (yes : k ∈ L.map (·.2) → Q (.there none) s)
    (no : ∀ z, k ∉ L.map (·.2) → way t.mask (thash P w k) z ∉ t.place.toList → (∀ c, c < z → way t.mask (thash P w k) c ∈ t.place.toList) → Q (.free (way t.mask (thash P w k) z) false) s) :
    wpAny (model P w) A (setSearch a (.ref x) (thash P w k) true) Q E s := by
  have hr := R.room
  have hc := R.cap
  obtain ⟨z, h0, h1, h2, h3⟩ := R.tab.first (by rw [List.length_map]; omega) (thash P w k)
  have hz : z < 100000 := by
    unfold SetTable.turns at h0
    omega
  unfold setSearch
  refine sp_search R hx hu h0 h1 h2 yes (fun hn => no z hn h1 h2) 100000 0 none rfl (Nat.zero_le _) (by omega) fun i p hp hk => ?_
  obtain ⟨c', q1, q2⟩ := h3 i (by rw [List.getElem?_map, hp, ← hk]; rfl)
  exact ⟨c', Nat.zero_le _, q1, q2⟩
/-- the table laid anew, larger -/
theorem sp_relay {o : Obj} (ho : s.heap.get? a = some o) (hex : o.ExactSet) (hd : o.data = .set es ep t) (hrows : es.toList = rowsOf P w L) (hsz : t.place.size = L.length) (hdm : t.dummies = #[]) (hfl : L.length ≤ t.mask)
    (nd : (L.map (·.2)).Nodup) (tup : ∀ p ∈ L, IsT P w s.heap p.2 p.1) (pl : t.plain = true) (ld : w.params.followText "set-order" = true ∨ t.led = true) (few : L.length ≤ 2047) (pos : 1 ≤ L.length) {Q : Unit → Shared → Prop}
    (hQ : ∀ h' L' es' ep' t', Heap.SameBut a s.heap h' → SetP P w h' a L' es' ep' t' → L'.Perm L → Q () { s with heap := h' }) : wpAny (model P w) A (setRelay a (SetTable.grown L.length)) Q E s := by
  have hsl := rows_len hrows
  have hg : SetTable.grown L.length = L.length * 4 := if_neg (by omega)
  obtain ⟨p, e1, e2, e3, e4⟩ := size_above (SetTable.grown L.length) (by rw [hg]; omega)
  rw [hg] at e3 e4
  have hp13 : 2 ^ p ≤ 8192 := by
    rcases Nat.lt_or_ge p 14 with q | q
    · exact Nat.pow_le_pow_right (n := 2) (by decide) (show p ≤ 13 by omega)
    · have := Nat.pow_le_pow_right (n := 2) (by decide) q
      rcases e4 with e4 | e4 <;> omega
  have hfits : t.fits es.size = true := by
    unfold SetTable.fits SetTable.fill
    rw [hdm, hsz, hsl]
    simp
    omega
  obtain ⟨t', order, e, hp, T, em, el, ep'⟩ := lay_tab t (hs := es.map (·.1)) e1 (by omega) (by rw [Array.size_map, hsl]; omega)
  rw [Array.size_map, hsl] at hp
  obtain ⟨L2, r1, r2, r3⟩ := order_rows L es order hrows hp
  rw [← r3] at T
  have hs2 : (order.filterMap (es[·]?)).size = es.size := by rw [rows_len r1, r2.length_eq, hsl]
  rw [setRelay_eq]
  refine wpAny_bind (wpAny_setState_of ho hd hfits ?_)
  dsimp only
  refine wp_if_neg (by rw [e1, sizeLine_eq]; omega) ?_
  try refine wpAny_bind (wpAny_pure ?_)
  rw [e]
  dsimp only
  refine wpAny_bind ?_
  refine wp_if_neg (by rw [hs2]; simp) ?_
  try refine wpAny_bind (wpAny_pure ?_)
  refine wpAny_pure ?_
  dsimp only
  refine wpAny_storeSet_of ho hd ?_ (by rw [hs2, hsl, sizeLine_eq]; omega)
  have sb : Heap.SameBut a s.heap (s.heap.update a (Obj.putSet (order.filterMap (es[·]?)) t')) := Heap.SameBut.update ..
  exact hQ _ L2 (order.filterMap (es[·]?)) (ep + 1) t' sb ⟨⟨_, store_at ho hd, ⟨hex.1, hex.2.1, hex.2.2⟩, rfl⟩, r1, T, (r2.map (·.2)).nodup_iff.mpr nd, fun p hpm => isT_same (tup p (r2.mem_iff.mp hpm)) ho hd sb, by rw [ep']; exact pl, by rw [el]; exact ld, by rw [r2.length_eq]; omega, by rw [r2.length_eq]; exact few, by omega⟩ r2
/-- s.add(x), its hash known -/
theorem sp_add (R : SetP P w s.heap a L es ep t) {x : Addr} {k : List Int} (hx : IsT P w s.heap k x) (hu : A.units < cLine) (hfew : L.length + 1 ≤ 2047) {Q : Bool → Shared → Prop}
    (hQ : ∀ b h' L' es' ep' t', Heap.SameBut a s.heap h' → SetP P w h' a L' es' ep' t' → (k ∈ L.map (·.2) → L' = L) → (k ∉ L.map (·.2) → L'.Perm ((x, k) :: L)) → Q b { s with heap := h' }) :
    wpAny (model P w) A (setAddHashed a (.ref x) (thash P w k)) Q E s := by
  obtain ⟨o, ho, hex, hd⟩ := R.ob
  have hsl := rows_len R.rows
  have hroom := R.room
  unfold setAddHashed
  refine wpAny_holding ?_
  rw [show (100000 : Nat) = 99999 + 1 from rfl, setAddHashedIn_succ]
  refine wpAny_bind (wpAny_setState_of ho hd R.fits ?_)
  dsimp only
  refine wp_if_neg (by simp [byScan, Value.scannable]) ?_
  try refine wpAny_bind (wpAny_pure ?_)
  refine wpAny_bind (sp_found R hx hu (fun hm => wpAny_pure (hQ false s.heap L es ep t (Heap.SameBut.refl a s.heap) R (fun _ => rfl) fun z => absurd hm z)) fun z hm hz hb => ?_)
  dsimp only
  refine wpAny_bind (wpAny_setState_of ho hd R.fits ?_)
  dsimp only
  obtain ⟨q2, T⟩ := R.tab.put hz hb
  have f1 : (t.put (way t.mask (thash P w k) z)).1.plain = true := R.plain
  have f2 : (t.put (way t.mask (thash P w k) z)).2 = SetTable.below t.place (way t.mask (thash P w k) z) := rfl
  have f3 : (t.put (way t.mask (thash P w k) z)).1.mask = t.mask := rfl
  have f4 : (t.put (way t.mask (thash P w k) z)).1.led = t.led := rfl
  rw [f2]
  generalize SetTable.below t.place (way t.mask (thash P w k) z) = p at q2 T
  generalize (t.put (way t.mask (thash P w k) z)).1 = t1 at T f1 f3 f4
  first
    | (refine wpAny_bind ?_; refine wp_if_pos f1 ?_; refine hashBy_tup hx ?_)
    | refine wp_if_pos f1 (wpAny_bind (hashBy_tup hx ?_))
  simp only [if_true]
  have hin : (SetTable.insertAt es p (thash P w k, Value.ref x)).toList = rowsOf P w (L.take p ++ (x, k) :: L.drop p) := by
    rw [SetTable.toList_insertAt, rows_put, R.rows]
  have pm := put_perm L p (x, k)
  have hhs : (L.take p ++ (x, k) :: L.drop p).map (fun p => thash P w p.2) = (L.map fun p => thash P w p.2).take p ++ thash P w k :: (L.map fun p => thash P w p.2).drop p := by simp
  rw [← hhs] at T
  generalize SetTable.insertAt es p (thash P w k, Value.ref x) = es1 at hin
  generalize L.take p ++ (x, k) :: L.drop p = L1 at pm T hin
  have hlen : L1.length = L.length + 1 := pm.length_eq
  have hes := rows_len hin
  have nd1 : (L1.map (·.2)).Nodup := (pm.map (·.2)).nodup_iff.mpr (List.nodup_cons.mpr ⟨hm, R.nd⟩)
  refine wpAny_bind (wpAny_storeSet_of ho hd ?_ (by rw [hes, sizeLine_eq]; omega))
  have sb : Heap.SameBut a s.heap (s.heap.update a (Obj.putSet es1 t1)) := Heap.SameBut.update ..
  have ho1 := store_at (es' := es1) (t' := t1) ho hd
  generalize s.heap.update a (Obj.putSet es1 t1) = h1 at sb ho1 ⊢
  have tup1 : ∀ p ∈ L1, IsT P w h1 p.2 p.1 := fun p hp => by
    rcases List.mem_cons.mp (pm.mem_iff.mp hp) with e | hp
    · rw [e]
      exact isT_same hx ho hd sb
    · exact isT_same (R.tup p hp) ho hd sb
  have ld1 : w.params.followText "set-order" = true ∨ t1.led = true := by rw [f4]; exact R.led
  have hfill : t1.fill = L1.length := by
    unfold SetTable.fill
    rw [T.dm, T.sz, List.length_map]
    rfl
  by_cases hf : t1.tooFull = true
  · first
      | (refine wpAny_bind ?_; refine wp_if_pos (by simp [hf]) ?_)
      | (refine wp_if_pos (by simp [hf]) ?_; refine wpAny_bind ?_)
    rw [hsl, ← hlen]
    exact sp_relay (s := { s with heap := h1 }) ho1 ⟨hex.1, hex.2.1, hex.2.2⟩ rfl hin (T.sz.trans (List.length_map _)) T.dm (by rw [hlen, f3]; omega) nd1 tup1 f1 ld1 (by omega) (by omega) fun h2 L2 es2 ep2 t2 sb2 R2 pm2 =>
      wpAny_pure (hQ true h2 L2 es2 ep2 t2 (sb.trans sb2) R2 (fun z => absurd z hm) fun _ => pm2.trans pm)
  · first
      | refine wp_if_neg (by simp [hf]) ?_
      | (refine wpAny_bind ?_; refine wp_if_neg (by simp [hf]) ?_; refine wpAny_pure ?_)
    refine wpAny_pure (hQ true h1 L1 es1 (ep + 1) t1 sb ⟨⟨_, ho1, ⟨hex.1, hex.2.1, hex.2.2⟩, rfl⟩, hin, T, nd1, tup1, f1, ld1, ?_, by omega, by rw [f3]; exact R.cap⟩ (fun z => absurd z hm) fun _ => pm)
    unfold SetTable.tooFull at hf
    rw [decide_eq_true_eq, hfill] at hf
    omega
end
end Py

namespace Py
open PySem PySem.Spec PyProof.Rows L2
section
variable {prog : Program} {w : World} {A : Around} {E : Value → Shared → Prop} {s : Shared}
/-! ### set(list), whatever is known of the set behind each item -/
theorem loopSetBy {R : Result → Shared → Prop} {I : Addr} {fp wr : List Addr} {G : Array GenState → Array GenState → Prop} {n : Nat} {Pv : Nat → Value → Prop} {St : Nat → Shared → Prop} (W : WalksS prog w A.in1 I fp wr G n Pv St) (S : Addr) (hSf : S ∉ fp)
    (J : Nat → Heap → Prop) (keep : ∀ i h h', (∀ b o, b ∉ wr → h.get? b = some o → h'.get? b = some o) → J i h → J i h')
    (step : ∀ (i : Nat) (v : Value) (E' : Value → Shared → Prop) (s' : Shared) (Q' : Bool → Shared → Prop), i < n → Pv i v → J i s'.heap → (∀ b h' tk, s'.toks ≤ tk → Heap.SameBut S s'.heap h' → J (i + 1) h' → Q' b { s' with heap := h', toks := tk }) → wpAny (model prog w) A.in1 (setAdd S v) Q' E' s') :
    ∀ (k i : Nat) (s : Shared), n - i = k → i ≤ n → St i s → J i s.heap → (∀ s', Moved (S :: wr) G s s' → J n s'.heap → R (.ok (.ret .none)) s') →
      codeAny (model prog w) A (.builtin "set.update.loop" ⟨[.ref S, .ref I], []⟩) R s := by
  have hSw : S ∉ wr := fun h => hSf (W.sub _ h)
  have hsub : ∀ b ∈ wr, b ∈ S :: wr := fun b hb => List.mem_cons_of_mem _ hb
  intro k
  induction k with
  | zero =>
    intro i s hk hi hst hJ hR
    have hin : i = n := by omega
    subst hin
    refine codeAny_builtin PyProof.Rows.F.entry_set_update_loop ?_
    rw [Around.under_plainId PyProof.Rows.F.plain_set_update_loop _]
    show wpAny _ A.in1 (pyNext (.ref I) >>= _) _ _ s
    refine wpAny_bind (W.done s _ _ hst fun s' hm => ?_)
    show wpAny _ A.in1 (ret Value.none) _ _ s'
    exact wpAny_pure (hR s' (hm.mono hsub) (keep _ _ _ hm.heap hJ))
  | succ k ih =>
    intro i s hk hi hst hJ hR
    have hlt : i < n := by omega
    refine codeAny_builtin PyProof.Rows.F.entry_set_update_loop ?_
    rw [Around.under_plainId PyProof.Rows.F.plain_set_update_loop _]
    show wpAny _ A.in1 (pyNext (.ref I) >>= _) _ _ s
    refine wpAny_bind (W.item i s _ _ hlt hst fun v s' hP hst' hm => ?_)
    show wpAny _ A.in1 (holding [v] (setAdd S v) >>= _) _ _ s'
    refine wpAny_bind (wpAny_holding (step i v _ s' _ hlt hP (keep _ _ _ hm.heap hJ) fun b h' tk htk hsb hJ' => ?_))
    refine wpAny_pure ⟨plainId_quiet PyProof.Rows.F.plain_set_update_loop _, ih (i + 1) _ (by omega) hlt (W.frame _ s' _ _ hst' htk fun b hb o e => ?_) hJ' fun s'' hm'' hJ'' => ?_⟩
    · rw [hsb.2 b (fun h : b = S => hSf (by rw [← h]; exact hb))]; exact e
    · refine hR s'' (Moved.trans W.gtrans ((hm.mono hsub).then_heap htk fun b o hb e => ?_) hm'') hJ''
      rw [hsb.2 b (fun h : b = S => hb (by rw [h]; exact List.mem_cons_self))]; exact e
abbrev freshSet (w : World) : Obj := { cls := .type "set", dict := none, data := .set #[] 0 (.fresh 0 0 (!w.params.followText "set-order")) }
theorem call_set_by {l : Addr} {items : Array Value} {Q : Value → Shared → Prop} (hh : A.handled = none) (hl : s.heap.IsList l items)
    (J : Nat → Heap → Prop)
    (h0 : ∀ h, (∀ b o, s.heap.get? b = some o → h.get? b = some o) → h.get? s.heap.objs.size = some (freshSet w) → J 0 h)
    (keep : ∀ i h h', (∀ b o, b ≤ s.heap.objs.size → h.get? b = some o → h'.get? b = some o) → J i h → J i h')
    (step : ∀ (i : Nat) (v : Value) (E' : Value → Shared → Prop) (s' : Shared) (Q' : Bool → Shared → Prop), items[i]? = some v → J i s'.heap → (∀ b h' tk, s'.toks ≤ tk → Heap.SameBut s.heap.objs.size s'.heap h' → J (i + 1) h' → Q' b { s' with heap := h', toks := tk }) → wpAny (model prog w) A.in1.in1.in1 (setAdd s.heap.objs.size v) Q' E' s')
    (h : ∀ (h' : Heap) (tk : Nat), J items.size h' → (∀ b o, s.heap.get? b = some o → h'.get? b = some o) → Q (.ref s.heap.objs.size) { s with heap := h', toks := tk }) :
    wpAny (model prog w) A (call (.type "set") [.ref l]) Q E s := by
  obtain ⟨c, tl, hmro⟩ := PySem.F.called_set.mro
  have hmade := PySem.F.called_set.made
  have hsub := PySem.F.called_set.sub
  refine wpAny_call (codeAny_of_tree ?_)
  show wpAny _ _ (callAny (.type "set") _) _ _ _
  refine wpAny_pure ⟨Code.quiet_builtin _ (by decide +kernel), codeAny_builtin PySem.F.entry_type_call ?_⟩
  rw [Around.under_plain (weight_type_call_type "set" [.ref l] []) rfl]
  have h1 := PySem.F.called_set.notType
  have h2 := PySem.F.called_set.canCreate
  have hct := PySem.F.typeCall_set_1 (.ref l)
  repeat (any_goals (first | assumption | wp_step))

  refine codeAny_mono (code_set_led1 (.ref l) (E := E) (Q₁ := fun obj s₁ => obj = .ref s.heap.objs.size ∧ s₁ = { s with heap := s.heap.push (freshSet w) }) ⟨rfl, rfl⟩) fun r s₁ hr => ?_
  cases r with
  | error e => exact hr
  | ok fl =>
    cases fl with
    | ret obj =>
      obtain ⟨rfl, rfl⟩ := hr
      have hS : (s.heap.push (freshSet w)).get? s.heap.objs.size = some (freshSet w) := Heap.get?_push_size _ rfl
      have hT : Shared.TypeIs { s with heap := s.heap.push (freshSet w) } (.ref s.heap.objs.size) "set" := ⟨_, hS, rfl⟩
      have hli := PySem.F.called_set.init.lookup
      have hbi := PySem.F.called_set.init.bind (.ref s.heap.objs.size)
      repeat (any_goals (first | assumption | wp_step))

      refine codeAny_mono (codeAny_call_builtin (R := wants (fun r s₂ => r = .none ∧ ∃ h' tk, s₂ = { s with heap := h', toks := tk } ∧ J items.size h' ∧
          (∀ b o, s.heap.get? b = some o → h'.get? b = some o)) E) PySem.F.called_set.init.plain PySem.F.entry_set_init (check_set_init_1 hT ?_)) fun r₂ s₂ hr₂ => ?_
      · obtain ⟨ol, hol, hcl, nl, hdl⟩ := hl
        obtain ⟨ocls, odict, odata, oslots⟩ := ol
        simp only at hcl hdl
        subst hcl; subst hdl
        have hol' : (s.heap.push (freshSet w)).get? l = some { cls := .type "list", dict := odict, data := .seq items nl, slots := oslots } := Heap.get?_push_of_some _ hol
        have hsls := PySem.F.sub_list_set
        have hslf := PySem.F.sub_list_frozenset
        have hne : (Value.type "list" == Value.type "dict") = false := by decide
        have hl1 : (s.heap.push (freshSet w)).IsList l items := ⟨_, hol', rfl, nl, rfl⟩
        unfold Builtin.«set.__init__» noKeywords Builtin.Frozenset.updateFrom
        generalize hPI : pyIter = PI
        wp_walk
        subst hPI

        refine wpAny_pyIter_list hl1 ?_
        refine wpAny_bind (wpAny_runValue ?_)
        have hlS : l < s.heap.objs.size := Heap.lt_size hol
        have hh3 : A.in1.in1.in1.handled = none := by simp [hh]
        have hz : (s.heap.push (freshSet w)).objs.size = s.heap.objs.size + 1 := Heap.size_push ..
        have hneI : l ≠ (s.heap.push (freshSet w)).objs.size := by
          rw [hz]; exact Nat.ne_of_lt (Nat.lt_succ_of_lt hlS)
        have hSf : s.heap.objs.size ∉ [(s.heap.push (freshSet w)).objs.size, l] := by
          rw [hz]; simp only [List.mem_cons, List.mem_singleton, List.not_mem_nil, or_false, not_or]
          exact ⟨Nat.ne_of_lt (Nat.lt_succ_self _), Nat.ne_of_gt hlS⟩
        refine loopSetBy ((Walks.list hh3 _ l hneI items).toS) s.heap.objs.size hSf J ?hkeep ?hstep (items.size - 0) 0 _ (by omega) (Nat.zero_le _)
          ⟨⟨_, Heap.get?_push_size _ rfl, rfl, rfl⟩, (hl1.push _)⟩ ?hS0 ?hR
        case hkeep =>
          intro i h h' hk hJ
          refine keep i h h' (fun b o hb e => hk b o ?_ e) hJ
          intro z
          have z := List.mem_singleton.mp z
          rw [z, hz] at hb
          exact Nat.not_succ_le_self _ hb
        case hstep =>
          intro i v E' s' Q' hi hP hJ hq
          exact step i v E' s' Q' hP hJ hq
        case hS0 =>
          exact h0 _ (fun b o e => Heap.get?_push_of_some _ (Heap.get?_push_of_some _ e)) (Heap.get?_push_of_some _ hS)
        case hR =>
          intro s' hm hS'
          obtain ⟨h', g', d', tk', os'⟩ := s'
          have eg : g' = s.gens := hm.gens
          have ed : d' = s.drawn := hm.drawn
          have eo : os' = s.os := hm.os
          subst eg; subst ed; subst eo
          show wpAny _ _ _ _ _ _
          refine wpAny_pure ?_
          show wpAny _ _ (ret Value.none) _ _ _
          refine wpAny_pure ⟨rfl, h', tk', rfl, hS', fun b o e => ?_⟩
          have hb := Heap.lt_size e
          have hb1 : b ≠ s.heap.objs.size := Nat.ne_of_lt hb
          have hb2 : b ≠ (s.heap.push (freshSet w)).objs.size := by
            rw [hz]; exact Nat.ne_of_lt (Nat.lt_succ_of_lt hb)
          exact hm.heap b o (by simp only [List.mem_cons, List.mem_singleton, List.not_mem_nil, or_false, not_or]; exact ⟨hb1, hb2⟩) (Heap.get?_push_of_some _ (Heap.get?_push_of_some _ e))

      · cases r₂ with
        | error e => exact hr₂
        | ok fl₂ =>
          cases fl₂ with
          | ret r =>
            obtain ⟨rfl, h', tk, rfl, hS', hk'⟩ := hr₂
            repeat (any_goals (first | assumption | wp_step))
            exact h _ _ hS' hk'
          | _ => exact hr₂.elim
    | _ => exact hr.elim
end
end Py

namespace Py
open PySem PySem.Spec PyProof.Rows L2
/-! ### sorting tuples, some of them empty -/
section
variable {prog : Program} {w : World} {A : Around} {E : Value → Shared → Prop} {s : Shared}
open PySem.W PySem.Calls PySem.SeqAt PySem.MeetsSeq PySem.MeetsSeq2 PySem.MeetsSeq3 PySem.SeqRoads2 in
theorem call_tuple_lt {Q : Value → Shared → Prop} {l b : Addr} {items items2 : Array Value} {e r : Nat → Bool} (hl : s.heap.IsTuple l items) (hb : s.heap.IsTuple b items2)
    (he : ∀ j (h1 : j < items.size) (h2 : j < items2.size), EqAt A.in1 s items[j] items2[j] (e j)) (hr : ∀ j (h1 : j < items.size) (h2 : j < items2.size), e j = false → RcLt A.in1 s items[j] items2[j] (r j))
    (h : Q (.bool (firstLt e r (decide (items.size < items2.size)) (List.range (min items.size items2.size)))) s) : wpAny (model prog w) A (call (.builtin "tuple.__lt__") [.ref l, .ref b]) Q E s := by
  obtain ⟨⟨cls, dd, data, sl⟩, ho, hc, n, hd⟩ := id hl
  obtain ⟨⟨cls2, dd2, data2, sl2⟩, ho2, hc2, n2, hd2⟩ := id hb
  simp only at hc hd hc2 hd2
  subst hc hd hc2 hd2
  exact call_meets F.slot_tuple_lt ⟨_, ho, rfl⟩ F.entry_tuple_lt (F.args_tuple_lt_2 _ _) (tuple_ltAt l b items items2 n n2 dd dd2 sl sl2 e r) ⟨ho, ho2, he, hr, h⟩
open PySem.W PySem.Calls PySem.SeqAt in
theorem oneLt_tup {f : Bool} {xs ys : List PyData} {a b : Value} {as bs : List Addr} {Q : Bool → Shared → Prop} (ra : Reads s.heap a (.tuple xs) as) (rb : Reads s.heap b (.tuple ys) bs) (h : alike (.tuple xs) (.tuple ys) = true)
    (hu : A.units + min (PyData.tuple xs).depth (PyData.tuple ys).depth < cLine) (hq : Q (dataLt (.tuple xs) (.tuple ys)) s) : wpAny (model prog w) A (oneLt' f a b) Q E s := by
  cases f with
  | false =>
    rw [oneLt'_eq]
    simp only [Bool.false_eq_true, if_false]
    exact wpAny_bind (rcLt_alike _ _ A s a b as bs ra rb h (fun z => by cases z) hu prog w E _ (wpAny_truthy_bool hq))
  | true =>
    have hal : alikeAll xs ys = true := by simpa [alike] using h
    cases ra with
    | @tuple l o vs n _ as₁ h1 h2 h3 h4 =>
      cases rb with
      | @tuple l' o' vs' n' _ bs₁ k1 k2 k3 k4 =>
        have n1 : vs.size = xs.length := by simpa using ReadsAll.length _ _ _ h4
        have n2 : vs'.size = ys.length := by simpa using ReadsAll.length _ _ _ k4
        rw [dataLt_tuple, ← firstLt_toks xs ys hal, ← n1, ← n2] at hq
        rw [oneLt'_eq]
        simp only [if_true]
        refine wpAny_bind (wpAny_cRoomFor (room_here hu) ?_)
        refine wpAny_bind (wpAny_callSpecialIfBound?_slot (T := "tuple") ⟨_, h1, h2⟩ F.slot_tuple_lt (call_tuple_lt (e := pairEq xs ys) (r := fun j => dataLt (xs.getD j .none) (ys.getD j .none)) ⟨_, h1, h2, _, h3⟩ ⟨_, k1, k2, _, k3⟩ (fun j j1 j2 => ?_) (fun j j1 j2 hj => ?_) ?_))
        · have := eqAt_alikeAll xs ys A.in1 s vs.toList vs'.toList _ _ h4 k4 hal (room_in hu) j (by simpa using j1) (by simpa using j2)
          simpa using this
        · have := rcLt_alikeAll xs ys A.in1 s vs.toList vs'.toList _ _ h4 k4 hal (room_in hu) j (by simpa using j1) (by simpa using j2) hj
          simpa using this
        · exact wpAny_truthy_bool hq
open PySem.W in
/-- the first items of tuples, as the sort asks for them -/
theorem firsts_any {M : Model} : ∀ (vs : List Value) (ds : List PyData) {Q : List (Option Value) → Shared → Prop}, PySem.W.EachIs (fun v d => ∃ as, Reads s.heap v d as) vs ds → (∀ d ∈ ds, ∃ xs, d = .tuple xs) →
    (∀ fs : List (Option Value), fs.length = vs.length → (∀ i : Nat, ((fs[i]?).bind id).isSome = true ↔ ∃ x r, ds[i]? = some (.tuple (x :: r))) → Q fs s) → wpAny M A (vs.mapM firstOfTuple') Q E s
  | _, _, Q, .nil, _, h => by
    rw [List.mapM_nil]
    refine wpAny_pure (h [] rfl fun i => ?_)
    simp
  | _, _, Q, .cons (a := v) (as := vs) (b := d) (bs := ds) ⟨as, r⟩ t, ht, h => by
    obtain ⟨xs, rfl⟩ := ht d (List.mem_cons_self ..)
    cases r with
    | @tuple a o its n _ _ ho hc hd hr =>
      rw [List.mapM_cons]
      refine wpAny_bind ?_
      rw [kas_first_eq]
      refine wpAny_bind (Looks.here (show Looks M s.heap (typeOf (.ref a)) o.cls from (Looks.ld ho).andThen .now) ?_)
      rw [hc, if_neg (by first | decide | simp)]
      refine wpAny_bind (listItems_at ho hd (wpAny_pure ?_))
      refine wpAny_bind (firsts_any vs ds t (fun d hd => ht d (List.mem_cons_of_mem _ hd)) fun fs hl hf => wpAny_pure (h _ (by simp [hl]) fun i => ?_))
      cases i with
      | zero =>
        have e : its.size = xs.length := by simpa using SeqAt.ReadsAll.length _ _ _ hr
        cases xs with
        | nil =>
          have : its[0]? = none := by
            rw [Array.getElem?_eq_none]
            rw [e]
            exact Nat.le_refl _
          simp [this]
        | cons x r =>
          have : 0 < its.size := by rw [e]; exact Nat.succ_pos _
          simp [Array.getElem?_eq_getElem this]
      | succ i => simpa using hf i
open PySem.W in
theorem SortsAt.tups {vs : List Value} {ds : List PyData} (e : EachIs (fun v d => ∃ as, Reads s.heap v d as) vs ds) (hal : AllAlike ds) (ht : ∀ d ∈ ds, ∃ xs, d = .tuple xs) (hu : ∀ d, d ∈ ds → A.units + d.depth < cLine) : SortsAt prog w A s (dataKind s.heap ds) vs := by
  by_cases hne : ∀ d, d ∈ ds → ∃ x r, d = .tuple (x :: r)
  · exact SortsAt.data e hal (.inl hne) hu
  have room : ∀ {d d' : PyData}, d ∈ ds → A.units + min d.depth d'.depth < cLine := fun {d d'} hd => Nat.lt_of_le_of_lt (Nat.add_le_add_left (Nat.min_le_left _ _) _) (hu d hd)
  have lt : ∀ f : Bool, ∀ (E : Value → Shared → Prop) (x y : Value) a b (Q : Bool → Shared → Prop), (dataKind s.heap ds).keyOf x = some a → (dataKind s.heap ds).keyOf y = some b → Q ((dataKind s.heap ds).blt a b) s → wpAny (model prog w) A (oneLt' f x y) Q E s := by
    intro f E x y a b Q ha hb hq
    obtain ⟨d, as, hd, ra, rfl⟩ := dataKind_inv ha
    obtain ⟨d', as', hd', rb, rfl⟩ := dataKind_inv hb
    obtain ⟨xs, rfl⟩ := ht d hd
    obtain ⟨ys, rfl⟩ := ht d' hd'
    exact oneLt_tup ra rb (hal _ hd _ hd') (room hd) hq
  have hlen := e.length
  refine ⟨fun v hv => ?_, ?_⟩
  · obtain ⟨d, hd, as, r⟩ := e.left v hv
    exact ⟨_, dataKind_some hal hd r⟩
  · by_cases h0 : ∃ x r, ds[0]? = some (.tuple (x :: r))
    · refine ⟨general', fun E x y a b Q ha hb hq => lt false E x y a b Q ha hb hq, fun h2 E Q hq => ?_⟩
      rw [kat_kind_eq, List.mapM_toArray, map_eq_pure_bind]
      refine wpAny_bind (wpAny_bind (firsts_any vs ds e ht fun fs hl hf => wpAny_pure ?_))
      have hn : (fs.toArray.all fun x => x.isSome) = false := by
        refine Bool.eq_false_iff.mpr fun z => hne fun d hd => ?_
        obtain ⟨i, hi⟩ := List.mem_iff_getElem?.mp hd
        have hil : i < fs.length := by
          rw [hl, hlen]
          exact (List.getElem?_eq_some_iff.mp hi).1
        rw [List.all_toArray, List.all_eq_true] at z
        obtain ⟨x, r, q⟩ := (hf i).mp (by
          rw [List.getElem?_eq_getElem hil]
          exact z _ (List.getElem_mem hil))
        rw [hi] at q
        exact ⟨x, r, Option.some.inj q⟩
      rw [if_neg (by rw [hn]; exact Bool.false_ne_true)]
      have h1 := (hf 0).mpr h0
      rw [if_pos (by simpa using h1)]
      exact wpAny_pure hq
    · refine ⟨oneType', fun E x y a b Q ha hb hq => by
        rw [keyLt'_oneType]
        exact lt true E x y a b Q ha hb hq, fun h2 E Q hq => ?_⟩
      rw [kat_kind_eq, List.mapM_toArray, map_eq_pure_bind]
      refine wpAny_bind (wpAny_bind (firsts_any vs ds e ht fun fs hl hf => wpAny_pure ?_))
      have h1 : ¬ ((fs[0]?).bind id).isSome = true := fun z => h0 ((hf 0).mp z)
      have hn : (fs.toArray.all fun x => x.isSome) = false := by
        refine Bool.eq_false_iff.mpr fun z => h1 ?_
        rw [List.all_toArray, List.all_eq_true] at z
        have h0l : 0 < fs.length := by omega
        rw [List.getElem?_eq_getElem h0l]
        exact z _ (List.getElem_mem h0l)
      rw [if_neg (by rw [hn]; exact Bool.false_ne_true), if_neg (by simpa using h1)]
      have hT : ∀ v ∈ vs, Looks (model prog w) s.heap (typeOf v) (.type "tuple") := fun v hv => by
        obtain ⟨d, hd, as, r⟩ := e.left v hv
        obtain ⟨xs, rfl⟩ := ht d hd
        exact looks_reads r
      rw [oneTypeOnly'_eq, List.mapM_toArray, map_eq_pure_bind]
      refine wpAny_bind (wpAny_bind (wpAny_bind (kas_mapM (r := Value.type "tuple") _ (fun v hv Q' hq => (hT v hv).here hq) (wpAny_pure ?_))))
      obtain ⟨v₁, v₂, rest, rfl⟩ : ∃ v₁ v₂ rest, vs = v₁ :: v₂ :: rest := by
        match vs, h2 with
        | [], h2 => simp at h2
        | [_], h2 => simp at h2
        | v₁ :: v₂ :: rest, _ => exact ⟨v₁, v₂, rest, rfl⟩
      have hall : ((List.map (fun _ => Value.type "tuple") (v₁ :: v₂ :: rest)).toArray.all fun x => x == Value.type "tuple") = true := by
        simp only [List.all_toArray, List.all_map, List.all_eq_true]
        intro _ _
        exact beq_self_eq_true _
      have h00 : (List.map (fun _ => Value.type "tuple") (v₁ :: v₂ :: rest)).toArray[0]? = some (Value.type "tuple") := by simp
      rw [h00]
      simp only [hall, if_true]
      exact wpAny_pure (wpAny_pure hq)
end
end Py

namespace Py
open PySem PySem.Spec PyProof.Rows L2
/-! ### a set's members, sorted -/
theorem each_perm {α β : Type} {R : α → β → Prop} {as' as : List α} (p : as'.Perm as) : ∀ {bs : List β}, PySem.W.EachIs R as bs → ∃ bs', bs'.Perm bs ∧ PySem.W.EachIs R as' bs' := by
  induction p with
  | nil =>
    intro bs h
    cases h
    exact ⟨[], .refl _, .nil⟩
  | cons x _ ih =>
    intro bs h
    cases h with
    | cons r t =>
      obtain ⟨bs', p', t'⟩ := ih t
      exact ⟨_ :: bs', p'.cons _, .cons r t'⟩
  | swap x y l =>
    intro bs h
    cases h with
    | cons r t =>
      cases t with
      | cons r2 t2 => exact ⟨_, .swap _ _ _, .cons r2 (.cons r t2)⟩
  | trans _ _ ih1 ih2 =>
    intro bs h
    obtain ⟨b1, p1, t1⟩ := ih2 h
    obtain ⟨b2, p2, t2⟩ := ih1 t1
    exact ⟨b2, p2.trans p1, t2⟩
section
variable {P : Program} {w : World} {A : Around} {E : Value → Shared → Prop} {s : Shared}
theorem sorted_set_data {a : Addr} {es : Array (Int × Value)} {ep : Nat} {t : SetTable} {bs : List (V × D)} {Q : Value → Shared → Prop} (ha : SetAt s.heap a es ep t) (hf : t.fits es.size = true) (hsz : es.size < scanBound) (r : Ris t.place.toList)
    (hl : w.params.followText "set-order" = true ∨ t.led = true) (hh : A.handled = none)
    (hv : PySem.W.EachIs (fun v (b : V × D) => RelV b.1 v ∧ ∃ as, Reads s.heap v b.2 as) (es.toList.map (·.2)) bs) (hal : PySem.W.AllAlike (bs.map (·.2)))
    (hk : (∀ d ∈ bs.map (·.2), ∃ xs, d = .tuple xs) ∨ ∀ d ∈ bs.map (·.2), d ≠ .none ∧ ∀ xs, d ≠ .tuple xs) (hu : ∀ d ∈ bs.map (·.2), A.units + 2 + d.depth < cLine)
    (hQ : ∀ s' p (out : Array Value) (c : Nat) (bs' : List (V × D)), (∀ b o, s.heap.get? b = some o → s'.heap.get? b = some o) → s'.gens = s.gens → s'.os = s.os → s.heap.objs.size ≤ p → s'.heap.get? p = some (seqObj "list" out c) →
      bs'.Perm bs → PySem.W.EachIs (fun v (b : V × D) => RelV b.1 v) out.toList (sortP bs') → Q (.ref p) s') :
    wpAny (model P w) A (call (.builtin "sorted") [.ref a]) Q E s := by
  refine Calls.call_function_entry kind_sorted plain_sorted entry_sorted (args_sorted1 _) ?_
  unfold Builtin.«sorted»
  refine wpAny_bind (m := checkCount "sorted" 1 1 _) (wpAny_pure ?_)
  refine wpAny_bind (collect_set (A := A.in1) hh ha hf hsz r hl fun s1 vs k1 hz g1 o1 pm => ?_)
  obtain ⟨bs', pb, hv'⟩ := each_perm pm hv
  have hvl : vs.length ≤ sizeLine := by
    rw [pm.length_eq, List.length_map, Array.length_toList]
    exact fits_of_scanBound hsz
  refine wpAny_bind (wpAny_newList ?_ hvl)
  have hoL : (s1.heap.push (seqObj "list" vs.toArray 0)).get? s1.heap.objs.size = some (seqObj "list" vs.toArray 0) := Heap.get?_push_size _ rfl
  have hold : ∀ b o, s.heap.get? b = some o → (PySem.W.sortingHeap (s1.heap.push (seqObj "list" vs.toArray 0)) s1.heap.objs.size vs).get? b = some o := fun b o e => by
    have e1 := k1 b o e
    exact PySem.W.sortingHeap_old (Nat.ne_of_lt (Heap.lt_size e1)) (Heap.get?_push_of_some _ e1)
  have hread : PySem.W.EachIs (fun v (b : V × D) => ∃ as, Reads (PySem.W.sortingHeap (s1.heap.push (seqObj "list" vs.toArray 0)) s1.heap.objs.size vs) v b.2 as) vs bs' := hv'.mono fun v b q => by
    obtain ⟨as, e⟩ := q.2
    exact ⟨as, PySem.W.reads_keeps hold e⟩
  have pm2 : (bs'.map (·.2)).Perm (bs.map (·.2)) := pb.map _
  have hal' : PySem.W.AllAlike (bs'.map (·.2)) := fun d hd d' hd' => hal d (pm2.mem_iff.mp hd) d' (pm2.mem_iff.mp hd')
  have S : PySem.W.SortsAt P w A.in1.in1 { s1 with heap := PySem.W.sortingHeap (s1.heap.push (seqObj "list" vs.toArray 0)) s1.heap.objs.size vs } (PySem.W.dataKind (PySem.W.sortingHeap (s1.heap.push (seqObj "list" vs.toArray 0)) s1.heap.objs.size vs) (bs'.map (·.2))) vs := by
    have e := PySem.W.each_map (R := fun v d => ∃ as, Reads (PySem.W.sortingHeap (s1.heap.push (seqObj "list" vs.toArray 0)) s1.heap.objs.size vs) v d as) (fun b : V × D => b.2) hread
    have hu' : ∀ d, d ∈ bs'.map (·.2) → A.in1.in1.units + d.depth < cLine := fun d hd => by
      have := hu d (pm2.mem_iff.mp hd)
      show A.units + 1 + 1 + d.depth < cLine
      omega
    rcases hk with hk | hk
    · exact SortsAt.tups (s := { s1 with heap := PySem.W.sortingHeap (s1.heap.push (seqObj "list" vs.toArray 0)) s1.heap.objs.size vs }) e hal' (fun d hd => hk d (pm2.mem_iff.mp hd)) hu'
    · exact PySem.W.SortsAt.data (s := { s1 with heap := PySem.W.sortingHeap (s1.heap.push (seqObj "list" vs.toArray 0)) s1.heap.objs.size vs }) e hal' (.inr fun d hd => hk d (pm2.mem_iff.mp hd)) hu'
  have ev := PySem.W.sortVals_data (R := fun u (b : V × D) => RelV b.1 u) (enc := fun b : V × D => b.2) (vs := vs) (bs := bs') false (hv'.mono fun v b q => q.1) hread hal'
  refine wpAny_bind (wpAny_holding (wpAny_call_entry slot_list_sort ⟨_, hoL, rfl⟩ entry_list_sort (PySem.W.list_sort_vals (s := { s1 with heap := s1.heap.push (seqObj "list" vs.toArray 0) }) hoL S hvl ⟨_, rfl, ?_⟩) (args_list_sort _)))
  generalize PySem.W.sortVals (PySem.W.dataKind (PySem.W.sortingHeap (s1.heap.push (seqObj "list" vs.toArray 0)) s1.heap.objs.size vs) (bs'.map (·.2))) false vs vs = out at ev ⊢
  obtain ⟨c, hc⟩ := sortedHeap_at (vs := vs) (out := out.toArray) hoL
  refine wpAny_pure ⟨_, rfl, hQ _ s1.heap.objs.size out.toArray c bs' (fun b u e => ?_) g1 o1 hz hc pb ev⟩
  have q := k1 b u e
  have hlt := Heap.lt_size q
  show (sortedHeap (s1.heap.push (seqObj "list" vs.toArray 0)) s1.heap.objs.size vs out.toArray).get? b = some u
  rw [sortedHeap_old (Nat.ne_of_lt hlt) (by rw [size_push']; exact Nat.lt_succ_of_lt hlt)]
  exact Heap.get?_push_of_some _ q
/-! ### the set of a list of ints -/
theorem call_set_ints {l : Addr} {items : Array Value} {ns : List Int} {Q : Value → Shared → Prop} (hh : A.handled = none) (hl : s.heap.IsList l items) (hi : IntsAre items.toList ns) (hb : ns.length + 1 < scanBound)
    (h : ∀ (h' : Heap) (tk c : Nat), SetR w h' s.heap.objs.size (fun j => decide (j ∈ ns)) c → (∀ b o, s.heap.get? b = some o → h'.get? b = some o) → Q (.ref s.heap.objs.size) { s with heap := h', toks := tk }) :
    wpAny (model P w) A (call (.type "set") [.ref l]) Q E s := by
  have hsz : items.size = ns.length := by
    rw [← Array.length_toList]
    exact hi.length
  refine call_set_by hh hl (fun i h => ∃ c, c ≤ i ∧ SetR w h s.heap.objs.size (fun j => decide (j ∈ ns.take i)) c) (fun h _ ho => ⟨0, Nat.le_refl _, setR_new_at (ns := ns) ho⟩) (fun i h h' hk ⟨c, hc, hS⟩ => ⟨c, hc, hS.at fun o e => hk _ o (Nat.le_refl _) e⟩)
    (fun i v E' s' Q' hv ⟨c, hc, hS⟩ hq => ?_) fun h' tk ⟨c, _, hS⟩ hk => ?_
  · have hil : i < items.size := (Array.getElem?_eq_some_iff.mp hv).1
    obtain ⟨t, ht⟩ := hi.get i _ (List.getElem?_eq_getElem (by rw [← hsz]; exact hil))
    have e : v = .int ns[i] t := by
      rw [Array.getElem?_toList, hv] at ht
      exact Option.some.inj ht
    subst e
    unfold setAdd
    refine wpAny_holding ?_
    refine wpAny_bind ((intKind P w).pyHash (k := ns[i]) (intKind_is _ _ _ _) ?_)
    refine setR_add_hashed (s := { s' with toks := s'.toks + 1 }) hS (by omega) fun h' hsb hS2 => ?_
    refine hq _ h' (s'.toks + 1) (Nat.le_succ _) hsb ⟨_, ?_, hS2.congr fun j => ?_⟩
    · split <;> omega
    · have e1 : (j ∈ ns.take (i + 1)) ↔ (j ∈ ns.take i ∨ j = ns[i]) := by
        rw [take_next (List.getElem?_eq_getElem (by rw [← hsz]; exact hil)), List.mem_append, List.mem_singleton]
      by_cases q1 : j ∈ ns.take i
      · simp [e1, q1]
      · simp [e1, q1]
  · rw [hsz, List.take_length] at hS
    exact h h' tk c hS hk
/-! ### the set of a list of tuples of ints -/
theorem SetP.keep {h h' : Heap} {a : Addr} {L : List (Addr × List Int)} {es : Array (Int × Value)} {ep : Nat} {t : SetTable} (R : SetP P w h a L es ep t) (ha : ∀ o, h.get? a = some o → h'.get? a = some o) (ht : ∀ p ∈ L, IsT P w h' p.2 p.1) : SetP P w h' a L es ep t := by
  obtain ⟨o, ho, r⟩ := R.ob
  exact ⟨⟨o, ha o ho, r⟩, R.rows, R.tab, R.nd, ht, R.plain, R.led, R.room, R.few, R.cap⟩
theorem setP_fresh {h : Heap} {a : Addr} (ho : h.get? a = some (freshSet w)) : SetP P w h a [] #[] 0 (.fresh 0 0 (!w.params.followText "set-order")) where
  ob := ⟨_, ho, ⟨rfl, rfl, rfl⟩, rfl⟩
  rows := rfl
  tab := ⟨List.Pairwise.nil, rfl, rfl, ⟨3, rfl⟩, (by show 7 % 2 = 1; decide), fun i h j hi => (by simp at hi)⟩
  nd := List.nodup_nil
  tup := fun p hp => (by cases hp)
  plain := rfl
  led := by
    show _ ∨ (!w.params.followText "set-order") = true
    cases w.params.followText "set-order"
    · exact .inr rfl
    · exact .inl rfl
  room := by
    show 0 * 5 < 7 * 3
    decide
  few := Nat.zero_le _
  cap := by
    show 7 ≤ 8191
    decide
theorem call_set_tupsP {l : Addr} {items : Array Value} (ks : List (Addr × List Int)) {Q : Value → Shared → Prop} (hh : A.handled = none) (hl : s.heap.IsList l items) (hit : items.toList = ks.map fun p => Value.ref p.1)
    (hk : ∀ p ∈ ks, IsT P w s.heap p.2 p.1) (hfew : ks.length ≤ 2000) (hu : A.units + 3 < cLine)
    (h : ∀ (h' : Heap) (tk : Nat) L es ep t, SetP P w h' s.heap.objs.size L es ep t → Got ks ks.length L → (∀ b o, s.heap.get? b = some o → h'.get? b = some o) → Q (.ref s.heap.objs.size) { s with heap := h', toks := tk }) :
    wpAny (model P w) A (call (.type "set") [.ref l]) Q E s := by
  have hsz : items.size = ks.length := by
    rw [← Array.length_toList, hit, List.length_map]
  have sub : ∀ {i : Nat} {L : List (Addr × List Int)}, Got ks i L → ∀ p ∈ L, p ∈ ks := fun g p hp => List.mem_of_mem_take (g.sub p hp)
  refine call_set_by hh hl (fun i h => (∀ b o, s.heap.get? b = some o → h.get? b = some o) ∧ ∃ L es ep t, SetP P w h s.heap.objs.size L es ep t ∧ Got ks i L)
    (fun h hk0 ho => ⟨hk0, [], #[], 0, _, setP_fresh ho, Got.zero ks⟩) (fun i h h' hk' ⟨h1, L, es, ep, t, hS, g⟩ => ?_) (fun i v E' s' Q' hv ⟨h1, L, es, ep, t, hS, g⟩ hq => ?_) fun h' tk ⟨h1, L, es, ep, t, hS, g⟩ _ => ?_
  · have h2 : ∀ b o, s.heap.get? b = some o → h'.get? b = some o := fun b o e => hk' b o (Nat.le_of_lt (Heap.lt_size e)) (h1 b o e)
    exact ⟨h2, L, es, ep, t, hS.keep (fun o e => hk' _ o (Nat.le_refl _) e) fun p hp => isT_keep (hk p (sub g p hp)) h2, g⟩
  · have hil : i < ks.length := by
      rw [← hsz]
      exact (Array.getElem?_eq_some_iff.mp hv).1
    have e : v = .ref ks[i].1 := by
      have e1 : items.toList[i]? = some v := by rw [Array.getElem?_toList]; exact hv
      rw [hit, List.getElem?_map, List.getElem?_eq_getElem hil] at e1
      exact (Option.some.inj e1).symm
    subst e
    have hp : ks[i]? = some ks[i] := List.getElem?_eq_getElem hil
    have hx : IsT P w s'.heap ks[i].2 ks[i].1 := isT_keep (hk _ (List.getElem_mem hil)) h1
    have hu3 : A.in1.in1.in1.units < cLine := by
      show A.units + 1 + 1 + 1 < cLine
      omega
    unfold setAdd
    refine wpAny_holding ?_
    refine wpAny_bind (wpAny_pyHash_tuple hu3 hx ?_)
    refine sp_add (s := { s' with toks := s'.toks + (ks[i].2.length + 1) }) hS hx hu3 (by have := g.len; omega) fun b h' L' es' ep' t' hsb hS2 c1 c2 => ?_
    have g' : Got ks (i + 1) L' := by
      rcases Classical.em (ks[i].2 ∈ L.map (·.2)) with c | c
      · rw [c1 c]
        exact g.same hp c
      · exact g.more hp (c2 c)
    refine hq b h' _ (Nat.le_add_right _ _) hsb ⟨fun b o e => ?_, L', es', ep', t', hS2, g'⟩
    exact (hsb.2 b (Nat.ne_of_lt (Heap.lt_size e))).trans (h1 b o e)
  · rw [hsz] at g
    exact h h' tk L es ep t hS g h1
end
end Py

namespace Py
open PySem PySem.Spec PyProof.Rows L2 LamX
/-! ### plain: sorted sets -/
@[reducible] def tupD (k : List Int) : D := .tuple (k.map .int)
@[reducible] def tupsOf : List D → Option (List (List Int))
  | [] => some []
  | .tuple xs :: ds => (intsOf xs).bind fun k => (tupsOf ds).map (k :: ·)
  | _ => none
def sortT (ks : List (List Int)) : List (List Int) := ks.mergeSort fun a b => decide (a ≤ b)
theorem setS_aux {K : Type} [DecidableEq K] : ∀ (xs acc : List K), acc.Nodup → (xs.foldl setStep acc).Nodup ∧ ∀ k, k ∈ xs.foldl setStep acc ↔ k ∈ acc ∨ k ∈ xs
  | [], acc, h => ⟨h, fun k => by simp⟩
  | x :: xs, acc, h => by
    have h1 : (setStep acc x).Nodup := by
      unfold setStep
      split
      · exact h
      · rename_i q
        refine List.nodup_append.mpr ⟨h, by simp, fun a ha b hb => ?_⟩
        rw [List.mem_singleton.mp hb]
        intro z
        exact q (z ▸ ha)
    obtain ⟨a, b⟩ := setS_aux xs (setStep acc x) h1
    refine ⟨a, fun k => (b k).trans ?_⟩
    unfold setStep
    split
    · rename_i q
      constructor
      · rintro (z | z)
        · exact .inl z
        · exact .inr (List.mem_cons_of_mem _ z)
      · rintro (z | z)
        · exact .inl z
        · rcases List.mem_cons.mp z with rfl | z
          · exact .inl q
          · exact .inr z
    · rw [List.mem_append, List.mem_singleton, List.mem_cons, or_assoc]
theorem setS_nd {K : Type} [DecidableEq K] (xs : List K) : (setL xs).Nodup := (setS_aux xs [] List.nodup_nil).1
theorem setS_mem {K : Type} [DecidableEq K] {xs : List K} {k : K} : k ∈ setL xs ↔ k ∈ xs := by
  have := (setS_aux xs [] List.nodup_nil).2 k
  unfold setL
  rw [this]
  simp
theorem perm_of_mem {K : Type} {xs ys : List K} (h1 : xs.Nodup) (h2 : ys.Nodup) (h : ∀ k, k ∈ xs ↔ k ∈ ys) : xs.Perm ys := (List.perm_ext_iff_of_nodup h1 h2).mpr h
theorem sortT_perm (ks : List (List Int)) : (sortT ks).Perm ks := List.mergeSort_perm _ _
theorem sortT_uniq {xs ys : List (List Int)} (h1 : ys.Perm xs) : sortT ys = sortT xs := by
  have tr : ∀ a b c : List Int, decide (a ≤ b) = true → decide (b ≤ c) = true → decide (a ≤ c) = true := fun a b c h1 h2 => decide_eq_true (List.le_trans (of_decide_eq_true h1) (of_decide_eq_true h2))
  have tt : ∀ a b : List Int, (decide (a ≤ b) || decide (b ≤ a)) = true := fun a b => by
    rcases List.le_total a b with h | h
    · rw [decide_eq_true h]
      rfl
    · rw [decide_eq_true h, Bool.or_true]
  refine List.Perm.eq_of_pairwise (le := fun a b => decide (a ≤ b) = true) (fun a b _ _ h1 h2 => List.le_antisymm (of_decide_eq_true h1) (of_decide_eq_true h2)) (List.pairwise_mergeSort tr tt _) (List.pairwise_mergeSort tr tt _) ?_
  exact ((List.mergeSort_perm _ _).trans h1).trans (List.mergeSort_perm _ _).symm
theorem dataLe_tup : (fun a b : List Int => !PySem.W.dataLt (tupD b) (tupD a)) = fun a b => decide (a ≤ b) := by
  have h := PySem.W.dataLe_rows (β := List Int) id
  funext a b
  have h1 := congrFun (congrFun h a) b
  exact h1
theorem sortP_map {α : Type} (f : α → V × D) (l : List α) : sortP (l.map f) = (l.mergeSort fun a b => !PySem.W.dataLt (f b).2 (f a).2).map f := by
  unfold sortP
  exact (List.map_mergeSort (f := f) (r := fun a b => !PySem.W.dataLt (f b).2 (f a).2) (s := fun a b : V × D => !PySem.W.dataLt b.2 a.2) fun _ _ _ _ => rfl).symm
/-- what a sort of alike pairs with other marks is -/
theorem map_of_perm {α β : Type} (f : α → β) {bs' : List β} {l : List α} (h : bs'.Perm (l.map f)) : ∃ l' : List α, bs' = l'.map f ∧ l'.Perm l := by
  have e : PySem.W.EachIs (fun b a => b = f a) (l.map f) l := by
    induction l with
    | nil => exact .nil
    | cons x l ih =>
      exact .cons rfl (by
        clear ih h
        induction l with
        | nil => exact .nil
        | cons y l ih => exact .cons rfl ih)
  obtain ⟨l', p, q⟩ := each_perm h e
  refine ⟨l', ?_, p⟩
  clear p h e
  induction q with
  | nil => rfl
  | cons r _ ih => rw [List.map_cons, ih, r]
@[reducible] def pSortSetI : D → R D
  | .list ds => if ds.length < 2000 then (match intsOf ds with
    | some xs => .ok (.list ((sortI (setL xs)).map .int))
    | none => .bad) else .bad
  | _ => .bad
@[reducible] def pSortSetT : D → R D
  | .list ds => if ds.length ≤ 2000 then (match tupsOf ds with
    | some ks => .ok (.list ((sortT (setL ks)).map tupD))
    | none => .bad) else .bad
  | _ => .bad
@[reducible] def pLenSetT : D → R D
  | .list ds => if ds.length ≤ 2000 then (match tupsOf ds with
    | some ks => .ok (.int ((setL ks).length : Nat))
    | none => .bad) else .bad
  | _ => .bad
@[reducible] def rSortSetI (f : Rho → R D) : Rho → R D := fun ρ => (f ρ).bind pSortSetI
@[reducible] def rSortSetT (f : Rho → R D) : Rho → R D := fun ρ => (f ρ).bind pSortSetT
@[reducible] def rLenSetT (f : Rho → R D) : Rho → R D := fun ρ => (f ρ).bind pLenSetT
theorem tupsOf_dd {K : PySem.W.Frag} {F : Hp} : ∀ {ds : List D} {kss : List (List Int)} {vs : List V}, tupsOf ds = some kss → DdAll K F vs ds → ∃ ks : List (Addr × List Int), vs = ks.map (fun p => V.ref p.1) ∧ ks.map (·.2) = kss ∧ ∀ p ∈ ks, SqT K F p.1 (p.2.map V.int)
  | [], _, _, h, .nil => by
    cases h
    exact ⟨[], rfl, rfl, fun p hp => by cases hp⟩
  | .tuple xs :: ds, kss, _, h, .cons (.tup (a := a) hs hx) t => by
    have h1 : ((intsOf xs).bind fun k => (tupsOf ds).map (k :: ·)) = some kss := h
    cases q : intsOf xs with
    | none =>
      rw [q] at h1
      cases h1
    | some k =>
      cases q2 : tupsOf ds with
      | none =>
        rw [q, q2] at h1
        cases h1
      | some k2 =>
        rw [q, q2] at h1
        cases h1
        obtain ⟨ks, e1, e2, e3⟩ := tupsOf_dd q2 t
        have e := intsOf_dd q hx
        subst e
        refine ⟨(a, k) :: ks, by rw [e1]; rfl, by rw [List.map_cons, e2], fun p hp => ?_⟩
        rcases List.mem_cons.mp hp with rfl | hp
        · exact hs
        · exact e3 p hp
theorem dd_tupD {K : PySem.W.Frag} {F : Hp} {p : Addr} {k : List Int} (h : SqT K F p (k.map V.int)) : Dd K F (.ref p) (tupD k) := .tup h (ddAll_ints k)
theorem reads_ints {h : Heap} : ∀ {us : List Value} {k : List Int} {P : Program} {w : World}, ItemsAre (intKind P w) k us → ∃ as, ReadsAll h us (k.map .int) as
  | _, _, _, _, .nil => ⟨_, .nil⟩
  | _, _, P, w, .cons (k := k) (v := v) h1 t => by
    obtain ⟨as, r⟩ := reads_ints (h := h) t
    obtain ⟨tk, rfl⟩ : ∃ tk, v = .int k tk := by
      have := ints_of_items (P := P) (w := w) (.cons h1 .nil)
      cases this with
      | cons n t _ => exact ⟨t, rfl⟩
    exact ⟨_, .cons (.int _ _) r⟩
theorem reads_tup {P : Program} {w : World} {h : Heap} {k : List Int} {b : Addr} (x : IsT P w h k b) : ∃ as, Reads h (.ref b) (tupD k) as := by
  obtain ⟨o, items, n, ho, hc, hd, hi⟩ := x
  obtain ⟨as, r⟩ := reads_ints (h := h) hi
  exact ⟨as, .tuple ho hc hd r⟩
theorem alike_ints : ∀ (x y : List Int), PySem.W.alikeAll (x.map .int) (y.map .int) = true
  | [], y => by cases y <;> simp [PySem.W.alikeAll]
  | a :: x, [] => by simp [PySem.W.alikeAll]
  | a :: x, b :: y => by simp [PySem.W.alikeAll, PySem.W.alike, alike_ints x y]
theorem alike_tupD (x y : List Int) : PySem.W.alike (tupD x) (tupD y) = true := by
  show PySem.W.alike (.tuple _) (.tuple _) = true
  rw [PySem.W.alike]
  exact alike_ints x y
theorem depth_ints : ∀ x : List Int, PyData.depthAll (x.map .int) ≤ 1
  | [] => by simp [PyData.depthAll]
  | a :: x => by
    have := depth_ints x
    simp [PyData.depthAll, PyData.depth]
    omega
theorem depth_tupD (x : List Int) : (tupD x).depth ≤ 2 := by
  have := depth_ints x
  show (PyData.tuple _).depth ≤ 2
  rw [PyData.depth]
  omega
section
variable {X : Cx} {G : Gb} {E : XK} {a : Expr} {fa : Rho → R D}
def tSortSetI (K : PySem.W.Frag) (ta : TE) : TE := fun σ H Q => ta σ H fun x H1 => ∃ l ns, x = .ref l ∧ SqL K H1 l (ns.map V.int) ∧ ns.length < 2000 ∧ ∀ p, H1 p = none → Q (.ref p) (upd H1 p (.lst ((sortI (setL ns)).map V.int)))
theorem inv_new {pins : List (Addr × Obj)} {σ : L2.St} {H : Hp} {s s' : Shared} {p : Addr} {out : Array Value} {c : Nat} {vs : List V} (I : Inv X pins σ H s) (k : ∀ b o, s.heap.get? b = some o → s'.heap.get? b = some o) (g : s'.gens = s.gens) (o : s'.os = s.os) (hp : s.heap.objs.size ≤ p)
    (hg : s'.heap.get? p = some (seqObj "list" out c)) (hv : Vals vs out.toList) (hl : vs.length ≤ sizeLine) : Inv X pins σ (upd H p (.lst vs)) s' := by
  have hn : H p = none := I.hok.fresh hp
  have J : Inv X pins σ (upd H p (.lst vs)) { s with heap := s'.heap, gens := s'.gens, drawn := s'.drawn, toks := s'.toks } :=
    I.call (ch := []) (Un.laid k hp hn) (I.hok.laid k hp ⟨hl, out.toList, c, hv, hg⟩) (by rw [g]; exact I.bare) (fun _ z => nomatch z)
  have e : s' = { s with heap := s'.heap, gens := s'.gens, drawn := s'.drawn, toks := s'.toks } := by
    cases s'
    cases s
    cases o
    rfl
  rw [e]
  exact J
theorem pe_sortSetI {ta : TE} {p p2 q pos : Pos} (hc : X.calm = true) (hu : X.A.units + 65 < cLine) (hg : Gl X "sorted") (hm : X.mg "sorted" = none) (hg2 : Gl X "set") (hm2 : X.mg "set" = none) (ha : PE X a ta)
    (na : starEach [a] X.env = (false, eval a X.env) :: starEach [] X.env := by rfl) : PE X (.Call (.Name "sorted" p) [.Call (.Name "set" p2) [a] [] q] [] pos) (tSortSetI X.K ta) := by
  refine ⟨fun pins s σ H Q I h => ?_⟩
  refine Call_ (ld_blt I hg hm (by decide +kernel : bootBuiltins "sorted" = some (.builtin "sorted")) ?_)
  refine PyProof.Rows.callWith_builtin1 (PyProof.Rows.args_cons ?_ rfl) rfl rfl
  refine Call_ (ld_blt I hg2 hm2 boot_set ?_)
  refine PyProof.Rows.callWith_type1 (PyProof.Rows.args_cons (thn (ha.run pins s σ H _ I h) fun v s1 ⟨x, H1, I1, r1, q1⟩ => PyProof.Rows.args_nil ?_) na) na rfl
  obtain ⟨l, ns, rfl, hq, hb, q1⟩ := q1
  cases r1
  obtain ⟨its, r, pl, hz⟩ := I1.list hq
  refine call_set_ints (ns := ns) (I1.ok.hd hc) pl.isList (by simpa using ints_of_vals r) (by unfold scanBound; omega) fun h' tk c R hk => PyProof.Rows.args_nil ?_
  have I2 : Inv X pins σ H1 { s1 with heap := h', toks := tk } := I1.kept hk
  obtain ⟨o, es, ep, t, ho, hex, hd, g, nd, hmem, hbs, hf, hn, hr, hl⟩ := R
  have hvals : PySem.W.EachIs (fun v (b : V × D) => RelV b.1 v ∧ ∃ as, Reads h' v b.2 as) (es.toList.map (·.2)) ((es.toList.map keyOf).map fun k => (V.int k, PyData.int k)) := by
    clear hmem nd
    generalize es.toList = l at g
    induction l with
    | nil => exact .nil
    | cons e l ih =>
      obtain ⟨k, tk, e1, _⟩ := g e (List.mem_cons_self ..)
      have e2 : keyOf e = k := by
        unfold keyOf
        rw [e1]
      refine .cons ⟨⟨tk, ?_⟩, [], ?_⟩ (ih fun e he => g e (List.mem_cons_of_mem _ he))
      · show e.2 = Value.int (keyOf e) tk
        rw [e1, e2]
      · show Reads h' e.2 (PyData.int (keyOf e)) []
        rw [e1, e2]
        exact .int _ _
  refine sorted_set_data (s := { s1 with heap := h', toks := tk }) ⟨o, ho, hex.1, hd⟩ hf hbs hr hl (I1.ok.hd hc) hvals (fun d hd d' hd' => ?_) (.inr fun d hd => ?_) (fun d hd => ?_) fun s' p out c bs' k g1 o1 hp hgt pb ev => ?_
  · simp only [List.mem_map] at hd hd'
    obtain ⟨b, ⟨k, _, rfl⟩, rfl⟩ := hd
    obtain ⟨b', ⟨k', _, rfl⟩, rfl⟩ := hd'
    rfl
  · simp only [List.mem_map] at hd
    obtain ⟨b, ⟨k, _, rfl⟩, rfl⟩ := hd
    exact ⟨fun z => (by cases z), fun xs z => (by cases z)⟩
  · simp only [List.mem_map] at hd
    obtain ⟨b, ⟨k, _, rfl⟩, rfl⟩ := hd
    show X.A.units + 2 + (PyData.int k).depth < cLine
    rw [PyData.depth]
    omega
  · obtain ⟨ms, e1, pm⟩ := map_of_perm _ pb
    rw [e1, sortP_map] at ev
    have hsrt : (ms.mergeSort fun a b => !PySem.W.dataLt (PyData.int b) (PyData.int a)) = sortI (setL ns) := by
      have le : (fun a b : Int => !PySem.W.dataLt (PyData.int b) (PyData.int a)) = fun a b => decide (a ≤ b) := by
        funext a b
        rw [PySem.W.dataLt_int, PySem.W.not_lt_int]
      rw [le]
      have pset : ms.Perm (setL ns) := perm_of_mem (pm.nodup_iff.mpr nd) (setS_nd ns) fun k => by
        rw [pm.mem_iff, ← hmem k, setS_mem]
        simp
      rw [sortI_uniq ((List.mergeSort_perm _ _).trans pset) ?_]
      have := List.pairwise_mergeSort (le := fun a b : Int => decide (a ≤ b)) (fun a b c h1 h2 => by simp at *; omega) (fun a b => by simp; omega) ms
      exact this.imp fun h => by simpa using h
    rw [hsrt] at ev
    have hv := each_vals ev
    rw [List.map_map] at hv
    have e3 : ((fun x : V × D => x.1) ∘ fun k : Int => (V.int k, PyData.int k)) = V.int := rfl
    rw [e3] at hv
    have hlen : ((sortI (setL ns)).map V.int).length ≤ sizeLine := by
      rw [List.length_map, (sortI_perm _).length_eq]
      have := setL_len ns
      exact maxL_line (by unfold maxL; omega)
    exact ⟨.ref p, _, inv_new I2 k g1 o1 hp hgt hv hlen, rfl, q1 p (I2.hok.fresh hp)⟩
theorem e_sortSetI {p p2 q pos : Pos} (hc : X.calm = true) (hu : X.A.units + 65 < cLine) (hm : X.mg "sorted" = none) (hm2 : X.mg "set" = none) (ha : PE X a (tE G E fa)) (hg : Gl X "sorted" := by rfl) (hg2 : Gl X "set" := by rfl) (na : starEach [a] X.env = (false, eval a X.env) :: starEach [] X.env := by rfl) (hK : X.K = G.K := by rfl) :
    PE X (.Call (.Name "sorted" p) [.Call (.Name "set" p2) [a] [] q] [] pos) (tE G E (rSortSetI fa)) :=
  pe_imp (pe_sortSetI hc hu hg hm hg2 hm2 ha na) fun σ H Q ⟨ρ, F, e, b, h⟩ => ⟨ρ, F, e, b, PostR.seq h fun d x F1 H1 _ s1 d1 h1 => by
    rw [hK]
    cases d1 with
    | @lst p vs ds hp hd =>
      have h2 : PostR G (Dd G.K) E F1 H1 Q (if ds.length < 2000 then (match intsOf ds with
        | some xs => .ok (.list ((sortI (setL xs)).map .int))
        | none => .bad) else .bad) := h1
      split at h2
      · rename_i hb
        split at h2
        · rename_i xs q
          have e := intsOf_dd q hd
          subst e
          refine ⟨p, xs, rfl, SqL.of (s1.base.sub _ _ hp), by rw [← hd.length, List.length_map] at hb; exact hb, fun r hr => ?_⟩
          exact PostR.new h2 s1.base hr lst_ne (.lst upd_same (ddAll_ints _))
        · exact (show False from h2).elim
      · exact (show False from h2).elim
    | _ => exact (show False from h1).elim⟩
/-! ### tuples -/
def tSortSetT (K : PySem.W.Frag) (ta : TE) : TE := fun σ H Q => ta σ H fun x H1 => ∃ l, ∃ ks : List (Addr × List Int), x = .ref l ∧ SqL K H1 l (ks.map fun p => V.ref p.1) ∧ (∀ p ∈ ks, SqT K H1 p.1 (p.2.map V.int)) ∧ ks.length ≤ 2000 ∧
  ∀ (L : List (Addr × List Int)) p, (∀ q ∈ L, q ∈ ks) → L.map (·.2) = sortT (setL (ks.map (·.2))) → H1 p = none → Q (.ref p) (upd H1 p (.lst (L.map fun q => V.ref q.1)))
def tLenSetT (K : PySem.W.Frag) (ta : TE) : TE := fun σ H Q => ta σ H fun x H1 => ∃ l, ∃ ks : List (Addr × List Int), x = .ref l ∧ SqL K H1 l (ks.map fun p => V.ref p.1) ∧ (∀ p ∈ ks, SqT K H1 p.1 (p.2.map V.int)) ∧ ks.length ≤ 2000 ∧
  Q (.int ((setL (ks.map (·.2))).length : Nat)) H1
theorem got_perm {ks L : List (Addr × List Int)} (g : Got ks ks.length L) (nd : (L.map (·.2)).Nodup) : (L.map (·.2)).Perm (setL (ks.map (·.2))) := perm_of_mem nd (setS_nd _) fun k => by
  rw [setS_mem]
  constructor
  · intro h
    obtain ⟨p, hp, rfl⟩ := List.mem_map.mp h
    exact List.mem_map.mpr ⟨p, List.mem_of_mem_take (g.sub p hp), rfl⟩
  · intro h
    obtain ⟨p, hp, rfl⟩ := List.mem_map.mp h
    exact g.all p (by rw [List.take_length]; exact hp)
theorem pe_lenSetT {ta : TE} {p p2 q pos : Pos} (hc : X.calm = true) (hu : X.A.units + 65 < cLine) (hg : Gl X "len") (hm : X.mg "len" = none) (hg2 : Gl X "set") (hm2 : X.mg "set" = none) (ha : PE X a ta)
    (na : starEach [a] X.env = (false, eval a X.env) :: starEach [] X.env := by rfl) : PE X (.Call (.Name "len" p) [.Call (.Name "set" p2) [a] [] q] [] pos) (tLenSetT X.K ta) := by
  refine ⟨fun pins s σ H Q I h => ?_⟩
  refine Call_ (ld_blt I hg hm boot_len ?_)
  refine PyProof.Rows.callWith_builtin1 (PyProof.Rows.args_cons ?_ rfl) rfl rfl
  refine Call_ (ld_blt I hg2 hm2 boot_set ?_)
  refine PyProof.Rows.callWith_type1 (PyProof.Rows.args_cons (thn (ha.run pins s σ H _ I h) fun v s1 ⟨x, H1, I1, r1, q1⟩ => PyProof.Rows.args_nil ?_) na) na rfl
  obtain ⟨l, ks, rfl, hq, hk, hb, q1⟩ := q1
  cases r1
  obtain ⟨its, r, pl, hz⟩ := I1.list hq
  refine call_set_tupsP (P := X.prog) (w := X.w) ks (I1.ok.hd hc) pl.isList (by simpa using refs_of_vals r) (fun p hp => I1.isT (hk p hp)) hb (by omega) fun h' tk L es ep t R g kk => PyProof.Rows.args_nil ?_
  have I2 : Inv X pins σ H1 { s1 with heap := h', toks := tk } := I1.kept kk
  obtain ⟨o, ho, hex, hd⟩ := R.ob
  have hl := rows_len R.rows
  have hn : (es.size : Int) = ((setL (ks.map (·.2))).length : Nat) := by
    rw [hl, ← (got_perm g R.nd).length_eq, List.length_map]
  refine call_len_set (s := { s1 with heap := h', toks := tk }) ho hex hd R.fits (by have := R.few; rw [hl]; omega) ⟨.int ((setL (ks.map (·.2))).length : Nat), H1, I2.tok _, ⟨_, by rw [hn]⟩, q1⟩
theorem pe_sortSetT {ta : TE} {p p2 q pos : Pos} (hc : X.calm = true) (hu : X.A.units + 65 < cLine) (hg : Gl X "sorted") (hm : X.mg "sorted" = none) (hg2 : Gl X "set") (hm2 : X.mg "set" = none) (ha : PE X a ta)
    (na : starEach [a] X.env = (false, eval a X.env) :: starEach [] X.env := by rfl) : PE X (.Call (.Name "sorted" p) [.Call (.Name "set" p2) [a] [] q] [] pos) (tSortSetT X.K ta) := by
  refine ⟨fun pins s σ H Q I h => ?_⟩
  refine Call_ (ld_blt I hg hm (by decide +kernel : bootBuiltins "sorted" = some (.builtin "sorted")) ?_)
  refine PyProof.Rows.callWith_builtin1 (PyProof.Rows.args_cons ?_ rfl) rfl rfl
  refine Call_ (ld_blt I hg2 hm2 boot_set ?_)
  refine PyProof.Rows.callWith_type1 (PyProof.Rows.args_cons (thn (ha.run pins s σ H _ I h) fun v s1 ⟨x, H1, I1, r1, q1⟩ => PyProof.Rows.args_nil ?_) na) na rfl
  obtain ⟨l, ks, rfl, hq, hk, hb, q1⟩ := q1
  cases r1
  obtain ⟨its, r, pl, hz⟩ := I1.list hq
  refine call_set_tupsP (P := X.prog) (w := X.w) ks (I1.ok.hd hc) pl.isList (by simpa using refs_of_vals r) (fun p hp => I1.isT (hk p hp)) hb (by omega) fun h' tk L es ep t R g kk => PyProof.Rows.args_nil ?_
  have I2 : Inv X pins σ H1 { s1 with heap := h', toks := tk } := I1.kept kk
  obtain ⟨o, ho, hex, hd⟩ := R.ob
  have hl := rows_len R.rows
  have hvals : PySem.W.EachIs (fun v (b : V × D) => RelV b.1 v ∧ ∃ as, Reads h' v b.2 as) (es.toList.map (·.2)) (L.map fun p => (V.ref p.1, tupD p.2)) := by
    have ht := R.tup
    rw [R.rows]
    unfold rowsOf
    rw [List.map_map]
    clear hl R g hd
    induction L with
    | nil => exact .nil
    | cons p L ih => exact .cons ⟨rfl, reads_tup (ht p (List.mem_cons_self ..))⟩ (ih fun p hp => ht p (List.mem_cons_of_mem _ hp))
  refine sorted_set_data (s := { s1 with heap := h', toks := tk }) ⟨o, ho, hex.1, hd⟩ R.fits (by have := R.few; rw [hl]; unfold scanBound; omega) R.tab.ris R.led (I1.ok.hd hc) hvals (fun d hd d' hd' => ?_) (.inl fun d hd => ?_) (fun d hd => ?_) fun s' p out c bs' k g1 o1 hp hgt pb ev => ?_
  · simp only [List.mem_map] at hd hd'
    obtain ⟨b, ⟨k, _, rfl⟩, rfl⟩ := hd
    obtain ⟨b', ⟨k', _, rfl⟩, rfl⟩ := hd'
    exact alike_tupD _ _
  · simp only [List.mem_map] at hd
    obtain ⟨b, ⟨k, _, rfl⟩, rfl⟩ := hd
    exact ⟨_, rfl⟩
  · simp only [List.mem_map] at hd
    obtain ⟨b, ⟨k, _, rfl⟩, rfl⟩ := hd
    have := depth_tupD k.2
    show X.A.units + 2 + (tupD k.2).depth < cLine
    omega
  · obtain ⟨ms, e1, pm⟩ := map_of_perm _ pb
    rw [e1, sortP_map] at ev
    have hv := each_vals ev
    rw [List.map_map] at hv
    have hmem : ∀ q ∈ ms.mergeSort (fun a b => !PySem.W.dataLt (tupD b.2) (tupD a.2)), q ∈ ks := fun q hq' => List.mem_of_mem_take (g.sub q (pm.mem_iff.mp ((List.mergeSort_perm _ _).mem_iff.mp hq')))
    have hsnd : (ms.mergeSort (fun a b => !PySem.W.dataLt (tupD b.2) (tupD a.2))).map (·.2) = sortT (setL (ks.map (·.2))) := by
      rw [List.map_mergeSort (f := fun p : Addr × List Int => p.2) (r := fun a b => !PySem.W.dataLt (tupD b.2) (tupD a.2)) (s := fun a b : List Int => !PySem.W.dataLt (tupD b) (tupD a)) fun _ _ _ _ => rfl]
      rw [dataLe_tup]
      exact sortT_uniq ((pm.map (·.2)).trans (got_perm g R.nd))
    have hlen : ((ms.mergeSort (fun a b => !PySem.W.dataLt (tupD b.2) (tupD a.2))).map fun q => V.ref q.1).length ≤ sizeLine := by
      rw [List.length_map, (List.mergeSort_perm _ _).length_eq, pm.length_eq]
      have := R.few
      exact maxL_line (by unfold maxL; omega)
    exact ⟨.ref p, _, inv_new I2 k g1 o1 hp hgt hv hlen, rfl, q1 _ p hmem hsnd (I2.hok.fresh hp)⟩
theorem e_lenSetT {p p2 q pos : Pos} (hc : X.calm = true) (hu : X.A.units + 65 < cLine) (hm : X.mg "len" = none) (hm2 : X.mg "set" = none) (ha : PE X a (tE G E fa)) (hg : Gl X "len" := by rfl) (hg2 : Gl X "set" := by rfl) (na : starEach [a] X.env = (false, eval a X.env) :: starEach [] X.env := by rfl) (hK : X.K = G.K := by rfl) :
    PE X (.Call (.Name "len" p) [.Call (.Name "set" p2) [a] [] q] [] pos) (tE G E (rLenSetT fa)) :=
  pe_imp (pe_lenSetT hc hu hg hm hg2 hm2 ha na) fun σ H Q ⟨ρ, F, e, b, h⟩ => ⟨ρ, F, e, b, PostR.seq h fun d x F1 H1 _ s1 d1 h1 => by
    rw [hK]
    cases d1 with
    | @lst p vs ds hp hd =>
      have h2 : PostR G (Dd G.K) E F1 H1 Q (if ds.length ≤ 2000 then (match tupsOf ds with
        | some ks => .ok (.int ((setL ks).length : Nat))
        | none => .bad) else .bad) := h1
      split at h2
      · rename_i hb
        split at h2
        · rename_i kss q
          obtain ⟨ks, e1, e2, e3⟩ := tupsOf_dd q hd
          subst e1
          subst e2
          refine ⟨p, ks, rfl, SqL.of (s1.base.sub _ _ hp), fun p hp => s1.base.sub.sqT (e3 p hp), by rw [← hd.length, List.length_map] at hb; exact hb, ?_⟩
          exact PostR.val h2 s1.base (.int _)
        · exact (show False from h2).elim
      · exact (show False from h2).elim
    | _ => exact (show False from h1).elim⟩
theorem e_sortSetT {p p2 q pos : Pos} (hc : X.calm = true) (hu : X.A.units + 65 < cLine) (hm : X.mg "sorted" = none) (hm2 : X.mg "set" = none) (ha : PE X a (tE G E fa)) (hg : Gl X "sorted" := by rfl) (hg2 : Gl X "set" := by rfl) (na : starEach [a] X.env = (false, eval a X.env) :: starEach [] X.env := by rfl) (hK : X.K = G.K := by rfl) :
    PE X (.Call (.Name "sorted" p) [.Call (.Name "set" p2) [a] [] q] [] pos) (tE G E (rSortSetT fa)) :=
  pe_imp (pe_sortSetT hc hu hg hm hg2 hm2 ha na) fun σ H Q ⟨ρ, F, e, b, h⟩ => ⟨ρ, F, e, b, PostR.seq h fun d x F1 H1 _ s1 d1 h1 => by
    rw [hK]
    cases d1 with
    | @lst p vs ds hp hd =>
      have h2 : PostR G (Dd G.K) E F1 H1 Q (if ds.length ≤ 2000 then (match tupsOf ds with
        | some ks => .ok (.list ((sortT (setL ks)).map tupD))
        | none => .bad) else .bad) := h1
      split at h2
      · rename_i hb
        split at h2
        · rename_i kss q
          obtain ⟨ks, e1, e2, e3⟩ := tupsOf_dd q hd
          subst e1
          subst e2
          refine ⟨p, ks, rfl, SqL.of (s1.base.sub _ _ hp), fun p hp => s1.base.sub.sqT (e3 p hp), by rw [← hd.length, List.length_map] at hb; exact hb, fun L r hL1 hL2 hr => ?_⟩
          refine PostR.new h2 s1.base hr lst_ne (.lst upd_same (dd_self (s1.base.free hr) ?_))
          rw [← hL2, List.map_map]
          clear h2 hL2
          induction L with
          | nil => exact .nil
          | cons q L ih => exact .cons (dd_tupD (e3 q (hL1 q (List.mem_cons_self ..)))) (ih fun q hq => hL1 q (List.mem_cons_of_mem _ hq))
        · exact (show False from h2).elim
      · exact (show False from h2).elim
    | _ => exact (show False from h1).elim⟩
end
end Py

namespace Py
open PySem PySem.Spec PyProof.Rows L2 LamX
/-! ### is, is not: truth values -/
section
variable {X : Cx} {G : Gb} {E : XK}
def rIsBl : R2 := fun x y H Q => ∃ a b, x = .bl a ∧ y = .bl b ∧ Q (.bl (decide (a = b))) H
def rNotBl : R2 := fun x y H Q => ∃ a b, x = .bl a ∧ y = .bl b ∧ Q (.bl (!decide (a = b))) H
theorem op_isBl' : OpR X (compareOp .Is) rIsBl := op_is_bl
theorem op_notBl' : OpR X (compareOp .IsNot) rNotBl := op_isnot_bl
@[reducible] def pIsB (a b : D) : R D := match a, b with
  | .bool x, .bool y => .ok (.bool (decide (x = y)))
  | _, _ => .bad
@[reducible] def pIsNotB (a b : D) : R D := match a, b with
  | .bool x, .bool y => .ok (.bool (!decide (x = y)))
  | _, _ => .bad
theorem d_isB : OpD G rIsBl pIsB := fun E F H x y a b Q bs ha hb h => by
  cases ha <;> cases hb <;> first | exact (show False from h).elim | skip
  exact ⟨_, _, rfl, rfl, PostR.val h bs (.bl _)⟩
theorem d_isNotB : OpD G rNotBl pIsNotB := fun E F H x y a b Q bs ha hb h => by
  cases ha <;> cases hb <;> first | exact (show False from h).elim | skip
  exact ⟨_, _, rfl, rfl, PostR.val h bs (.bl _)⟩
end
end Py

namespace Py
open PySem PySem.Spec PyProof.Rows L2 LamX
section
variable {X : Cx} {G : Gb} {E : XK} {a b la : Expr} {fa fb : Rho → R D} {pos : Pos}
/-- x, y = list(e), [] where both are changed -/
@[reducible] def gParL (i j : Nat) (f : Rho → R D) : Rho → O := fun ρ => oB (f ρ) fun d => oB (asL d) fun ds => .nx ((ρ.set i (.own ds)).set j (.own []))
theorem s_parL (i j : Nat) {x y : Str} {px py pt pl : Pos} {kt k2 pt2} (hN : X.N.Nodup) (ha : PE X a (tE G E fa))
    (hl : ∀ {t : TE}, PE X a t → PE X la (tCB (fun xs H Q => ∃ p ys, xs = [.ref p] ∧ (SqL X.K H p ys ∨ SqT X.K H p ys) ∧ ∀ l, H l = none → Q (.ref l) (upd H l (.lst ys))) (tCons t tNil)))
    (hc : X.calm = true := by rfl) (hi : X.N[i]? = some x := by rfl) (hj : X.N[j]? = some y := by rfl) (hij : i ≠ j := by decide)
    (hx : X.env.scope.names.lookup x = some .local := by rfl) (hy : X.env.scope.names.lookup y = some .local := by rfl) (he : starEach [la, .List [] pl] X.env = (false, eval la X.env) :: starEach [.List [] pl] X.env := by rfl)
    (hw : swappedStores [.Tuple [.Name x px, .Name y py] kt pt] (.Tuple [la, .List [] pl] k2 pt2) X.env = pure (some [x, y]) := by rfl) (hs : swapsWithSole [.Tuple [.Name x px, .Name y py] kt pt] (.Tuple [la, .List [] pl] k2 pt2) pos.line X.env = pure false := by rfl) :
    PS X (.Assign [.Tuple [.Name x px, .Name y py] kt pt] (.Tuple [la, .List [] pl] k2 pt2) pos) (tS G E (gParL i j fa)) :=
  ps_imp (ps_par hc hN hi hj hij hx hy (pa_cons (hl ha) (pa_cons (pe_lst pa_nil) pa_nil) he) hw hs) fun D σ H ⟨F0, H0, ρ, F, i0, h⟩ =>
    ⟨ρ, F, i0.env, i0.base, PostO.seq h i0.st fun d v F1 H1 _ s1 d1 h1 => by
      cases d1 with
      | @lst p vs ds hp hd =>
        refine ⟨p, vs, rfl, .inl (SqL.of (s1.base.sub _ _ hp)), fun l hl => ?_⟩
        have i2 := (i0.step s1).mkOwn i hl hd
        exact ⟨Nat.zero_le _, fun q hq => ⟨.ref l, .ref q, rfl, h1 _ F1 _ (i2.mkOwn j hq .nil)⟩⟩
      | _ => exact (show False from h1).elim⟩
theorem DdAll.erase {K : PySem.W.Frag} {F : Hp} : ∀ {vs : List V} {ds : List D} (n : Nat), DdAll K F vs ds → DdAll K F (vs.eraseIdx n) (ds.eraseIdx n)
  | _, _, _, .nil => .nil
  | _, _, 0, .cons _ t => t
  | _, _, n + 1, .cons h t => .cons h (DdAll.erase n t)
/-- x.append(y.pop(e)) -/
@[reducible] def popK (i j : Nat) (ρ : Rho) (ds es : List D) : D → O
  | .int k => if 0 ≤ k ∧ k < 1000000 then (match es[k.toNat]? with
    | some d => if ds.length < maxL then .nx ((ρ.set j (.own (es.eraseIdx k.toNat))).set i (.own (ds ++ [d]))) else .bad
    | none => .bad) else .bad
  | _ => .bad
@[reducible] def gAppPop (i j : Nat) (f : Rho → R D) : Rho → O := fun ρ => oB (getO ρ i) fun ds => oB (getO ρ j) fun es => oB (f ρ) fun k => popK i j ρ ds es k
theorem s_appPop (i j : Nat) {x y : Str} {px py pa pb pc pd : Pos} (hij : i ≠ j) (ha : PE X a (tE G E fa)) (hN : X.N[i]? = some x := by rfl) (hM : X.N[j]? = some y := by rfl)
    (hv : Vis X.env.scope x := by first | exact Or.inl rfl | exact Or.inr (Or.inl rfl) | exact Or.inr (Or.inr rfl)) (hd : (x == ("__debug__" : Str)) = false := by decide) (hcd : (x == ("__classdict__" : Str)) = false := by decide)
    (hv2 : Vis X.env.scope y := by first | exact Or.inl rfl | exact Or.inr (Or.inl rfl) | exact Or.inr (Or.inr rfl)) (hd2 : (y == ("__debug__" : Str)) = false := by decide) (hcd2 : (y == ("__classdict__" : Str)) = false := by decide)
    (h : ∀ {t : TE} {e : Expr}, PE X (.Name x px) (tVar i) → PE X (.Call (.Attribute (.Name y py) "pop" pb) [a] [] pd) t → PE X (.Call (.Attribute (.Name x px) "append" pa) [.Call (.Attribute (.Name y py) "pop" pb) [a] [] pd] [] pc) (tBM X.K "list" rAppend (tVar i) (tCons t tNil)))
    (h' : ∀ {t : TE}, PE X (.Name y py) (tVar j) → PE X a t → PE X (.Call (.Attribute (.Name y py) "pop" pb) [a] [] pd) (tBM X.K "list" rPopAt (tVar j) (tCons t tNil)))
    (hs : swapsWith (.Call (.Attribute (.Name x px) "append" pa) [.Call (.Attribute (.Name y py) "pop" pb) [a] [] pd] [] pc) none pos.line X.env = pure false := by rfl) :
    PS X (.Expr (.Call (.Attribute (.Name x px) "append" pa) [.Call (.Attribute (.Name y py) "pop" pb) [a] [] pd] [] pc) pos) (tS G E (gAppPop i j fa)) :=
  ps_imp (ps_expr (h (e := a) (pe_var hN hv hd hcd) (h' (pe_var hM hv2 hd2 hcd2) ha)) hs) fun D σ H ⟨F0, H0, ρ, F, i0, h⟩ => by
    obtain ⟨ds, q, h⟩ := oB_getO h
    obtain ⟨es, q2, h⟩ := oB_getO h
    obtain ⟨p, vs, e1, e2, e3, e4⟩ := i0.env.getOwn q
    obtain ⟨r, ws, g1, g2, g3, g4⟩ := i0.env.getOwn q2
    have hpr : r ≠ p := fun z => by
      subst z
      exact i0.env.apart i j r (.own ds) (.own es) hij q q2 rfl rfl e1 g1
    refine ⟨.ref p, e1, .inl ⟨rfl, vs, SqL.of e3⟩, .ref r, g1, .inl ⟨rfl, ws, SqL.of g3⟩, ρ, F, i0.env, i0.base, PostO.seq h i0.st fun k v F1 H1 _ s1 d1 h1 => ?_⟩
    have e3' := s1.hh p _ e3 (fun ps => lst_ne ps)
    have g3' := s1.hh r _ g3 (fun ps => lst_ne ps)
    cases d1 with
    | int k =>
      have h2 : PostO G E F0 H0 D (if 0 ≤ k ∧ k < 1000000 then (match es[k.toNat]? with
        | some d => if ds.length < maxL then .nx ((ρ.set j (.own (es.eraseIdx k.toNat))).set i (.own (ds ++ [d]))) else .bad
        | none => .bad) else .bad) := h1
      split at h2
      · rename_i qk
        cases qe : es[k.toNat]? with
        | none =>
          rw [qe] at h2
          exact (show False from h2).elim
        | some d =>
          rw [qe] at h2
          have h3 : PostO G E F0 H0 D (if ds.length < maxL then .nx ((ρ.set j (.own (es.eraseIdx k.toNat))).set i (.own (ds ++ [d]))) else .bad) := h2
          split at h3
          · rename_i ql
            have g4' := g4.mono s1.ff
            obtain ⟨w, qw, dw⟩ := g4'.get qe
            have hlt : k.toNat < ws.length := (List.getElem?_eq_some_iff.mp qw).1
            have hix : seqIndex? k ws.length = some k.toNat := by
              unfold seqIndex?
              have h0 : ¬ k < 0 := by omega
              have h1 : k < (ws.length : Int) := by omega
              simp [h0, qk.1, h1]
            have i2 := (i0.step s1).chOwn (ws := ws.eraseIdx k.toNat) (es := es.eraseIdx k.toNat) q2 g1 g3' (s1.own r _ g3 (fun ps => lst_ne ps) g2) (g4'.erase k.toNat)
            have q' : (ρ.set j (.own (es.eraseIdx k.toNat)))[i]? = some (.own ds) := by
              rw [List.getElem?_set_ne (fun z => hij z.symm)]
              exact q
            have e3'' : upd H1 r (.lst (ws.eraseIdx k.toNat)) p = some (.lst vs) := by
              rw [upd_ne (fun z => hpr z.symm)]
              exact e3'
            refine ⟨r, ws, k, k.toNat, w, rfl, rfl, g3', by omega, by omega, hix, qw, p, vs, w, rfl, rfl, e3'', by rw [e4.length]; exact maxL_lt (Nat.le_of_lt ql), h3 _ F1 _ (i2.chOwn q' e1 e3'' (s1.own p _ e3 (fun ps => lst_ne ps) e2) ((e4.mono s1.ff).append (.cons dw .nil)))⟩
          · exact (show False from h3).elim
      · exact (show False from h2).elim
    | _ => exact (show False from h1).elim
end
end Py

namespace Py
open PySem PySem.Spec PyProof.Rows L2 LamX
/-! ### a def that hands out a new tuple -/
def DdP (K : PySem.W.Frag) (F : Hp) (v : V) (d : D) : Prop := ∃ b vs ds, v = .ref b ∧ d = .tuple ds ∧ F b = some (.tup vs) ∧ DdAll K F vs ds
theorem DdP.dd {K : PySem.W.Frag} {F : Hp} {v : V} {d : D} (h : DdP K F v d) : Dd K F v d := by
  obtain ⟨b, vs, ds, rfl, rfl, h1, h2⟩ := h
  exact .tup (SqT.of h1) h2
theorem DdP.mono {K : PySem.W.Frag} {F F' : Hp} (e : Sub F F') {v : V} {d : D} (h : DdP K F v d) : DdP K F' v d := by
  obtain ⟨b, vs, ds, h1, h2, h3, h4⟩ := h
  exact ⟨b, vs, ds, h1, h2, e _ _ h3, h4.mono e⟩
def spP (G : Gb) (n : Nat) (m : List D → R D) : Sp := fun vs H Q E => vs.length = n ∧ ∃ F ds, Base G F H ∧ DdAll G.K F vs ds ∧ PostR G (DdP G.K) E F H Q (m ds)
section
variable {X : Cx} {G : Gb} {E : XK} {pos : Pos} {a la : Expr} {fa : Rho → R D}
def tSP (G : Gb) (E : XK) (g : Rho → R D) : TS := fun D σ H => ∃ ρ F, EnvOk G.K F H σ ρ ∧ Base G F H ∧ PostR G (DdP G.K) E F H D.rt (g ρ)
@[reducible] def rTupL (f : Rho → R D) : Rho → R D := fun ρ => (f ρ).bind fun d => (asL d).bind fun ds => .ok (.tuple ds)
theorem ssP_ret (ha : PE X a (tE G E fa)) (hl : ∀ {t : TE}, PE X a t → PE X la (tCB (fun xs H Q => ∃ p ys, xs = [.ref p] ∧ ((SqL X.K H p ys ∧ ∀ l, H l = none → Q (.ref l) (upd H l (.tup ys))) ∨ (SqT X.K H p ys ∧ Q (.ref p) H))) (tCons t tNil))) :
    PSs X [.Return (some la) pos] (tSP G E (rTupL fa)) :=
  pss_imp (pss_one (ps_ret (hl ha))) fun D σ H ⟨ρ, F, e, b, h⟩ => ⟨ρ, F, e, b, PostR.seq h fun d v F1 H1 _ s1 d1 h1 => by
    cases d1 with
    | @lst p vs ds hp hd =>
      refine ⟨p, vs, rfl, .inl ⟨SqL.of (s1.base.sub _ _ hp), fun l hl => ?_⟩⟩
      have h2 : PostR G (DdP G.K) E F1 H1 D.rt (.ok (.tuple ds)) := h1
      exact h2 (.ref l) _ _ (Step.new s1.base hl tup_ne) ⟨l, vs, ds, rfl, rfl, upd_same, dd_self (s1.base.free hl) hd⟩
    | _ => exact (show False from h1).elim⟩
@[reducible] def runP (n : Nat) (g : Rho → R D) (ds : List D) : R D := g (startR n ds)
structure DfP (P : Program) (w : World) (G : Gb) (mg : Str → Option Value) (base : Heap) (x : Str) (k : Nat) (ps : List Str) (m : List D → R D) : Prop where
  ex : ∃ (f : Addr) (fd : FuncData), FnOk P w G.K mg base (L2N.CX P w) k f fd ps (spP G ps.length m) ∧ mg x = some (.ref f) ∧ PySem.W.keepIn G.K (.ref f) = true ∧ Binds G.K fd ps []
theorem DefAt.dfP {g : Rho → R D} {P : Program} {w : World} {mg : Str → Option Value} {base : Heap} {x : Str} {st : Stmt} {N ps : List Str} {k n : Nat} (h : DefAt G mg x st) (S : FnScope N ps (defScope st)) (hn : N.length = n)
    (hbi : ∀ fd, FunD G.K x x (defArgs st) (defBody st) (defScope st) [] [] (He.ga G.K x) fd → Binds G.K fd ps [])
    (hb : ∀ (A : Around) (outer : List Env) (s : Shared) (H : Hp) (E : XK), Room k (A.deeper (envOfC x (defScope st) s.heap.objs.size (He.ga G.K x) (.ref (He.codeOf G.K (x, none))))) →
      PSs (cxOf (L2N.CX P w) P w G.K mg base N x (defScope st) (He.ga G.K x) (.ref (He.codeOf G.K (x, none))) A outer s H E) (defBody st) (tSP G E g)) :
    DfP P w G mg base x (k + 1) ps (runP n g) := by
  obtain ⟨fd, Fd⟩ := h.ex
  refine ⟨He.ga G.K x, fd, ?_, h.gl, Fd.kp, hbi fd Fd⟩
  subst hn
  obtain ⟨oc, od, dV, kV, doc, pm, an, cdv, ct, osl, rfl, lk, hcd, _, _⟩ := Fd.ex
  obtain ⟨c, rfl⟩ := He.codeIn_ref hcd
  have ec : He.codeOf G.K (x, none) = c := He.codeOf_eq (p := (x, none)) lk rfl
  subst ec
  exact fn_of lk hcd S (fun vs H Q E h => h.1) fun A outer s H vs Q E hr ⟨_, F, ds, b, hd, h⟩ => ⟨_, hb A outer s H E hr, startR N.length ds, F, env_start hd, b, h⟩
end
/-! ### lots by their rows -/
@[reducible] def tupK : List D → Option (List Key)
  | [] => some []
  | .int i :: ds => (tupK ds).map (.inl i :: ·)
  | .str x :: ds => (tupK ds).map (.inr x :: ·)
  | _ => none
@[reducible] def keyT : D → Option (List Key)
  | .tuple ds => tupK ds
  | _ => none
abbrev Lots := List (List Key × List D)
def valG (acc : Lots) (k : List Key) : Option (List D) := (acc.find? fun p => decide (p.1 = k)).map (·.2)
def putG (acc : Lots) (k : List Key) (v : List D) : Lots := if (acc.any fun p => decide (p.1 = k)) = true then acc.map (fun p => if p.1 = k then (p.1, v) else p) else acc ++ [(k, v)]
@[reducible] def grpL (m : List D → R D) : List D → Lots → R Lots
  | [], acc => .ok acc
  | d :: ds, acc => (m [d]).bind fun r => match keyT r with
    | some k => if acc.length < maxL ∧ ((valG acc k).getD []).length < maxL then grpL m ds (putG acc k ((valG acc k).getD [] ++ [d])) else .bad
    | none => .bad
inductive KvG (K : PySem.W.Frag) (F : Hp) : List (List Key × V) → Lots → Prop
  | nil : KvG K F [] []
  | cons {k : List Key} {v : V} {kvs : List (List Key × V)} {ds : List D} {acc : Lots} : Dd K F v (.list ds) → KvG K F kvs acc → KvG K F ((k, v) :: kvs) ((k, ds) :: acc)
section
variable {K : PySem.W.Frag} {F F' : Hp} {kvs : List (List Key × V)} {acc : Lots}
theorem KvG.mono (e : Sub F F') (h : KvG K F kvs acc) : KvG K F' kvs acc := by
  induction h with
  | nil => exact .nil
  | cons a _ ih => exact .cons (a.mono e) ih
theorem KvG.length (h : KvG K F kvs acc) : kvs.length = acc.length := by
  induction h with
  | nil => rfl
  | cons _ _ ih => rw [List.length_cons, List.length_cons, ih]
theorem KvG.keys (h : KvG K F kvs acc) : kvs.map (·.1) = acc.map (·.1) := by
  induction h with
  | nil => rfl
  | cons _ _ ih => rw [List.map_cons, List.map_cons, ih]
theorem KvG.val (h : KvG K F kvs acc) (k : List Key) : (valV kvs k = none ∧ valG acc k = none) ∨ ∃ v ds, valV kvs k = some v ∧ valG acc k = some ds ∧ Dd K F v (.list ds) := by
  induction h with
  | nil => exact .inl ⟨rfl, rfl⟩
  | @cons k0 v0 kvs0 ds0 acc0 a _ ih =>
    by_cases e : k0 = k
    · refine .inr ⟨v0, ds0, valV_pos e, ?_, a⟩
      unfold valG
      rw [List.find?_cons_of_pos (by simp [e])]
      rfl
    · have e1 : valV ((k0, v0) :: kvs0) k = valV kvs0 k := valV_neg e
      have e2 : valG ((k0, ds0) :: acc0) k = valG acc0 k := by
        unfold valG
        rw [List.find?_cons_of_neg (by simp [e])]
      rw [e1, e2]
      exact ih
theorem KvG.any (h : KvG K F kvs acc) (k : List Key) : (kvs.any fun kv => decide (kv.1 = k)) = acc.any fun p => decide (p.1 = k) := by
  induction h with
  | nil => rfl
  | cons _ _ ih => rw [List.any_cons, List.any_cons, ih]
theorem KvG.app {kvs2 : List (List Key × V)} {acc2 : Lots} (h : KvG K F kvs acc) (g : KvG K F kvs2 acc2) : KvG K F (kvs ++ kvs2) (acc ++ acc2) := by
  induction h with
  | nil => exact g
  | cons a _ ih => exact .cons a ih
theorem KvG.mapIf (h : KvG K F kvs acc) (k : List Key) {v : V} {ds : List D} (hv : Dd K F v (.list ds)) : KvG K F (kvs.map fun kv => if kv.1 = k then (kv.1, v) else kv) (acc.map fun p => if p.1 = k then (p.1, ds) else p) := by
  induction h with
  | nil => exact .nil
  | @cons k0 v0 kvs0 ds0 acc0 a _ ih =>
    rw [List.map_cons, List.map_cons]
    by_cases e : k0 = k
    · rw [if_pos e, if_pos e]
      exact .cons hv ih
    · rw [if_neg e, if_neg e]
      exact .cons a ih
theorem KvG.put (h : KvG K F kvs acc) (k : List Key) {v : V} {ds : List D} (hv : Dd K F v (.list ds)) : KvG K F (putK kvs k v) (putG acc k ds) := by
  unfold putK putG
  rw [h.any k]
  split
  · exact h.mapIf k hv
  · exact h.app (.cons hv .nil)
end
theorem keyT_dd {K : PySem.W.Frag} {F : Hp} : ∀ {ds : List D} {k : List Key} {vs : List V}, tupK ds = some k → DdAll K F vs ds → vs = k.map kV
  | [], k, _, h, .nil => by
    cases h
    rfl
  | .int i :: ds, k, _, h, .cons a t => by
    cases q : tupK ds with
    | none =>
      have : (tupK ds).map (Sum.inl i :: ·) = some k := h
      rw [q] at this
      cases this
    | some k' =>
      have : (tupK ds).map (Sum.inl i :: ·) = some k := h
      rw [q] at this
      cases this
      cases a
      rw [keyT_dd q t]
      rfl
  | .str x :: ds, k, _, h, .cons a t => by
    cases q : tupK ds with
    | none =>
      have : (tupK ds).map (Sum.inr x :: ·) = some k := h
      rw [q] at this
      cases this
    | some k' =>
      have : (tupK ds).map (Sum.inr x :: ·) = some k := h
      rw [q] at this
      cases this
      cases a
      rw [keyT_dd q t]
      rfl
  | .none :: _, _, _, h, _ => by cases h
  | .bool _ :: _, _, _, h, _ => by cases h
  | .list _ :: _, _, _, h, _ => by cases h
  | .tuple _ :: _, _, _, h, _ => by cases h
  | .dict _ :: _, _, _, h, _ => by cases h
theorem dT_ne {kvs : List (List Key × V)} (ps : Array Value) : HO.dT kvs ≠ .tbl ps := fun z => by cases z
theorem tabS_updT {H : Hp} {P p : Addr} {q : Str} {kvs : List (List Key × V)} {o : HO} (t : TabS H P q) (hp : H p = some (.dT kvs)) : TabS (upd H p o) P q := by
  obtain ⟨ps, h1, h2, h3⟩ := t
  have nP : P ≠ p := ne_of h1 hp (by intro z; cases z)
  refine ⟨ps, by rw [upd_ne nP]; exact h1, h2, fun pos cv hc => ?_⟩
  obtain ⟨c, e1, e2⟩ := h3 pos cv hc
  have nc : c ≠ p := ne_of e2 hp (by intro z; unfold CodeO at z; cases z)
  exact ⟨c, e1, by rw [upd_ne nc]; exact e2⟩
theorem tabs_updT {T : List (Addr × Str)} {H : Hp} {p : Addr} {kvs : List (List Key × V)} {o : HO} (t : Tabs T H) (hp : H p = some (.dT kvs)) : Tabs T (upd H p o) := fun x hx => tabS_updT (t x hx) hp
/-- the dict stands beside the frame -/
structure InG (G : Gb) (F0 H0 F H : Hp) (σ : L2.St) (ρ : Rho) (i : Nat) (p : Addr) (acc : Lots) : Prop where
  in0 : In0 G F0 H0 F H σ ρ
  slot : σ[i]? = some (some (.ref p))
  free : F p = none
  new : ∀ o, H0 p = some o → ∃ ps, o = .tbl ps
  kv : ∃ kvs, H p = some (.dT kvs) ∧ KvG G.K F kvs acc
  nd : (acc.map (·.1)).Nodup
section
variable {G : Gb} {F0 H0 F H F' H' : Hp} {σ : L2.St} {ρ : Rho} {i : Nat} {p : Addr} {acc : Lots}
theorem InG.step (h : InG G F0 H0 F H σ ρ i p acc) (s : Step G F H F' H') : InG G F0 H0 F' H' σ ρ i p acc := by
  obtain ⟨kvs, h1, h2⟩ := h.kv
  exact ⟨h.in0.step s, h.slot, s.own p _ h1 (fun ps => dT_ne ps) h.free, h.new, ⟨kvs, s.hh p _ h1 (fun ps => dT_ne ps), h2.mono s.ff⟩, h.nd⟩
theorem InG.set (h : InG G F0 H0 F H σ ρ i p acc) {j : Nat} (hj : j ≠ i) {v : V} {d : D} (hd : Dd G.K F v d) : InG G F0 H0 F H (σ.set j (some v)) (ρ.set j (.dat d)) i p acc :=
  ⟨h.in0.set j hd, by rw [List.getElem?_set_ne hj]; exact h.slot, h.free, h.new, h.kv, h.nd⟩
theorem InG.put (h : InG G F0 H0 F H σ ρ i p acc) {kvs : List (List Key × V)} {acc' : Lots} (hk : KvG G.K F kvs acc') (hn : (acc'.map (·.1)).Nodup) : InG G F0 H0 F (upd H p (.dT kvs)) σ ρ i p acc' := by
  obtain ⟨kvs0, h1, h2⟩ := h.kv
  have hx : ∀ a u, a ≠ p → H a = some u → upd H p (.dT kvs) a = some u := fun a u n z => by
    rw [upd_ne n]
    exact z
  have i0 := h.in0
  refine ⟨⟨⟨i0.st.ff, fun a u z q => ?_, ⟨fun a u z => hx a u (ne_of_none z h.free) (i0.base.sub a u z), i0.base.nt, tabs_updT i0.base.tab h1⟩, i0.st.own⟩, ⟨i0.env.len, fun k s ov z1 z2 => ?_, i0.env.apart⟩, i0.ow⟩, h.slot, h.free, h.new, ⟨kvs, upd_same, hk⟩, hn⟩
  · refine hx a u (fun e => ?_) (i0.st.hh a u z q)
    subst e
    obtain ⟨ps, e⟩ := h.new u z
    exact q ps e
  · have z := i0.env.at_ k s ov z1 z2
    cases s with
    | no => trivial
    | dat d => exact z
    | own es =>
      obtain ⟨r, ws, q1, q2, q3, q4⟩ := z
      have nr : r ≠ p := fun e => by
        rw [e, h1] at q3
        cases q3
      exact ⟨r, ws, q1, q2, hx _ _ nr q3, q4⟩
    | raw v => exact z
    | tab hs t => exact z
theorem nd_putG {k : List Key} {v : List D} (h : (acc.map (·.1)).Nodup) : ((putG acc k v).map (·.1)).Nodup := by
  unfold putG
  split
  · have : (acc.map fun p => if p.1 = k then (p.1, v) else p).map (·.1) = acc.map (·.1) := by
      rw [List.map_map]
      refine List.map_congr_left fun p _ => ?_
      by_cases e : p.1 = k <;> simp [e]
    rw [this]
    exact h
  · rename_i hq
    rw [List.map_append]
    refine List.nodup_append.mpr ⟨h, by simp, fun a ha b hb e => ?_⟩
    simp at hb
    subst hb
    obtain ⟨q, hq1, hq2⟩ := List.mem_map.mp ha
    exact hq (List.any_eq_true.mpr ⟨q, hq1, by simp [hq2, e]⟩)
end
end Py

namespace Py
open PySem PySem.Spec PyProof.Rows L2 LamX
section
variable {X : Cx} {G : Gb} {E : XK}
theorem Step.add {F H : Hp} {p : Addr} {o : HO} (b : Base G F H) (hp : H p = none) : Step G F H F (upd H p o) := by
  have hh : ∀ a u, H a = some u → upd H p o a = some u := fun a u h => by
    rw [upd_ne (ne_of_none h hp)]
    exact h
  exact ⟨.refl F, fun a u h _ => hh a u h, ⟨fun a u h => hh a u (b.sub a u h), b.nt, b.tab.ext hh⟩, fun _ _ _ _ n => n⟩
@[reducible] def gGrp (m : List D → R D) : Rho → O := fun ρ => oB (getS ρ 0) fun d => oB (asL d) fun ds => oB (grpL m ds []) fun acc => if acc.length ≤ maxL then .ret (.list (acc.map fun p => .list p.2)) else .bad
theorem v_raw (i : Nat) {x : Str} {px : Pos} (hN : X.N[i]? = some x := by rfl) (hv : Vis X.env.scope x := by first | exact Or.inl rfl | exact Or.inr (Or.inl rfl) | exact Or.inr (Or.inr rfl)) (hd : (x == ("__debug__" : Str)) = false := by decide) (hcd : (x == ("__classdict__" : Str)) = false := by decide) : PE X (.Name x px) (tVar i) := pe_var hN hv hd hcd
theorem g_raw (i : Nat) {x : Str} {pos : Pos} (hN : X.N.Nodup) (hi : X.N[i]? = some x := by rfl) (hx : Loc X.env.scope x := by first | exact Or.inl rfl | exact Or.inr rfl) (hf : X.fn x = true ∨ X.env.scope.names.lookup x = some .local := by first | exact .inl rfl | exact .inr rfl | assumption) : PG X (.Name x pos) (gName i) := pg_name hN hi hx hf
theorem s_raw (i : Nat) {x : Str} {e : Expr} {te : TE} {pos pos' : Pos} (hN : X.N.Nodup) (he : PE X e te) (hi : X.N[i]? = some x := by rfl) (hx : Loc X.env.scope x := by first | exact Or.inl rfl | exact Or.inr rfl) (hs : swapsWith e (some (.Name x pos')) pos.line X.env = pure false := by rfl) (hf : X.fn x = true ∨ X.env.scope.names.lookup x = some .local := by first | exact .inl rfl | exact .inr rfl | assumption) : PS X (.Assign [.Name x pos'] e pos) (tAsg te (gName i)) := ps_set hN hi hx he hs hf
def tG1 : TS := tAsg tDNewT (gName 1)
def tG2 (G : Gb) (E : XK) (m : List D → R D) : TS := tFor (tI G E (rSeq fun ρ => getS ρ 0)) (tG G (bName 2)) (tSeq (tAsg (tCall (spP G 1 m) [] E (tCons (tVar 2) tNil)) (gName 3)) (sDPut (tVar 1) (tVar 3) (tOp rCat (tDGet2 (tVar 1) (tVar 3) (tLst tNil)) (tLst (tCons (tVar 2) tNil)))))
def tG3 : TS := tRet (tLockE (tLc (iKeys (tVar 1)) (gName 3) tYes (tDGet (tVar 1) (tVar 3)) [3]))
theorem valV_nd {kvs : List (List Key × V)} (hn : (kvs.map (·.1)).Nodup) {i : Nat} {k : List Key} {v : V} (h : kvs[i]? = some (k, v)) : valV kvs k = some v := by
  induction kvs generalizing i with
  | nil => simp at h
  | cons q r ih =>
    rw [List.map_cons, List.nodup_cons] at hn
    cases i with
    | zero =>
      simp at h
      subst h
      exact valV_pos rfl
    | succ i =>
      have h' : r[i]? = some (k, v) := by simpa using h
      have hne : ¬ q.1 = k := fun e => hn.1 (by
        rw [e]
        exact List.mem_map_of_mem (f := (·.1)) (List.mem_of_getElem? h'))
      rw [valV_neg hne]
      exact ih hn.2 h'
theorem KvG.vals {K : PySem.W.Frag} {F : Hp} {kvs : List (List Key × V)} {acc : Lots} (h : KvG K F kvs acc) : DdAll K F (kvs.map (·.2)) (acc.map fun p => .list p.2) := by
  induction h with
  | nil => exact .nil
  | cons a _ ih => exact .cons a ih
/-- the lots, in their order -/
theorem grp_ret {F0 H0 F H : Hp} {σ : L2.St} {ρ : Rho} {p : Addr} {acc : Lots} {D : Ends} (i : InG G F0 H0 F H σ ρ 1 p acc) (hσ : 3 < σ.length) (h : PostO G E F0 H0 D (if acc.length ≤ maxL then .ret (.list (acc.map fun p => .list p.2)) else .bad)) : tG3 D σ H := by
  split at h
  · rename_i hl
    obtain ⟨kvs, h1, h2⟩ := i.kv
    have hkn : (kvs.map (·.1)).Nodup := by rw [h2.keys]; exact i.nd
    show tLockE (tLc (iKeys (tVar 1)) (gName 3) tYes (tDGet (tVar 1) (tVar 3)) [3]) σ H D.rt
    refine ⟨p, .dT kvs, h1, True.intro, fun od => ⟨.ref p, i.slot, p, od, rfl, .inr ⟨kvs, upd_same, fun Dl hD => ?_⟩⟩⟩
    have hDp : Dl ≠ p := fun e => by
      rw [e, upd_same] at hD
      cases hD
    have hDH : H Dl = none := by
      rw [upd_ne hDp] at hD
      exact hD
    refine ⟨fun j n H' => n = kvs.length - j ∧ j ≤ kvs.length ∧ H' p = some (.frz od (.dT kvs)) ∧ H' Dl = some (.lst ((kvs.take j).map (·.2))) ∧ ∀ a, a ≠ Dl → H' a = upd H p (.frz od (.dT kvs)) a, ⟨kvs.length, rfl, Nat.zero_le _, by rw [upd_ne (fun e => hDp e.symm)]; exact upd_same, by rw [upd_same]; rfl, fun a ha => upd_ne ha⟩, ?_⟩
    rintro j n H' ⟨rfl, hj, e1, e2, e3⟩
    by_cases hlt : j < kvs.length
    · refine .inr ⟨⟨e1, hlt⟩, fun H2 => H2 p = some (.frz od (.dT kvs)) ∧ H2 Dl = some (.lst ((kvs.take (j + 1)).map (·.2))) ∧ ∀ a, a ≠ Dl → H2 a = upd H p (.frz od (.dT kvs)) a, fun H2 z => ⟨kvs.length - (j + 1), by omega, rfl, by omega, z⟩, ?_⟩
      rintro x H2 ⟨rfl, k, v, q, g1, rfl, g2⟩
      refine ⟨?_, ?_⟩
      · show ((σ.set 3 none).set 3 (some (V.ref q))).set 3 none = σ.set 3 none
        rw [List.set_set, List.set_set]
      · show tDGet (tVar 1) (tVar 3) ((wipe σ [3]).set 3 (some (.ref q))) H2 _
        have w1 : ((wipe σ [3]).set 3 (some (V.ref q)))[1]? = some (some (.ref p)) := by
          show ((σ.set 3 none).set 3 (some (V.ref q)))[1]? = _
          rw [List.getElem?_set_ne (by decide), List.getElem?_set_ne (by decide)]
          exact i.slot
        have w3 : ((wipe σ [3]).set 3 (some (V.ref q)))[3]? = some (some (.ref q)) := by
          show ((σ.set 3 none).set 3 (some (V.ref q)))[3]? = _
          rw [List.getElem?_set_self (by rw [List.length_set]; exact hσ)]
        refine ⟨.ref p, w1, .ref q, w3, p, v, rfl, .inr ⟨kvs, k, q, .inr ⟨od, e1⟩, rfl, g2, (valV_nd hkn g1).symm⟩, (kvs.take j).map (·.2), e2, ?_, ?_⟩
        · rw [List.length_map, List.length_take]
          exact maxL_lt (by rw [h2.length]; omega)
        · refine ⟨by rw [upd_ne (fun e => hDp e.symm)]; exact e1, ?_, fun a ha => by rw [upd_ne ha]; exact e3 a ha⟩
          rw [upd_same, List.take_add_one, g1, List.map_append]
          rfl
    · have e : j = kvs.length := by omega
      subst e
      refine .inl ⟨⟨e1, Nat.le_refl _⟩, e1, ?_⟩
      have hH : upd H' p (.dT kvs) = upd H Dl (.lst (kvs.map (·.2))) := by
        funext a
        by_cases ea : a = p
        · subst ea
          rw [upd_same, upd_ne (fun e => hDp e.symm)]
          exact h1.symm
        · rw [upd_ne ea]
          by_cases eD : a = Dl
          · subst eD
            rw [upd_same, e2, List.take_length]
          · rw [upd_ne eD, e3 a eD, upd_ne ea]
      rw [hH]
      exact h (.ref Dl) (upd F Dl (.lst (kvs.map (·.2)))) _ (i.in0.st.trans (Step.new i.in0.base hDH lst_ne)) (.lst upd_same (dd_self (i.in0.base.free hDH) h2.vals))
  · exact (show False from h).elim
/-- one more rule is put into its lot -/
theorem grp_put {F0 H0 F H : Hp} {σ : L2.St} {ρ : Rho} {p b : Addr} {acc : Lots} {D : Ends} {v : V} {d : PyData} {k : List Key} (i : InG G F0 H0 F H σ ρ 1 p acc) (h2 : σ[2]? = some (some v)) (hd : Dd G.K F v d) (h3 : σ[3]? = some (some (.ref b))) (hb : H b = some (.tup (k.map kV)))
    (l1 : acc.length < maxL) (l2 : ((valG acc k).getD []).length < maxL) (h : ∀ F' H', InG G F0 H0 F' H' σ ρ 1 p (putG acc k ((valG acc k).getD [] ++ [d])) → D.nx σ H') :
    sDPut (tVar 1) (tVar 3) (tOp rCat (tDGet2 (tVar 1) (tVar 3) (tLst tNil)) (tLst (tCons (tVar 2) tNil))) D σ H := by
  obtain ⟨kvs, h1, kv⟩ := i.kv
  refine ⟨.ref p, i.slot, p, rfl, .inr ⟨kvs, .inl h1⟩, .ref b, h3, Nat.zero_le _, fun q hq => ?_⟩
  have s1 := Step.add (o := .lst []) i.in0.base hq
  have i1 := i.step s1
  obtain ⟨kvs1, k1, kv1⟩ := i1.kv
  have ek : kvs1 = kvs := by
    have := s1.hh p _ h1 (fun ps => dT_ne ps)
    rw [k1] at this
    cases this
    rfl
  subst ek
  have hb1 : upd H q (.lst []) b = some (.tup (k.map kV)) := s1.hh b _ hb (fun ps => tup_ne ps)
  refine ⟨valV kvs1 k, DGet.t k1 hb1, v, h2, maxL_line (n := 1) (by decide), fun q2 hq2 => ?_⟩
  have s2 := Step.add (o := .lst [v]) s1.base hq2
  have i2 := i1.step s2
  have hb2 := s2.hh b _ hb1 (fun ps => tup_ne ps)
  have key : ∃ l xs, (valV kvs1 k).getD (.ref q) = .ref l ∧ upd (upd H q (.lst [])) q2 (.lst [v]) l = some (.lst xs) ∧ DdAll G.K F xs ((valG acc k).getD []) := by
    rcases kv.val k with ⟨z1, z2⟩ | ⟨w, es, z1, z2, z3⟩
    · rw [z1, z2]
      exact ⟨q, [], rfl, s2.hh q _ upd_same (fun ps => lst_ne ps), .nil⟩
    · rw [z1, z2]
      cases z3 with
      | @lst l xs ds hl hds => exact ⟨l, xs, rfl, s2.hh l _ (s1.hh l _ (i.in0.base.sub _ _ hl) (fun ps => lst_ne ps)) (fun ps => lst_ne ps), hds⟩
  obtain ⟨l, xs, el, hl, hxs⟩ := key
  refine ⟨l, q2, xs, [v], el, rfl, hl, upd_same, by rw [hxs.length]; exact maxL_line (show _ + 1 ≤ maxL by omega), fun q3 hq3 => ?_⟩
  have s3 := Step.new (o := .lst (xs ++ [v])) s2.base hq3 lst_ne
  have i3 := i2.step s3
  have hb3 := s3.hh b _ hb2 (fun ps => tup_ne ps)
  obtain ⟨kvs3, k3, kv3⟩ := i3.kv
  have ek : kvs3 = kvs1 := by
    have := s3.hh p _ (s2.hh p _ k1 (fun ps => dT_ne ps)) (fun ps => dT_ne ps)
    rw [k3] at this
    cases this
    rfl
  subst ek
  have hdd : Dd G.K (upd F q3 (.lst (xs ++ [v]))) (.ref q3) (.list ((valG acc k).getD [] ++ [d])) := .lst upd_same (dd_self (s2.base.free hq3) (hxs.append (.cons hd .nil)))
  exact ⟨.ref p, i3.slot, .ref b, h3, p, _, rfl, DPut.t k3 hb3 (by rw [kv3.length]; exact maxL_lt (Nat.le_of_lt l1)), h _ _ (i3.put (kv3.put k hdd) (nd_putG i3.nd))⟩
theorem ss_groups {m : List D → R D} {st1 st2 st3 : Stmt} (h1 : PS X st1 tG1) (h2 : PS X st2 (tG2 G E m)) (h3 : PS X st3 tG3) : PSs X [st1, st2, st3] (tS G E fun ρ => if ρ.length = 4 then gGrp m ρ else .bad) :=
  pss_imp (pss_cons h1 (pss_cons h2 (pss_one h3))) fun D σ H ⟨F0, H0, ρ, F, i0, h⟩ => by
    show ∀ p, H p = none → _
    intro p hp
    have h : PostO G E F0 H0 D (if ρ.length = 4 then gGrp m ρ else .bad) := h
    split at h
    · rename_i hρ
      have hσl : σ.length = 4 := by rw [i0.env.len]; exact hρ
      have h0 : PostO G E F0 H0 D (oB (getS ρ 0) fun d => oB (asL d) fun ds => oB (grpL m ds []) fun acc => if acc.length ≤ maxL then .ret (.list (acc.map fun p => .list p.2)) else .bad) := h
      cases q0 : getS ρ 0 with
      | err c =>
        unfold getS at q0
        split at q0 <;> cases q0
      | bad =>
        rw [q0] at h0
        exact (show False from h0).elim
      | ok d =>
        rw [q0] at h0
        cases q1 : asL d with
        | err c =>
          unfold asL at q1
          split at q1 <;> cases q1
        | bad =>
          have h1' : PostO G E F0 H0 D (oB (asL d) fun ds => oB (grpL m ds []) fun acc => if acc.length ≤ maxL then .ret (.list (acc.map fun p => .list p.2)) else .bad) := h0
          rw [q1] at h1'
          exact (show False from h1').elim
        | ok ds =>
          have h1' : PostO G E F0 H0 D (oB (asL d) fun ds => oB (grpL m ds []) fun acc => if acc.length ≤ maxL then .ret (.list (acc.map fun p => .list p.2)) else .bad) := h0
          rw [q1] at h1'
          have hd : d = .list ds := by
            unfold asL at q1
            split at q1
            · cases q1
              rfl
            · cases q1
          subst hd
          have s1 := Step.add (o := .dT []) i0.base hp
          have i1 : In0 G F0 H0 F (upd H p (.dT [])) (σ.set 1 (some (.ref p))) (ρ.set 1 .no) := (i0.step s1).forget 1 (some (.ref p))
          have hnew : ∀ o, H0 p = some o → ∃ ps, o = .tbl ps := fun o ho => by
            refine Classical.byContradiction fun z => ?_
            have := i0.st.hh p o ho (fun ps e => z ⟨ps, e⟩)
            rw [hp] at this
            cases this
          have j1 : InG G F0 H0 F (upd H p (.dT [])) (σ.set 1 (some (.ref p))) (ρ.set 1 .no) 1 p [] := ⟨i1, by rw [List.getElem?_set_self (by omega)], i0.base.free hp, hnew, ⟨[], upd_same, .nil⟩, List.nodup_nil⟩
          have q0' : getS (ρ.set 1 .no) 0 = .ok (.list ds) := by
            unfold getS at q0 ⊢
            rw [List.getElem?_set_ne (by decide)]
            exact q0
          show tG2 G E m { D with nx := tG3 D } (σ.set 1 (some (.ref p))) (upd H p (.dT []))
          refine ⟨ρ.set 1 .no, F, i1.env, i1.base, ?_⟩
          have hfi : (rSeq fun ρ => getS ρ 0) (ρ.set 1 .no) = .ok ds := by
            show (getS (ρ.set 1 .no) 0).bind _ = _
            rw [q0']
          rw [hfi]
          intro J F1 H1 s2 wk
          have j2 := j1.step s2
          have h2' : PostO G E F1 H0 D (oB (grpL m ds []) fun acc => if acc.length ≤ maxL then .ret (.list (acc.map fun p => .list p.2)) else .bad) := PostO.rebase j2.in0.st h1'
          have j3 : InG G F1 H0 F1 H1 (σ.set 1 (some (.ref p))) (ρ.set 1 .no) 1 p [] := ⟨j2.in0.rebase (F := F1), j2.slot, j2.free, j2.new, j2.kv, j2.nd⟩
          refine ⟨fun i n σ' H' => n = ds.length - i ∧ i ≤ ds.length ∧ σ'.length = 4 ∧ ∃ ρ' F' acc, InG G F1 H0 F' H' σ' ρ' 1 p acc ∧ PostO G E F1 H0 D (oB (grpL m (ds.drop i) acc) fun acc => if acc.length ≤ maxL then .ret (.list (acc.map fun p => .list p.2)) else .bad), ⟨ds.length, rfl, Nat.zero_le _, by rw [List.length_set]; exact hσl, _, _, [], j3, by simpa using h2'⟩, ?_⟩
          rintro i n σ' H' ⟨rfl, hi, hl4, ρ', F', acc, j, hp'⟩
          by_cases hlt : i < ds.length
          · refine .inr ⟨wk.go i H' (j.in0.st.ff.trans j.in0.base.sub) hlt, fun σ2 H2 => σ2.length = 4 ∧ ∃ ρ2 F2 acc2, InG G F1 H0 F2 H2 σ2 ρ2 1 p acc2 ∧ PostO G E F1 H0 D (oB (grpL m (ds.drop (i + 1)) acc2) fun acc => if acc.length ≤ maxL then .ret (.list (acc.map fun p => .list p.2)) else .bad), fun σ2 H2 z => ⟨ds.length - (i + 1), by omega, rfl, by omega, z⟩, fun x H2 y => ?_⟩
            obtain ⟨F2, s3, d3⟩ := wk.yld i ds[i] F' H' x H2 (List.getElem?_eq_getElem hlt) j.in0.st.ff j.in0.base y
            rw [List.drop_eq_getElem_cons hlt] at hp'
            refine ⟨ds[i], F2, d3, s3.base, fun ws hw => ?_⟩
            cases hw with
            | @cons w b ws bs r t =>
              cases t
              obtain ⟨w1, w2⟩ := w
              obtain ⟨r1, r2⟩ := r
              have r1 : w1 = 2 := r1
              subst r1
              have r2 : Dd G.K F2 w2 ds[i] := r2
              have j4 := (j.step s3).set (j := 2) (by decide) r2
              have hl5 : (σ'.set 2 (some w2)).length = 4 := by rw [List.length_set]; exact hl4
              show tSeq _ _ _ (σ'.set 2 (some w2)) H2
              have e2 : (σ'.set 2 (some w2))[2]? = some (some w2) := by rw [List.getElem?_set_self (by omega)]
              refine ⟨w2, e2, rfl, F2, [ds[i]], s3.base, .cons r2 .nil, ?_⟩
              have h5 : PostO G E F1 H0 D (oB ((m [ds[i]]).bind fun r => match keyT r with
                | some k => if acc.length < maxL ∧ ((valG acc k).getD []).length < maxL then grpL m (ds.drop (i + 1)) (putG acc k ((valG acc k).getD [] ++ [ds[i]])) else .bad
                | none => .bad) fun acc => if acc.length ≤ maxL then .ret (.list (acc.map fun p => .list p.2)) else .bad) := hp'
              cases qm : m [ds[i]] with
              | bad =>
                rw [qm] at h5
                exact (show False from h5).elim
              | err c =>
                rw [qm] at h5
                exact fun F3 H3 s4 => h5 F3 H3 (j4.in0.st.trans s4)
              | ok r =>
                rw [qm] at h5
                intro x3 F3 H3 s4 dp
                obtain ⟨b, vs, es, rfl, rfl, hb, hes⟩ := dp
                have h6 : PostO G E F1 H0 D (oB (match tupK es with
                  | some k => if acc.length < maxL ∧ ((valG acc k).getD []).length < maxL then grpL m (ds.drop (i + 1)) (putG acc k ((valG acc k).getD [] ++ [ds[i]])) else .bad
                  | none => .bad) fun acc => if acc.length ≤ maxL then .ret (.list (acc.map fun p => .list p.2)) else .bad) := h5
                cases qk : tupK es with
                | none =>
                  rw [qk] at h6
                  exact (show False from h6).elim
                | some k =>
                  rw [qk] at h6
                  have h7 : PostO G E F1 H0 D (oB (if acc.length < maxL ∧ ((valG acc k).getD []).length < maxL then grpL m (ds.drop (i + 1)) (putG acc k ((valG acc k).getD [] ++ [ds[i]])) else .bad) fun acc => if acc.length ≤ maxL then .ret (.list (acc.map fun p => .list p.2)) else .bad) := h6
                  split at h7
                  · rename_i hlm
                    have j5 := (j4.step s4).set (j := 3) (by decide) (show Dd G.K F3 (.ref b) (.tuple es) from .tup (SqT.of hb) hes)
                    have hvs := keyT_dd qk hes
                    subst hvs
                    have hl6 : ((σ'.set 2 (some w2)).set 3 (some (.ref b))).length = 4 := by rw [List.length_set]; exact hl5
                    refine grp_put (d := ds[i]) (k := k) (b := b) (v := w2) j5 (by rw [List.getElem?_set_ne (by decide)]; exact e2) (r2.mono s4.ff) (by rw [List.getElem?_set_self (by omega)]) (s4.base.sub _ _ hb) hlm.1 hlm.2 fun F6 H6 j6 => ?_
                    exact ⟨hl6, _, F6, _, j6, h7⟩
                  · exact (show False from h7).elim
          · have e : i = ds.length := by omega
            subst e
            rw [List.drop_length] at hp'
            exact .inl ⟨wk.stop H' (j.in0.st.ff.trans j.in0.base.sub), grp_ret j (by omega) hp'⟩
    · exact (show False from h).elim
end
end Py

namespace Py
open PySem PySem.Spec PyProof.Rows L2 LamX
/-! ### a dict keyed by tuples, made of pairs, then read alone -/
def hsOf (P : Program) (w : World) : List Key → Int := (tupleKind (mixKind P w)).hash
@[reducible] def pairsT : List D → Option (List (List Key × D))
  | [] => some []
  | .tuple [k, d] :: r => match keyT k with
    | some k => (pairsT r).map ((k, d) :: ·)
    | none => none
  | _ => none
def putT (acc : List (List Key × D)) (k : List Key) (d : D) : List (List Key × D) := if (acc.any fun p => decide (p.1 = k)) = true then acc.map (fun p => if p.1 = k then (p.1, d) else p) else acc ++ [(k, d)]
def mkT (acc : List (List Key × D)) (ps : List (List Key × D)) : List (List Key × D) := ps.foldl (fun acc p => putT acc p.1 p.2) acc
def valT (t : List (List Key × D)) (k : List Key) : Option D := (t.find? fun p => decide (p.1 = k)).map (·.2)
section
variable {K : PySem.W.Frag} {F : Hp} {xs : List (List Key × Addr × Value)} {t : List (List Key × D)}
theorem KvT.val (h : KvT K F xs t) (k : List Key) : (atKey xs k = none ∧ valT t k = none) ∨ ∃ b y v d, atKey xs k = some (b, y) ∧ valT t k = some d ∧ RelV v y ∧ Dd K F v d := by
  induction h with
  | nil => exact .inl ⟨rfl, rfl⟩
  | @cons k0 b0 y0 v0 d0 xs0 t0 a r d _ ih =>
    by_cases e : k0 = k
    · refine .inr ⟨b0, y0, v0, d0, by simp [atKey, List.find?_cons, e], by simp [valT, List.find?_cons, e], r, d⟩
    · have e1 : atKey ((k0, b0, y0) :: xs0) k = atKey xs0 k := by simp [atKey, List.find?_cons, e]
      have e2 : valT ((k0, d0) :: t0) k = valT t0 k := by simp [valT, List.find?_cons, e]
      rw [e1, e2]
      exact ih
theorem KvT.any (h : KvT K F xs t) (k : List Key) : (atKey xs k).isSome = t.any fun p => decide (p.1 = k) := by
  induction h with
  | nil => rfl
  | @cons k0 b0 y0 v0 d0 xs0 t0 a r d _ ih =>
    by_cases e : k0 = k
    · simp [atKey, List.find?_cons, e]
    · have e1 : atKey ((k0, b0, y0) :: xs0) k = atKey xs0 k := by simp [atKey, List.find?_cons, e]
      rw [e1, ih]
      simp [e]
theorem KvT.app {xs2 : List (List Key × Addr × Value)} {t2 : List (List Key × D)} (h : KvT K F xs t) (g : KvT K F xs2 t2) : KvT K F (xs ++ xs2) (t ++ t2) := by
  induction h with
  | nil => exact g
  | cons a r d _ ih => exact .cons a r d ih
theorem KvT.repl (h : KvT K F xs t) (k : List Key) {y : Value} {v : V} {d : D} (r : RelV v y) (hd : Dd K F v d) : KvT K F (xs.map (putAt k y)) (t.map fun p => if p.1 = k then (p.1, d) else p) := by
  induction h with
  | nil => exact .nil
  | @cons k0 b0 y0 v0 d0 xs0 t0 a r0 d1 _ ih =>
    rw [List.map_cons, List.map_cons]
    unfold putAt
    by_cases e : k0 = k
    · rw [if_pos e, if_pos e]
      exact .cons a r hd ih
    · rw [if_neg e, if_neg e]
      exact .cons a r0 d1 ih
theorem KvT.put (h : KvT K F xs t) (k : List Key) {b : Addr} {y : Value} {v : V} {d : D} (hb : SqT K F b (k.map kV)) (r : RelV v y) (hd : Dd K F v d) : KvT K F (storedH xs k b y) (putT t k d) := by
  unfold storedH putT
  rw [h.any k]
  split
  · exact h.repl k r hd
  · exact h.app (.cons hb r hd .nil)
theorem KvT.putAll {ys : List (List Key × Addr × Value)} {u : List (List Key × D)} (g : KvT K F ys u) : ∀ {xs : List (List Key × Addr × Value)} {t : List (List Key × D)}, KvT K F xs t → KvT K F (storedAllH xs ys) (mkT t u) := by
  induction g with
  | nil => exact fun h => h
  | @cons k b y v d ys0 u0 a r hd _ ih => exact fun h => ih (h.put k a r hd)
theorem KvT.keys (h : KvT K F xs t) : ∀ x ∈ xs, SqT K F x.2.1 (x.1.map kV) := by
  induction h with
  | nil => exact fun x hx => by cases hx
  | @cons k b y v d xs0 t0 a r hd _ ih =>
    intro x hx
    rcases List.mem_cons.mp hx with e | hx
    · subst e
      exact a
    · exact ih x hx
theorem keyT_tup {k : D} {k0 : List Key} (h : keyT k = some k0) : ∃ es, k = .tuple es ∧ tupK es = some k0 := by
  cases k with
  | tuple es => exact ⟨es, rfl, h⟩
  | none => cases h
  | bool b => cases h
  | int i => cases h
  | str x => cases h
  | list es => cases h
  | dict es => cases h
theorem pairsT_cons {p : D} {ps : List D} {t : List (List Key × D)} (h : pairsT (p :: ps) = some t) : ∃ k d k0 t0, p = .tuple [k, d] ∧ keyT k = some k0 ∧ pairsT ps = some t0 ∧ t = (k0, d) :: t0 := by
  unfold pairsT at h
  split at h
  · rename_i q
    cases q
  · rename_i k d r q
    cases q
    split at h
    · rename_i k0 qk
      obtain ⟨t0, q0, e0⟩ := Option.map_eq_some_iff.mp h
      exact ⟨k, d, k0, t0, rfl, qk, q0, e0.symm⟩
    · cases h
  · cases h
theorem dd_tup2 {v : V} {k d : D} (h : Dd K F v (.tuple [k, d])) : ∃ a x y, v = .ref a ∧ SqT K F a [x, y] ∧ Dd K F x k ∧ Dd K F y d := by
  cases h with
  | @tup a xs ds hs hd =>
    cases hd with
    | @cons x vs _ _ hx ht =>
      cases ht with
      | @cons y vs2 _ _ hy ht2 =>
        cases ht2
        exact ⟨a, x, y, rfl, hs, hx, hy⟩
theorem dd_tupk {v : V} {es : List D} (h : Dd K F v (.tuple es)) : ∃ a xs, v = .ref a ∧ SqT K F a xs ∧ DdAll K F xs es := by
  cases h with
  | @tup a xs ds hs hd => exact ⟨a, xs, rfl, hs, hd⟩
/-- the pairs of a list -/
theorem pairs_dd : ∀ (ps : List D) {vs : List V} {t : List (List Key × D)}, DdAll K F vs ps → pairsT ps = some t →
    ∃ (as : List Addr) (kbs : List (List Key × Addr × V)), vs = as.map V.ref ∧ Paired (fun p q => SqT K F p [.ref q.2.1, q.2.2] ∧ SqT K F q.2.1 (q.1.map kV)) as kbs ∧ Paired (fun (q : List Key × Addr × V) (e : List Key × D) => q.1 = e.1 ∧ SqT K F q.2.1 (q.1.map kV) ∧ Dd K F q.2.2 e.2) kbs t := by
  intro ps
  induction ps with
  | nil =>
    intro vs t h e
    cases h
    cases e
    exact ⟨[], [], rfl, .nil, .nil⟩
  | cons p ps ih =>
    intro vs t h e
    obtain ⟨k, d, k0, t0, rfl, hk, ht, rfl⟩ := pairsT_cons e
    cases h with
    | @cons v vs _ _ hv r =>
      obtain ⟨as, kbs, rfl, h1, h2⟩ := ih r ht
      obtain ⟨a, x, y, rfl, hs, hx, hy⟩ := dd_tup2 hv
      obtain ⟨es, rfl, hes⟩ := keyT_tup hk
      obtain ⟨b, xs, rfl, hb, hxs⟩ := dd_tupk hx
      have hv := keyT_dd hes hxs
      subst hv
      exact ⟨a :: as, (k0, b, y) :: kbs, rfl, .cons ⟨hs, hb⟩ h1, .cons ⟨rfl, hb, hy⟩ h2⟩
end
section
variable {X : Cx} {pins : List (Addr × Obj)} {σ : L2.St} {H : Hp} {s : Shared}
theorem isKey_of (I : Inv X pins σ H s) {b : Addr} {k : List Key} (h : SqT X.K H b (k.map kV)) : (tupleKind (mixKind X.prog X.w)).is s.heap k b := by
  obtain ⟨its, rv, ⟨o, ho, hc, n, hd⟩, _⟩ := I.tuple h
  exact ⟨o, its.toArray, n, ho, hc, hd, by simpa using items_are rv⟩
theorem tabO_get (I : Inv X pins σ H s) {a : Addr} {xs : List (List Key × Addr × Value)} (ha : H a = some (TabO (hsOf X.prog X.w) a xs)) (hk : ∀ x ∈ xs, SqT X.K H x.2.1 (x.1.map kV)) : s.heap.DictOfH (tupleKind (mixKind X.prog X.w)) a xs := by
  obtain ⟨o, es, ep, h1, h2, h3, h4, h5⟩ := (I.hok a _ ha).1
  exact ⟨o, es, ep, h1, h2, h3, h4, fun x hx => isKey_of I (hk x hx), h5⟩
theorem tabO_new {P : Program} {w : World} {H : Hp} {h : Heap} {a : Addr} {xs : List (List Key × Addr × Value)} (R : h.DictOfH (tupleKind (mixKind P w)) a xs) : ObjOk P w H h a (TabO (hsOf P w) a xs) := by
  obtain ⟨o, es, ep, h1, h2, h3, h4, h5, h6⟩ := R
  refine ⟨⟨o, es, ep, h1, h2, h3, h4, h6⟩, ⟨o, h1⟩, ?_⟩
  rintro g1 g2 ⟨o', es', ep', q1, q⟩ k
  exact ⟨o', es', ep', k _ q1, q⟩
theorem tabO_ne {hs : List Key → Int} {p : Addr} {xs : List (List Key × Addr × Value)} (ps : Array Value) : TabO hs p xs ≠ .tbl ps := fun z => by
  unfold TabO at z
  cases z
abbrev RelY : List (List Key × Addr × V) → List (List Key × Addr × Value) → Prop := Paired fun q y => q.1 = y.1 ∧ q.2.1 = y.2.1 ∧ RelV q.2.2 y.2.2
theorem pairs_at (I : Inv X pins σ H s) : ∀ {as : List Addr} {kbs : List (List Key × Addr × V)}, Paired (fun p q => SqT X.K H p [.ref q.2.1, q.2.2] ∧ SqT X.K H q.2.1 (q.1.map kV)) as kbs →
    ∃ ys, RelY kbs ys ∧ ys.length = as.length ∧ (∀ y ∈ ys, SqT X.K H y.2.1 (y.1.map kV)) ∧ ∀ (j : Nat) y, ys[j]? = some y → ∃ b, as[j]? = some b ∧ IsTup s.heap b #[.ref y.2.1, y.2.2]
  | _, _, .nil => ⟨[], .nil, rfl, (fun _ h => by cases h), fun j y e => by simp at e⟩
  | _, _, .cons (a := p) (b := q) h t => by
    obtain ⟨ys, r, hl, hk, hp⟩ := pairs_at I t
    obtain ⟨its, rv, ht, _⟩ := I.tuple h.1
    obtain ⟨u, y, ei, ru, ry⟩ := vals2 rv
    subst ei
    cases (show u = Value.ref q.2.1 from ru)
    refine ⟨(q.1, q.2.1, y) :: ys, .cons ⟨rfl, rfl, ry⟩ r, by rw [List.length_cons, List.length_cons, hl], fun z hz => ?_, fun j z e => ?_⟩
    · rcases List.mem_cons.mp hz with e | hz
      · subst e
        exact h.2
      · exact hk z hz
    · cases j with
      | zero =>
        have e' : (q.1, q.2.1, y) = z := Option.some.inj e
        subst e'
        exact ⟨p, rfl, ht⟩
      | succ j =>
        obtain ⟨b, e1, e2⟩ := hp j z (by simpa using e)
        exact ⟨b, by simpa using e1, e2⟩
def rDictT (K : PySem.W.Frag) (hs : List Key → Int) : List V → Hp → VK → Prop := fun xs H Q => ∃ (a : Addr) (ps : List Addr) (kbs : List (List Key × Addr × V)), xs = [.ref a] ∧ SqL K H a (ps.map V.ref) ∧
  Paired (fun p q => SqT K H p [.ref q.2.1, q.2.2] ∧ SqT K H q.2.1 (q.1.map kV)) ps kbs ∧ ∀ p ys, H p = none → RelY kbs ys → Q (.ref p) (upd H p (TabO hs p (storedAllH [] ys)))
theorem call_dictT {X : Cx} (hcalm : X.calm = true) (hu : X.A.units + 65 < cLine) : CallR X (.type "dict") (rDictT X.K (hsOf X.prog X.w)) := by
  intro pins s σ H xs us Q I r q
  obtain ⟨a, ps, kbs, ex, hq, hp, q⟩ := q
  subst ex
  obtain ⟨u, eu, rx⟩ := vals1 r
  subst eu
  cases rx
  obtain ⟨its, rv, pl, hz⟩ := I.list hq
  have ei := refs_at rv
  subst ei
  rw [List.length_map] at hz
  obtain ⟨ys, rel, hl, hk, hpr⟩ := pairs_at I hp
  obtain ⟨o, n, ho, hc, hd, hdat⟩ := pl
  have hps : ∀ (j : Nat), (ys.map fun y => (Value.ref y.2.1, y.2.2))[j]? = (ys[j]?).map fun y => (Value.ref y.2.1, y.2.2) := fun j => List.getElem?_map ..
  refine call_dict_pairsH (knd := tupleKind (mixKind X.prog X.w)) (ps := ys) (PairArg.list a ((ps.map Value.ref).toArray) (fun j => (ps[j]?).getD 0) (ys.map fun y => (Value.ref y.2.1, y.2.2))) (I.ok.hd hcalm) ?_ ⟨⟨o, n, ho, hc, hd, hdat⟩, ?_, ?_⟩ ⟨by rw [List.length_map], ?_⟩ ?_ ?_ fun h' tk hd' k => ?_
  · show X.A.in1.in1.units < cLine
    show X.A.units + 1 + 1 < cLine
    omega
  · simp [hl]
  · intro j k v e
    rw [hps] at e
    obtain ⟨y, e1, e2⟩ := Option.map_eq_some_iff.mp e
    cases e2
    obtain ⟨b, g1, g2⟩ := hpr j y e1
    refine ⟨?_, .inl ?_⟩
    · simp [g1]
    · show s.heap.IsTuple ((ps[j]?).getD 0) #[Value.ref y.2.1, y.2.2]
      rw [g1]
      exact g2
  · intro i key v e
    have e : (ys.map fun y => (Value.ref y.2.1, y.2.2))[i]? = some (key, v) := e
    rw [hps] at e
    obtain ⟨y, e1, e2⟩ := Option.map_eq_some_iff.mp e
    cases e2
    exact ⟨y.1, y.2.1, e1, rfl⟩
  · intro h' kp x hx
    obtain ⟨o1, it1, n1, g1, g2⟩ := isKey_of I (hk x hx)
    exact ⟨o1, it1, n1, kp _ _ (Nat.ne_of_lt (Heap.lt_size g1)) (fun z => nomatch z) g1, g2⟩
  · rw [List.length_map, hl]
    exact hz
  · exact ⟨.ref s.heap.objs.size, _, I.laid (t' := tk) (fun b o e => k b o (fun z => nomatch z) e) (Nat.le_refl _) (tabO_new hd'), rfl, q _ ys (I.hok.fresh (Nat.le_refl _)) rel⟩
def tTabIx (K : PySem.W.Frag) (hs : List Key → Int) (td ty : TE) : TE := fun σ H Q => td σ H fun x H1 => ty σ H1 fun y H2 => ∃ (a b : Addr) (k : List Key) (xs : List (List Key × Addr × Value)) (pr : Addr × Value) (v : V),
  x = .ref a ∧ y = .ref b ∧ H2 a = some (TabO hs a xs) ∧ (∀ x ∈ xs, SqT K H2 x.2.1 (x.1.map kV)) ∧ SqT K H2 b (k.map kV) ∧ atKey xs k = some pr ∧ RelV v pr.2 ∧ Q v H2
theorem pe_tabIx {X : Cx} {o i : Expr} {pos : Pos} {td ty : TE} (hu : X.A.units + 1 < cLine) (ho : PE X o td) (hi : PE X i ty) (hs : NoSl i) : PE X (.Subscript o i pos) (tTabIx X.K (hsOf X.prog X.w) td ty) := by
  refine ⟨fun pins s σ H Q I h => ?_⟩
  refine subD_of PySem.F.slot_dict_getitem.lookup hs (thn (ho.run pins s σ H _ I h) fun u s1 ⟨x, H1, I1, rx, q1⟩ => thn (hi.run pins s1 σ H1 _ I1 q1) fun iv s2 ⟨y, H2, I2, ry, a, b, k, xs, pr, v, ex, ey, ha, hk, hb, hp, rv, q2⟩ => ?_)
  subst ex
  subst ey
  obtain rfl : u = Value.ref a := rx
  obtain rfl : iv = Value.ref b := ry
  have dd := tabO_get I2 ha hk
  exact ⟨dd.typeIs, wpAny_getItem_heap (tupleKind_room_in1 hu) (isKey_of I2 hb) dd hp ⟨v, H2, I2.tok _, rv, q2⟩⟩
end
/-! ### the slot -/
theorem EnvOk.tab {K : PySem.W.Frag} {F H : Hp} {σ : L2.St} {ρ : Rho} (e : EnvOk K F H σ ρ) (i : Nat) {p : Addr} {hs : List Key → Int} {xs : List (List Key × Addr × Value)} {t : List (List Key × D)} (hp : F p = some (TabO hs p xs)) (hk : KvT K F xs t) : EnvOk K F H (σ.set i (some (.ref p))) (ρ.set i (.tab hs t)) := by
  have ni : ∀ (j : Nat) (s : Sl), (ρ.set i (.tab hs t))[j]? = some s → s.isOwn = true → i ≠ j := fun j s h1 o1 z => by
    subst z
    rw [List.getElem?_set_self'] at h1
    cases e1 : ρ[i]? with
    | none =>
      rw [e1] at h1
      cases h1
    | some s0 =>
      rw [e1] at h1
      cases h1
      cases o1
  refine ⟨by rw [List.length_set, List.length_set, e.len], fun j s ov h1 h2 => ?_, fun j k p s t hjk h1 h2 o1 o2 => ?_⟩
  · by_cases hj : i = j
    · subst hj
      rw [List.getElem?_set_self'] at h1 h2
      cases e1 : ρ[i]? with
      | none =>
        rw [e1] at h1
        cases h1
      | some s0 =>
        rw [e1] at h1
        cases e2 : σ[i]? with
        | none =>
          rw [e2] at h2
          cases h2
        | some o0 =>
          rw [e2] at h2
          cases h1
          cases h2
          exact ⟨p, xs, rfl, hp, hk⟩
    · rw [List.getElem?_set_ne hj] at h1 h2
      exact e.at_ j s ov h1 h2
  · have nj := ni j s h1 o1
    have nk := ni k t h2 o2
    rw [List.getElem?_set_ne nj] at h1 ⊢
    rw [List.getElem?_set_ne nk] at h2 ⊢
    exact e.apart j k p s t hjk h1 h2 o1 o2
section
variable {X : Cx} {G : Gb} {E : XK} {a b : Expr} {fs : Rho → R (List D)} {fb : Rho → R D} {pos : Pos}
theorem In0.tab {F0 H0 F H : Hp} {σ : L2.St} {ρ : Rho} (i : In0 G F0 H0 F H σ ρ) (j : Nat) {p : Addr} {hs : List Key → Int} {xs : List (List Key × Addr × Value)} {t : List (List Key × D)} (hp : F p = some (TabO hs p xs)) (hk : KvT G.K F xs t) : In0 G F0 H0 F H (σ.set j (some (.ref p))) (ρ.set j (.tab hs t)) := by
  refine ⟨i.st, i.env.tab j hp hk, fun k q s o h1 h2 h3 h4 => ?_⟩
  by_cases e : j = k
  · subst e
    rw [List.getElem?_set_self'] at h1
    cases e1 : ρ[j]? with
    | none =>
      rw [e1] at h1
      cases h1
    | some s0 =>
      rw [e1] at h1
      cases h1
      cases h2
  · rw [List.getElem?_set_ne e] at h1 h3
    exact i.ow k q s o h1 h2 h3 h4
/-- the hash of the world that the text runs in -/
class Hs where
  hs : List Key → Int
  dec : ∀ f : List Key → Int, Decidable (f = hs)
instance [Hs] (f : List Key → Int) : Decidable (f = Hs.hs) := Hs.dec f
class HsOk [Hs] (P : Program) (w : World) : Prop where
  ok : Hs.hs = hsOf P w
@[reducible] def asPT : List D → R (List (List Key × D))
  | [.list ps] => match pairsT ps with
    | some t => .ok t
    | none => .bad
  | _ => .bad
@[reducible] def gTab [Hs] (i : Nat) (fs : Rho → R (List D)) : Rho → O := fun ρ => oB (fs ρ) fun ds => oB (asPT ds) fun t => .nx (ρ.set i (.tab Hs.hs (mkT [] t)))
theorem asPT_ok {ds : List D} {t : List (List Key × D)} (h : asPT ds = .ok t) : ∃ ps, ds = [.list ps] ∧ pairsT ps = some t := by
  unfold asPT at h
  split at h
  · rename_i ps
    cases q : pairsT ps with
    | none =>
      rw [q] at h
      cases h
    | some t0 =>
      rw [q] at h
      cases h
      exact ⟨ps, rfl, q⟩
  · cases h
theorem kvT_of {K : PySem.W.Frag} {F : Hp} : ∀ {kbs : List (List Key × Addr × V)} {t : List (List Key × D)} {ys : List (List Key × Addr × Value)}, Paired (fun (q : List Key × Addr × V) (e : List Key × D) => q.1 = e.1 ∧ SqT K F q.2.1 (q.1.map kV) ∧ Dd K F q.2.2 e.2) kbs t → RelY kbs ys → KvT K F ys t
  | _, _, _, .nil, .nil => .nil
  | q :: _, e :: _, y :: _, .cons h r, .cons g s => by
    obtain ⟨k1, b1, v1⟩ := q
    obtain ⟨k2, d2⟩ := e
    obtain ⟨k3, b3, y3⟩ := y
    obtain ⟨e1, e2, e3⟩ := h
    obtain ⟨f1, f2, f3⟩ := g
    cases e1
    cases f1
    cases f2
    exact .cons e2 f3 e3 (kvT_of r s)
theorem s_tab [Hs] (i : Nat) {x : Str} {p pos' pos2 : Pos} (hN : X.N.Nodup) (hh : Hs.hs = hsOf X.prog X.w) (hc : X.calm = true) (hu : X.A.units + 65 < cLine) (hm : X.mg "dict" = none) (ha : PA X [a] (tA G E fs)) (hi : X.N[i]? = some x := by rfl) (hx : Loc X.env.scope x := by first | exact Or.inl rfl | exact Or.inr rfl) (hs : swapsWith (.Call (.Name "dict" p) [a] [] pos2) (some (.Name x pos')) pos.line X.env = pure false := by rfl) (hf : X.fn x = true ∨ X.env.scope.names.lookup x = some .local := by first | exact .inl rfl | exact .inr rfl | assumption)
    (hg : Gl X "dict" := by rfl) (he : starEach [a] X.env = (false, eval a X.env) :: starEach [] X.env := by rfl) (hpl : (backTo pos2 (starEach [] X.env)).any (·.1) = false := by rfl) (hK : X.K = G.K := by rfl) :
    PS X (.Assign [.Name x pos'] (.Call (.Name "dict" p) [a] [] pos2) pos) (tS G E (gTab i fs)) :=
  ps_imp (ps_set hN hi hx (pe_callTy (x := "dict") (T := "dict") (call_dictT hc hu) hg hm (by decide +kernel) ha (by decide) (by decide) he hpl) hs hf) fun Dn σ H ⟨F0, H0, ρ, F, i0, h⟩ => ⟨ρ, F, i0.env, i0.base, PostO.seq h i0.st fun ds vs F1 H1 _ s1 d1 h1 => by
    show rDictT X.K (hsOf X.prog X.w) vs H1 _
    cases qt : asPT ds with
    | bad =>
      have h1' : PostO G E F0 H0 Dn (oB (asPT ds) fun t => .nx (ρ.set i (.tab Hs.hs (mkT [] t)))) := h1
      rw [qt] at h1'
      exact (show False from h1').elim
    | err c =>
      unfold asPT at qt
      split at qt
      · split at qt <;> cases qt
      · cases qt
    | ok t =>
      have h1' : PostO G E F0 H0 Dn (oB (asPT ds) fun t => .nx (ρ.set i (.tab Hs.hs (mkT [] t)))) := h1
      rw [qt] at h1'
      have h2 : PostO G E F0 H0 Dn (.nx (ρ.set i (.tab Hs.hs (mkT [] t)))) := h1'
      obtain ⟨ps, rfl, hps⟩ := asPT_ok qt
      cases d1 with
      | @cons v ws _ _ hd ht =>
        cases ht
        cases hd with
        | @lst l xs _ hl hxs =>
          obtain ⟨as, kbs, rfl, g1, g2⟩ := pairs_dd ps hxs hps
          rw [hK]
          have up : ∀ {c : Addr} {zs : List V}, SqT G.K F1 c zs → SqT G.K H1 c zs := fun z => s1.base.sub.sqT z
          refine ⟨l, as, kbs, rfl, SqL.of (s1.base.sub _ _ hl), Paired.mapP g1 fun _ _ z => ⟨up z.1, up z.2⟩, fun p ys hp hr => ?_⟩
          have st := Step.new (o := TabO (hsOf X.prog X.w) p (storedAllH [] ys)) s1.base hp (fun ps => tabO_ne ps)
          have kv : KvT G.K F1 (storedAllH [] ys) (mkT [] t) := KvT.putAll (kvT_of g2 hr) .nil
          have i1 := (i0.step s1).step st
          have := i1.tab i (p := p) (hs := Hs.hs) (xs := storedAllH [] ys) (t := mkT [] t) (by rw [hh]; exact upd_same) (kv.mono st.ff)
          exact h2 _ _ _ this⟩
@[reducible] def tabAt [Hs] (ρ : Rho) (i : Nat) (f : List (List Key × D) → R D) : R D := match ρ[i]? with
  | some (.tab hs t) => if hs = Hs.hs then f t else .bad
  | _ => .bad
@[reducible] def ixT (t : List (List Key × D)) (d : D) : R D := match keyT d with
  | some k => match valT t k with
    | some v => .ok v
    | none => .bad
  | none => .bad
@[reducible] def rTab [Hs] (i : Nat) (fb : Rho → R D) : Rho → R D := fun ρ => tabAt ρ i fun t => (fb ρ).bind fun d => ixT t d
theorem ixT_ok {K : PySem.W.Frag} {F : Hp} {t : List (List Key × D)} {d : D} {xs : List (List Key × Addr × Value)} {v : V} (hk : KvT K F xs t) (hd : Dd K F v d) : ixT t d = .bad ∨ ∃ b k pr u c, v = .ref b ∧ SqT K F b (k.map kV) ∧ atKey xs k = some pr ∧ RelV u pr.2 ∧ Dd K F u c ∧ ixT t d = .ok c := by
  cases qk : keyT d with
  | none =>
    refine .inl ?_
    unfold ixT
    rw [qk]
  | some k =>
    obtain ⟨es, rfl, hes⟩ := keyT_tup qk
    obtain ⟨b, ws, rfl, hb, hws⟩ := dd_tupk hd
    have hv := keyT_dd hes hws
    subst hv
    rcases hk.val k with ⟨g1, g2⟩ | ⟨b', y, u, c, g1, g2, g3, g4⟩
    · refine .inl ?_
      unfold ixT
      rw [qk]
      show (match valT t k with | some v => R.ok v | none => .bad) = .bad
      rw [g2]
    · refine .inr ⟨b, k, (b', y), u, c, rfl, hb, g1, g3, g4, ?_⟩
      unfold ixT
      rw [qk]
      show (match valT t k with | some v => R.ok v | none => .bad) = .ok c
      rw [g2]
theorem e_tab [Hs] (i : Nat) {x : Str} {px : Pos} (hh : Hs.hs = hsOf X.prog X.w) (hu : X.A.units + 65 < cLine) (hb : PE X b (tE G E fb)) (hN : X.N[i]? = some x := by rfl) (hv : Vis X.env.scope x := by first | exact Or.inl rfl | exact Or.inr (Or.inl rfl) | exact Or.inr (Or.inr rfl)) (hd : (x == ("__debug__" : Str)) = false := by decide) (hcd : (x == ("__classdict__" : Str)) = false := by decide) (hs : NoSl b := by exact fun _ _ => rfl) (hK : X.K = G.K := by rfl) :
    PE X (.Subscript (.Name x px) b pos) (tE G E (rTab i fb)) :=
  pe_imp (pe_tabIx (Nat.lt_of_le_of_lt (by omega) hu) (pe_var hN hv hd hcd) hb hs) fun σ H Q ⟨ρ, F, e, bs, h⟩ => by
    have h0 : PostR G (Dd G.K) E F H Q (tabAt ρ i fun t => (fb ρ).bind fun d => ixT t d) := h
    have hρ : ∃ t, ρ[i]? = some (.tab Hs.hs t) ∧ PostR G (Dd G.K) E F H Q ((fb ρ).bind fun d => ixT t d) := by
      unfold tabAt at h0
      split at h0
      · rename_i hs t q
        split at h0
        · rename_i e
          subst e
          exact ⟨t, q, h0⟩
        · exact (show False from h0).elim
      · exact (show False from h0).elim
    obtain ⟨t, hρ, h1⟩ := hρ
    have hi : i < σ.length := by
      rw [e.len]
      exact (List.getElem?_eq_some_iff.mp hρ).1
    obtain ⟨p, xs, e1, e2, e3⟩ := e.at_ i _ σ[i] hρ (List.getElem?_eq_getElem hi)
    refine ⟨.ref p, by rw [List.getElem?_eq_getElem hi, e1], ρ, F, e, bs, PostR.seq h1 fun d v F1 H1 _ s1 d1 h2 => ?_⟩
    have k1 := e3.mono s1.ff
    rcases ixT_ok k1 d1 with g | ⟨b, k, pr, u, c, rfl, g1, g2, g3, g4, g5⟩
    · rw [g] at h2
      exact (show False from h2).elim
    · rw [g5] at h2
      rw [hK, ← hh]
      exact ⟨p, b, k, xs, pr, u, rfl, rfl, s1.base.sub _ _ (s1.ff _ _ e2), fun z hz => s1.base.sub.sqT (k1.keys z hz), s1.base.sub.sqT g1, g2, g3, h2.val s1.base g4⟩
end
end Py

/-! enumerate(zip(a, b)) of two tuples: turned from the kit's zip of two tuples and its enumerate of a list -/
namespace REZ
open PySem PySem.Spec PyProof.Rows L2 RZ
open PySem.Sem (wp)
section
variable {prog : Program} {w : World} {A : Around} {E : Value → Shared → Prop} {s : Shared}
abbrev IsZipG (h : Heap) (z TI TO : Addr) (f0 : Value) (f : Bool) : Prop :=
  h.get? z = some { cls := .type "zip", dict := none, data := .fields #[f0, .bool f, .bool false, .ref TI, .ref TO], slots := #[] }
def FOk (f0 : Value) : Prop := f0 = .none ∨ ∃ T : Addr, f0 = rawInt T
theorem free_or {z TI TO : Addr} {f0 : Value} {f : Bool} {Q : Bool → Shared → Prop} (hz : IsZipG s.heap z TI TO f0 f) (hf : FOk f0) (h1 : Q true s)
    (h2 : ∀ h', IsZipG h' z TI TO f0 true → Heap.SameBut z s.heap h' → Q false { s with heap := h' }) : wpAny (model prog w) A (Builtin.SmallTypes.ownedTupleIsFree (.ref z)) Q E s := by
  unfold Builtin.SmallTypes.ownedTupleIsFree
  rcases hf with rfl | ⟨T, rfl⟩
  · exact wpAny_bind (wpAny_field hz rfl (x := .none) rfl (wpAny_pure h1))
  · refine wpAny_bind (wpAny_field hz rfl (x := rawInt T) rfl ?_)
    show wpAny _ _ (loadIfAlive ((T : Int).toNat) >>= _) _ _ _
    rw [Int.toNat_natCast]
    cases hT : s.heap.get? T with
    | none =>
      have hl : ∀ {Q : Option Obj → Shared → Prop}, Q none s → wpAny (model prog w) A (loadIfAlive T) Q E s := fun {Q} q => by
        have h' : Q (s.heap.get? T) s := by rw [hT]; exact q
        exact fun _ _ _ => h'
      refine wpAny_bind (hl ?_)
      simp only [Option.isNone_none, if_true]
      exact wpAny_pure h1
    | some o =>
      refine wpAny_bind (PySem.W.kdx_alive hT ?_)
      simp only [Option.isNone_some, Bool.false_eq_true, if_false]
      refine wpAny_bind (wpAny_field hz rfl (x := .bool f) rfl ?_)
      cases f with
      | true =>
        rw [if_neg (show ¬ ((Value.bool true != Value.bool true) = true) from Bool.false_ne_true)]
        exact wpAny_pure (h2 s.heap hz (Heap.SameBut.refl _ _))
      | false =>
        rw [if_pos (show (Value.bool false != Value.bool true) = true from rfl)]
        exact wpAny_bind (wpAny_setField_rec hz (by simp) fun h₁ hz₁ hs₁ => wpAny_pure (h2 h₁ hz₁ hs₁))

theorem zipG_next_item {z TI TO i1 i2 l1 l2 : Addr} {f0 : Value} {f : Bool} {k1 k2 : Nat} {xs ys : Array Value} {x y a b : Value} {Q : Value → Shared → Prop} (D : ZipApart z TI TO i1 i2 l1 l2)
    (hz : IsZipG s.heap z TI TO f0 f) (hf : FOk f0) (hTI : IsPair s.heap TI (.ref i1) (.ref i2)) (hTO : IsPair s.heap TO a b)
    (h1 : s.heap.IsTupleIter i1 l1 k1) (h2 : s.heap.IsTupleIter i2 l2 k2) (hl1 : s.heap.IsTuple l1 xs) (hl2 : s.heap.IsTuple l2 ys) (hx : xs[k1]? = some x) (hy : ys[k2]? = some y)
    (hQ : ∀ h' f0' f', IsZipG h' z TI TO f0' f' → FOk f0' → (∃ a b, IsPair h' TO a b) → h'.IsTupleIter i1 l1 (k1 + 1) → h'.IsTupleIter i2 l2 (k2 + 1) → IsPair h' s.heap.objs.size x y → h'.objs.size = s.heap.objs.size + 1 →
      (∀ c o, c ≠ z → c ≠ TO → c ≠ i1 → c ≠ i2 → s.heap.get? c = some o → h'.get? c = some o) → Q (.ref s.heap.objs.size) { s with heap := h' }) :
    wpAny (model prog w) A (Builtin.«zip.__next__» ⟨[.ref z], []⟩) (fun fin s' => ∃ v, fin = .done (.ret v) ∧ Q v s') E s := by
  show wpAny _ _ (field (.ref z) 2 >>= _) _ _ _
  refine wpAny_bind (wpAny_field hz rfl (x := .bool false) rfl ?_)
  show wpAny _ _ (field (.ref z) 3 >>= _) _ _ _
  refine wpAny_bind (wpAny_field hz rfl (x := .ref TI) rfl ?_)
  refine wpAny_bind (wpAny_seqItems hTI rfl ?_)
  show wpAny _ _ (Builtin.SmallTypes.ownedTupleIsFree (.ref z) >>= _) _ _ _
  refine wpAny_bind (free_or hz hf ?_ fun h₁ hz₁ hs₁ => ?_)
  · simp only [if_true]
    refine wpAny_bind (wpAny_rule ?_)
    refine wpAny_bind (wpAny_field hz rfl (x := .ref TO) rfl ?_)
    refine wpAny_bind (wpAny_setField_rec hz (by simp) fun h₁ hz₁ hs₁ => ?_)
    replace hz₁ : IsZipG h₁ z TI TO .ellipsis f := hz₁
    refine wpAny_bind ?_
    simp only [List.zipIdx_cons, List.zipIdx_nil, List.forIn_cons, List.forIn_nil]
    refine wpAny_bind (wpAny_bind (wpAny_onRaise ?_))
    show wpAny _ _ (Builtin.SmallTypes.nextOf (.ref i1) >>= _) _ _ _
    refine wpAny_bind (nextOf_tuple_item (h1.extBut hs₁.extBut D.i1z) (hl1.extBut hs₁.extBut D.l1z) hx fun h₂ h1₂ hs₂ => wpAny_pure ?_)
    have hTO₂ : IsPair h₂ TO a b := hs₂.extBut _ _ D.TOi1 (hs₁.extBut _ _ D.TOz hTO)
    refine wpAny_bind (wpAny_seqItems hTO₂ rfl ?_)
    refine wpAny_bind (wpAny_updateSeq_pair hTO₂ fun h₃ hTO₃ hs₃ => ?_)
    replace hTO₃ : IsPair h₃ TO x b := hTO₃
    refine wpAny_bind (wpAny_letGo (wpAny_pure ?_))
    refine wpAny_bind (wpAny_bind (wpAny_onRaise ?_))
    show wpAny _ _ (Builtin.SmallTypes.nextOf (.ref i2) >>= _) _ _ _
    refine wpAny_bind (nextOf_tuple_item (((h2.extBut hs₁.extBut D.i2z).extBut hs₂.extBut D.i12.symm).extBut hs₃.extBut D.TOi2.symm)
      (((hl2.extBut hs₁.extBut D.l2z).extBut hs₂.extBut D.l2i1).extBut hs₃.extBut D.l2TO) hy fun h₄ h2₄ hs₄ => wpAny_pure ?_)
    have hTO₄ : IsPair h₄ TO x b := hs₄.extBut _ _ D.TOi2 hTO₃
    refine wpAny_bind (wpAny_seqItems hTO₄ rfl ?_)
    refine wpAny_bind (wpAny_updateSeq_pair hTO₄ fun h₅ hTO₅ hs₅ => ?_)
    replace hTO₅ : IsPair h₅ TO x y := hTO₅
    refine wpAny_bind (wpAny_letGo (wpAny_pure (wpAny_pure ?_)))
    refine wpAny_bind (wpAny_seqItems hTO₅ rfl ?_)
    refine wpAny_bind (wpAny_newTuple ?_)
    have hsz : h₅.objs.size = s.heap.objs.size := by rw [hs₅.1, hs₄.1, hs₃.1, hs₂.1, hs₁.1]
    have hz₅ : IsZipG h₅ z TI TO .ellipsis f := hs₅.extBut _ _ D.TOz.symm (hs₄.extBut _ _ D.i2z.symm (hs₃.extBut _ _ D.TOz.symm (hs₂.extBut _ _ D.i1z.symm hz₁)))
    have hk₅ : ∀ c o, c ≠ z → c ≠ TO → c ≠ i1 → c ≠ i2 → s.heap.get? c = some o → h₅.get? c = some o := fun c o c1 c2 c3 c4 e =>
      hs₅.extBut _ _ c2 (hs₄.extBut _ _ c4 (hs₃.extBut _ _ c2 (hs₂.extBut _ _ c3 (hs₁.extBut _ _ c1 e))))
    have h1₅ : h₅.IsTupleIter i1 l1 (k1 + 1) := ((h1₂.extBut hs₃.extBut D.TOi1.symm).extBut hs₄.extBut D.i12).extBut hs₅.extBut D.TOi1.symm
    have h2₅ : h₅.IsTupleIter i2 l2 (k2 + 1) := h2₄.extBut hs₅.extBut D.TOi2.symm
    have hzlt : z < h₅.objs.size := Heap.lt_size hz₅
    show wpAny _ _ (Builtin.SmallTypes.ownedTupleHandOut (.ref z) (.ref h₅.objs.size) >>= _) _ _ _
    refine wpAny_bind ?_
    unfold Builtin.SmallTypes.ownedTupleHandOut
    have hz₆ : IsZipG (h₅.push { cls := .type "tuple", data := .seq #[x, y] }) z TI TO .ellipsis f := Heap.get?_push_of_some _ hz₅
    refine wpAny_bind (wpAny_setField_rec hz₆ (by simp) fun h₇ hz₇ hs₇ => ?_)
    replace hz₇ : IsZipG h₇ z TI TO (rawInt h₅.objs.size) f := hz₇
    refine wpAny_setField_rec hz₇ (by simp) fun h₈ hz₈ hs₈ => ?_
    replace hz₈ : IsZipG h₈ z TI TO (rawInt h₅.objs.size) false := hz₈
    have up : ∀ c o, c ≠ z → h₅.get? c = some o → h₈.get? c = some o := fun c o c1 e => hs₈.extBut _ _ c1 (hs₇.extBut _ _ c1 (Heap.get?_push_of_some _ e))
    have hT₈ : IsPair h₈ h₅.objs.size x y := hs₈.extBut _ _ (Nat.ne_of_gt hzlt) (hs₇.extBut _ _ (Nat.ne_of_gt hzlt) (Heap.get?_push_size _ rfl))
    have hz8 : h₈.objs.size = h₅.objs.size + 1 := by rw [hs₈.1, hs₇.1, Heap.size_push]
    rw [hsz] at hz₈ hT₈ hz8
    refine wpAny_pure ⟨_, rfl, ?_⟩
    show Q (.ref h₅.objs.size) _
    rw [hsz]
    exact hQ h₈ _ _ hz₈ (.inr ⟨_, rfl⟩) ⟨x, y, up _ _ D.TOz hTO₅⟩ (h1₅.at fun o e => up _ o D.i1z e) (h2₅.at fun o e => up _ o D.i2z e) hT₈ hz8 fun c o c1 c2 c3 c4 e => up c o c1 (hk₅ c o c1 c2 c3 c4 e)
  · simp only [Bool.false_eq_true, if_false]
    refine wpAny_bind ?_
    rw [← Array.forIn_toList]
    simp only [List.forIn_cons, List.forIn_nil]
    refine wpAny_bind (wpAny_bind (wpAny_holding ?_))
    show wpAny _ _ (Builtin.SmallTypes.nextOf (.ref i1) >>= _) _ _ _
    refine wpAny_bind (nextOf_tuple_item (s := { s with heap := h₁ }) (h1.extBut hs₁.extBut D.i1z) (hl1.extBut hs₁.extBut D.l1z) hx fun h₂ h1₂ hs₂ => wpAny_pure ?_)
    refine wpAny_pure ?_
    refine wpAny_bind (wpAny_bind (wpAny_holding ?_))
    show wpAny _ _ (Builtin.SmallTypes.nextOf (.ref i2) >>= _) _ _ _
    refine wpAny_bind (nextOf_tuple_item (s := { s with heap := h₂ }) ((h2.extBut hs₁.extBut D.i2z).extBut hs₂.extBut D.i12.symm) ((hl2.extBut hs₁.extBut D.l2z).extBut hs₂.extBut D.l2i1) hy fun h₃ h2₃ hs₃ => wpAny_pure ?_)
    refine wpAny_pure (wpAny_pure ?_)
    show wpAny _ _ (newTuple [x, y] >>= _) _ _ _
    refine wpAny_bind (wpAny_newTuple ?_)
    have hsz : h₃.objs.size = s.heap.objs.size := by rw [hs₃.1, hs₂.1, hs₁.1]
    have hz₃ : IsZipG h₃ z TI TO f0 true := hs₃.extBut _ _ D.i2z.symm (hs₂.extBut _ _ D.i1z.symm hz₁)
    have hk : ∀ c o, c ≠ z → c ≠ i1 → c ≠ i2 → s.heap.get? c = some o → h₃.get? c = some o := fun c o c1 c2 c3 e => hs₃.extBut _ _ c3 (hs₂.extBut _ _ c2 (hs₁.extBut _ _ c1 e))
    have h1₃ : h₃.IsTupleIter i1 l1 (k1 + 1) := h1₂.extBut hs₃.extBut D.i12
    refine wpAny_pure ⟨_, rfl, ?_⟩
    show Q (.ref h₃.objs.size) _
    have hp : IsPair (h₃.push { cls := .type "tuple", data := .seq #[x, y] }) h₃.objs.size x y := Heap.get?_push_size _ rfl
    have hz4 : (h₃.push { cls := .type "tuple", data := .seq #[x, y] }).objs.size = h₃.objs.size + 1 := Heap.size_push ..
    rw [hsz] at hp hz4 ⊢
    exact hQ _ _ _ (Heap.get?_push_of_some _ hz₃) hf ⟨a, b, Heap.get?_push_of_some _ (hk _ _ D.TOz D.TOi1 D.TOi2 hTO)⟩ (h1₃.at fun o e => Heap.get?_push_of_some _ e) (h2₃.at fun o e => Heap.get?_push_of_some _ e) hp hz4 fun c o c1 _ c2 c3 e => Heap.get?_push_of_some _ (hk c o c1 c2 c3 e)

theorem zipG_next_end {z TI TO i1 i2 l1 l2 : Addr} {f0 : Value} {f : Bool} {k1 k2 : Nat} {xs ys : Array Value} {a b : Value} {Q : Fin → Shared → Prop} (hh : A.handled = none) (D : ZipApart z TI TO i1 i2 l1 l2)
    (hz : IsZipG s.heap z TI TO f0 f) (hf : FOk f0) (hTI : IsPair s.heap TI (.ref i1) (.ref i2)) (hTO : IsPair s.heap TO a b)
    (h1 : s.heap.IsTupleIter i1 l1 k1) (h2 : s.heap.IsTupleIter i2 l2 k2) (hl1 : s.heap.IsTuple l1 xs) (hl2 : s.heap.IsTuple l2 ys) (hend : xs[k1]? = none ∨ ys[k2]? = none)
    (hE : ∀ h' e, (∀ c o, c ≠ z → c ≠ TO → c ≠ i1 → c ≠ i2 → s.heap.get? c = some o → h'.get? c = some o) → (∃ o, h'.get? e = some o ∧ o.cls = .type "StopIteration") → E (.ref e) { s with heap := h' }) :
    wpAny (model prog w) A (Builtin.«zip.__next__» ⟨[.ref z], []⟩) Q E s := by
  show wpAny _ _ (field (.ref z) 2 >>= _) _ _ _
  refine wpAny_bind (wpAny_field hz rfl (x := .bool false) rfl ?_)
  show wpAny _ _ (field (.ref z) 3 >>= _) _ _ _
  refine wpAny_bind (wpAny_field hz rfl (x := .ref TI) rfl ?_)
  refine wpAny_bind (wpAny_seqItems hTI rfl ?_)
  show wpAny _ _ (Builtin.SmallTypes.ownedTupleIsFree (.ref z) >>= _) _ _ _
  refine wpAny_bind (free_or hz hf ?_ fun h₁ hz₁ hs₁ => ?_)
  · simp only [if_true]
    refine wpAny_bind (wpAny_rule ?_)
    refine wpAny_bind (wpAny_field hz rfl (x := .ref TO) rfl ?_)
    refine wpAny_bind (wpAny_setField_rec hz (by simp) fun h₁ hz₁ hs₁ => ?_)
    replace hz₁ : IsZipG h₁ z TI TO .ellipsis f := hz₁
    refine wpAny_bind ?_
    simp only [List.zipIdx_cons, List.zipIdx_nil, List.forIn_cons, List.forIn_nil]
    refine wpAny_bind (wpAny_bind (wpAny_onRaise ?_))
    show wpAny _ _ (Builtin.SmallTypes.nextOf (.ref i1) >>= _) _ _ _
    cases hx : xs[k1]? with
    | none =>
      refine wpAny_bind (nextOf_tuple_end hh (h1.extBut hs₁.extBut D.i1z) (hl1.extBut hs₁.extBut D.l1z) hx fun h₂ e hs₂ he => ?_)
      obtain ⟨oe, hoe, hce⟩ := he
      have hz₂ : IsZipG h₂ z TI TO .ellipsis f := hs₂ _ _ D.i1z.symm hz₁
      have hez : e ≠ z := fun x => by subst x; rw [hz₂] at hoe; cases hoe; simp at hce
      refine wpAny_setField_rec hz₂ (by simp) fun h₃ _ hs₃ => hE h₃ e (fun c o c1 _ c3 _ x => hs₃.extBut _ _ c1 (hs₂ _ _ c3 (hs₁.extBut _ _ c1 x))) ⟨oe, hs₃.extBut _ _ hez hoe, hce⟩
    | some x =>
      have hy : ys[k2]? = none := by rcases hend with h | h; rw [hx] at h; cases h; exact h
      refine wpAny_bind (nextOf_tuple_item (h1.extBut hs₁.extBut D.i1z) (hl1.extBut hs₁.extBut D.l1z) hx fun h₂ h1₂ hs₂ => wpAny_pure ?_)
      have hTO₂ : IsPair h₂ TO a b := hs₂.extBut _ _ D.TOi1 (hs₁.extBut _ _ D.TOz hTO)
      refine wpAny_bind (wpAny_seqItems hTO₂ rfl ?_)
      refine wpAny_bind (wpAny_updateSeq_pair hTO₂ fun h₃ hTO₃ hs₃ => ?_)
      refine wpAny_bind (wpAny_letGo (wpAny_pure ?_))
      refine wpAny_bind (wpAny_bind (wpAny_onRaise ?_))
      show wpAny _ _ (Builtin.SmallTypes.nextOf (.ref i2) >>= _) _ _ _
      refine wpAny_bind (nextOf_tuple_end hh (((h2.extBut hs₁.extBut D.i2z).extBut hs₂.extBut D.i12.symm).extBut hs₃.extBut D.TOi2.symm)
        (((hl2.extBut hs₁.extBut D.l2z).extBut hs₂.extBut D.l2i1).extBut hs₃.extBut D.l2TO) hy fun h₄ e hs₄ he => ?_)
      obtain ⟨oe, hoe, hce⟩ := he
      have hz₄ : IsZipG h₄ z TI TO .ellipsis f := hs₄ _ _ D.i2z.symm (hs₃.extBut _ _ D.TOz.symm (hs₂.extBut _ _ D.i1z.symm hz₁))
      have hez : e ≠ z := fun x => by subst x; rw [hz₄] at hoe; cases hoe; simp at hce
      refine wpAny_setField_rec hz₄ (by simp) fun h₅ _ hs₅ => hE h₅ e (fun c o c1 c2 c3 c4 x => hs₅.extBut _ _ c1 (hs₄ _ _ c4 (hs₃.extBut _ _ c2 (hs₂.extBut _ _ c3 (hs₁.extBut _ _ c1 x))))) ⟨oe, hs₅.extBut _ _ hez hoe, hce⟩
  · simp only [Bool.false_eq_true, if_false]
    refine wpAny_bind ?_
    rw [← Array.forIn_toList]
    simp only [List.forIn_cons, List.forIn_nil]
    refine wpAny_bind (wpAny_bind (wpAny_holding ?_))
    show wpAny _ _ (Builtin.SmallTypes.nextOf (.ref i1) >>= _) _ _ _
    cases hx : xs[k1]? with
    | none =>
      refine wpAny_bind (nextOf_tuple_end (s := { s with heap := h₁ }) hh (h1.extBut hs₁.extBut D.i1z) (hl1.extBut hs₁.extBut D.l1z) hx fun h₂ e hs₂ he => ?_)
      exact hE h₂ e (fun c o c1 _ c3 _ x => hs₂ _ _ c3 (hs₁.extBut _ _ c1 x)) he
    | some x =>
      have hy : ys[k2]? = none := by rcases hend with h | h; rw [hx] at h; cases h; exact h
      refine wpAny_bind (nextOf_tuple_item (s := { s with heap := h₁ }) (h1.extBut hs₁.extBut D.i1z) (hl1.extBut hs₁.extBut D.l1z) hx fun h₂ h1₂ hs₂ => wpAny_pure ?_)
      refine wpAny_pure ?_
      refine wpAny_bind (wpAny_bind (wpAny_holding ?_))
      show wpAny _ _ (Builtin.SmallTypes.nextOf (.ref i2) >>= _) _ _ _
      refine wpAny_bind (nextOf_tuple_end (s := { s with heap := h₂ }) hh ((h2.extBut hs₁.extBut D.i2z).extBut hs₂.extBut D.i12.symm) ((hl2.extBut hs₁.extBut D.l2z).extBut hs₂.extBut D.l2i1) hy fun h₃ e hs₃ he => ?_)
      exact hE h₃ e (fun c o c1 _ c3 c4 x => hs₃ _ _ c4 (hs₂.extBut _ _ c3 (hs₁.extBut _ _ c1 x))) he

theorem nextOf_zipG_item {z TI TO i1 i2 l1 l2 : Addr} {f0 : Value} {f : Bool} {k1 k2 : Nat} {xs ys : Array Value} {x y a b : Value} {Q : Value → Shared → Prop} (D : ZipApart z TI TO i1 i2 l1 l2)
    (hz : IsZipG s.heap z TI TO f0 f) (hf : FOk f0) (hTI : IsPair s.heap TI (.ref i1) (.ref i2)) (hTO : IsPair s.heap TO a b)
    (h1 : s.heap.IsTupleIter i1 l1 k1) (h2 : s.heap.IsTupleIter i2 l2 k2) (hl1 : s.heap.IsTuple l1 xs) (hl2 : s.heap.IsTuple l2 ys) (hx : xs[k1]? = some x) (hy : ys[k2]? = some y)
    (hQ : ∀ h' f0' f', IsZipG h' z TI TO f0' f' → FOk f0' → (∃ a b, IsPair h' TO a b) → h'.IsTupleIter i1 l1 (k1 + 1) → h'.IsTupleIter i2 l2 (k2 + 1) → IsPair h' s.heap.objs.size x y → h'.objs.size = s.heap.objs.size + 1 →
      (∀ c o, c ≠ z → c ≠ TO → c ≠ i1 → c ≠ i2 → s.heap.get? c = some o → h'.get? c = some o) → Q (.ref s.heap.objs.size) { s with heap := h' }) :
    wpAny (model prog w) A (Builtin.SmallTypes.nextOf (.ref z)) Q E s := by
  have hT : s.TypeIs (.ref z) "zip" := ⟨_, hz, rfl⟩
  unfold Builtin.SmallTypes.nextOf
  exact wpAny_bind (wpAny_callSpecial?_slot (name := Str.ofString "__next__") hT F.slot_zip_next
    (wpAny_call_entry F.slot_zip_next hT F.entry_zip_next
      (zipG_next_item D hz hf hTI hTO h1 h2 hl1 hl2 hx hy fun h' f0' f' a1 a2 a3 a4 a5 a6 a7 a8 => wpAny_pure (hQ h' f0' f' a1 a2 a3 a4 a5 a6 a7 a8)) (F.args_zip_next_1 _)))

theorem nextOf_zipG_end {z TI TO i1 i2 l1 l2 : Addr} {f0 : Value} {f : Bool} {k1 k2 : Nat} {xs ys : Array Value} {a b : Value} {Q : Value → Shared → Prop} (hh : A.handled = none) (D : ZipApart z TI TO i1 i2 l1 l2)
    (hz : IsZipG s.heap z TI TO f0 f) (hf : FOk f0) (hTI : IsPair s.heap TI (.ref i1) (.ref i2)) (hTO : IsPair s.heap TO a b)
    (h1 : s.heap.IsTupleIter i1 l1 k1) (h2 : s.heap.IsTupleIter i2 l2 k2) (hl1 : s.heap.IsTuple l1 xs) (hl2 : s.heap.IsTuple l2 ys) (hend : xs[k1]? = none ∨ ys[k2]? = none)
    (hE : ∀ h' e, (∀ c o, c ≠ z → c ≠ TO → c ≠ i1 → c ≠ i2 → s.heap.get? c = some o → h'.get? c = some o) → (∃ o, h'.get? e = some o ∧ o.cls = .type "StopIteration") → E (.ref e) { s with heap := h' }) :
    wpAny (model prog w) A (Builtin.SmallTypes.nextOf (.ref z)) Q E s := by
  have hT : s.TypeIs (.ref z) "zip" := ⟨_, hz, rfl⟩
  unfold Builtin.SmallTypes.nextOf
  exact wpAny_bind (wpAny_callSpecial?_slot (name := Str.ofString "__next__") hT F.slot_zip_next
    (wpAny_call_entry F.slot_zip_next hT F.entry_zip_next
      (zipG_next_end hh D hz hf hTI hTO h1 h2 hl1 hl2 hend hE) (F.args_zip_next_1 _)))

/-- enumerate's next, whatever the next item is: it comes with a heap in which the enumerate stands as it was -/
theorem enumN_next_item {e it : Addr} {c : Int} {old : Value} {Q : Value → Shared → Prop} {Rx : Value → Heap → Prop}
    (he : IsEnum s.heap e it c old)
    (hn : ∀ (Q' : Value → Shared → Prop), (∀ x h₁, Rx x h₁ → IsEnum h₁ e it c old → Q' x { s with heap := h₁ }) → wpAny (model prog w) A (Builtin.SmallTypes.nextOf (.ref it)) Q' E s)
    (hQ : ∀ x h₁ h', Rx x h₁ → IsEnumOut h' e it (c + 1) x h₁.objs.size → IsEnum h₁ e it c old →
      h'.get? h₁.objs.size = some { cls := .type "tuple", data := .seq #[.int c s.toks, x] } → h'.objs.size = h₁.objs.size + 1 →
      (∀ b o, b ≠ e → h₁.get? b = some o → h'.get? b = some o) → Q (.ref h₁.objs.size) { s with heap := h', toks := s.toks + 1 }) :
    wpAny (model prog w) A (Builtin.«enumerate.__next__» ⟨[.ref e], []⟩) (fun fin s' => ∃ v, fin = .done (.ret v) ∧ Q v s') E s := by
  obtain ⟨hp, g, d, tk, os⟩ := s
  show wpAny _ _ (field (.ref e) 2 >>= _) _ _ _
  refine wpAny_bind (wpAny_field he rfl (x := .ref it) rfl ?_)
  refine wpAny_bind (hn _ fun x h₁ hR he₁ => ?_)
  show wpAny _ _ (field (.ref e) 3 >>= _) _ _ ⟨h₁, g, d, tk, os⟩
  refine wpAny_bind (wpAny_field he₁ rfl (x := rawInt c) rfl ?_)
  show wpAny _ _ (field (.ref e) 4 >>= _) _ _ ⟨h₁, g, d, tk, os⟩
  refine wpAny_bind (wpAny_field he₁ rfl (x := .none) rfl ?_)
  show wpAny _ _ (mkInt c >>= _) _ _ ⟨h₁, g, d, tk, os⟩
  refine wpAny_bind (wpAny_mkInt ?_)
  show wpAny _ _ (setField (.ref e) 3 (rawInt (c + 1)) >>= _) _ _ ⟨h₁, g, d, tk + 1, os⟩
  refine wpAny_bind (wpAny_setField_rec he₁ (by simp) fun h₂ he₂ hs₂ => ?_)
  replace hs₂ : Heap.SameBut e h₁ h₂ := hs₂
  replace he₂ : IsEnum h₂ e it (c + 1) old := he₂
  show wpAny _ _ (setField (.ref e) 4 .none >>= _) _ _ ⟨h₂, g, d, tk + 1, os⟩
  refine wpAny_bind (wpAny_setField_rec he₂ (by simp) fun h₃ he₃ hs₃ => ?_)
  replace hs₃ : Heap.SameBut e h₂ h₃ := hs₃
  replace he₃ : IsEnum h₃ e it (c + 1) old := he₃
  show wpAny _ _ (newTuple [.int c tk, x] >>= _) _ _ ⟨h₃, g, d, tk + 1, os⟩
  refine wpAny_bind (wpAny_newTuple ?_)
  have he₄ : IsEnum (h₃.push { cls := .type "tuple", data := .seq #[.int c tk, x] }) e it (c + 1) old := Heap.get?_push_of_some _ he₃
  generalize hh₄ : h₃.push { cls := .type "tuple", data := .seq #[.int c tk, x] } = h₄ at he₄
  have hsz : h₃.objs.size = h₁.objs.size := by rw [hs₃.1, hs₂.1]
  have hel : e < h₁.objs.size := Heap.lt_size he₁
  have ht₄ : h₄.get? h₁.objs.size = some { cls := .type "tuple", data := .seq #[.int c tk, x] } := by rw [← hh₄, ← hsz]; exact Heap.get?_push_size _ rfl
  have hz₄ : h₄.objs.size = h₁.objs.size + 1 := by rw [← hh₄, Heap.size_push, hsz]
  have hk₄ : ∀ b o, b ≠ e → h₁.get? b = some o → h₄.get? b = some o := fun b o hbe hb => by
    rw [← hh₄]; exact Heap.get?_push_of_some _ (hs₃.extBut b o hbe (hs₂.extBut b o hbe hb))
  show wpAny _ _ (Builtin.SmallTypes.ownedTupleIsFree (.ref e) >>= _) _ _ ⟨h₄, g, d, tk + 1, os⟩
  rw [hsz]
  clear hh₄ he₃ hs₃ he₂ hs₂ hsz h₃ h₂
  refine wpAny_bind ?_
  · unfold Builtin.SmallTypes.ownedTupleIsFree
    refine wpAny_bind (wpAny_field he₄ rfl (x := .none) rfl (wpAny_pure ?_))
    simp only [if_true]
    refine wpAny_bind (wpAny_rule ?_)
    refine wpAny_bind (wpAny_field he₄ rfl (x := old) rfl ?_)
    refine wpAny_bind (wpAny_setField_rec he₄ (by simp) fun h₅ he₅ hs₅ => ?_)
    replace hs₅ : Heap.SameBut e h₄ h₅ := hs₅
    replace he₅ : IsEnum h₅ e it (c + 1) x := he₅
    show wpAny _ _ (Builtin.SmallTypes.ownedTupleHandOut (.ref e) (.ref h₁.objs.size) >>= _) _ _ ⟨h₅, g, d, tk + 1, os⟩
    refine wpAny_bind ?_
    · unfold Builtin.SmallTypes.ownedTupleHandOut
      refine wpAny_bind (wpAny_setField_rec he₅ (by simp) fun h₆ he₆ hs₆ => ?_)
      replace hs₆ : Heap.SameBut e h₅ h₆ := hs₆
      replace he₆ : IsEnumOut h₆ e it (c + 1) x h₁.objs.size := he₆
      refine wpAny_setField_rec he₆ (by simp) fun h₇ he₇ hs₇ => ?_
      replace hs₇ : Heap.SameBut e h₆ h₇ := hs₇
      replace he₇ : IsEnumOut h₇ e it (c + 1) x h₁.objs.size := he₇
      refine wpAny_bind (wpAny_letGo (wpAny_pure ⟨_, rfl, hQ x h₁ h₇ hR he₇ he₁ ?_ ?_ ?_⟩))
      · exact hs₇.extBut _ _ (Nat.ne_of_gt hel) (hs₆.extBut _ _ (Nat.ne_of_gt hel) (hs₅.extBut _ _ (Nat.ne_of_gt hel) ht₄))
      · rw [hs₇.1, hs₆.1, hs₅.1, hz₄]
      · exact fun b o hbe hb => hs₇.extBut b o hbe (hs₆.extBut b o hbe (hs₅.extBut b o hbe (hk₄ b o hbe hb)))

theorem pyNext_enumN_item {e it : Addr} {c : Int} {old : Value} {Q : Option Value → Shared → Prop} {Rx : Value → Heap → Prop}
    (he : IsEnum s.heap e it c old)
    (hn : ∀ (A : Around) (E : Value → Shared → Prop) (Q' : Value → Shared → Prop), (∀ x h₁, Rx x h₁ → IsEnum h₁ e it c old → Q' x { s with heap := h₁ }) → wpAny (model prog w) A (Builtin.SmallTypes.nextOf (.ref it)) Q' E s)
    (hQ : ∀ x h₁ h', Rx x h₁ → IsEnumOut h' e it (c + 1) x h₁.objs.size → IsEnum h₁ e it c old →
      h'.get? h₁.objs.size = some { cls := .type "tuple", data := .seq #[.int c s.toks, x] } → h'.objs.size = h₁.objs.size + 1 →
      (∀ b o, b ≠ e → h₁.get? b = some o → h'.get? b = some o) → Q (some (.ref h₁.objs.size)) { s with heap := h', toks := s.toks + 1 }) :
    wpAny (model prog w) A (pyNext (.ref e)) Q E s := by
  have hT : s.TypeIs (.ref e) "enumerate" := ⟨_, he, rfl⟩
  unfold pyNext
  exact wpAny_bind (wpAny_attempt (wpAny_callSpecial?_slot (name := Str.ofString "__next__") hT F.slot_enumerate_next
    (wpAny_call_entry F.slot_enumerate_next hT F.entry_enumerate_next
      (enumN_next_item he (hn _ _) fun x h₁ h' a b c d k q => wpAny_pure (hQ x h₁ h' a b c d k q)) (F.args_enumerate_next_1 _))))

theorem pyNext_enumN_end {e it : Addr} {c : Int} {old : Value} {Q : Option Value → Shared → Prop} {Rh : Heap → Prop}
    (he : IsEnum s.heap e it c old)
    (hn : ∀ (A' : Around) (E : Value → Shared → Prop) (Q' : Value → Shared → Prop), A'.handled = A.handled → (∀ h' x, Rh h' → (∃ o, h'.get? x = some o ∧ o.cls = .type "StopIteration") → E (.ref x) { s with heap := h' }) → wpAny (model prog w) A' (Builtin.SmallTypes.nextOf (.ref it)) Q' E s)
    (hQ : ∀ h', Rh h' → Q none { s with heap := h' }) : wpAny (model prog w) A (pyNext (.ref e)) Q E s := by
  have hT : s.TypeIs (.ref e) "enumerate" := ⟨_, he, rfl⟩
  unfold pyNext
  refine wpAny_bind (wpAny_attempt (wpAny_callSpecial?_slot (name := Str.ofString "__next__") hT F.slot_enumerate_next
    (wpAny_call_entry F.slot_enumerate_next hT F.entry_enumerate_next ?_ (F.args_enumerate_next_1 _))))
  show wpAny _ _ (field (.ref e) 2 >>= _) _ _ _
  refine wpAny_bind (wpAny_field he rfl (x := .ref it) rfl ?_)
  refine wpAny_bind (hn _ _ _ rfl fun h' x he' hx' => ?_)
  obtain ⟨o, ho, hc⟩ := hx'
  refine wpAny_bind (wpAny_isInstance (T := "StopIteration") (b := true) ⟨o, ho, hc⟩ isSubtype_stop ?_)
  exact wpAny_pure (hQ _ he')

theorem meets_enumerate_zip {z TI TO : Addr} {f0 : Value} :
    Meets (Builtin.«enumerate.__new__» ⟨[.type "enumerate", .ref z], []⟩) (fun _ R s => IsZip s.heap z TI TO f0 ∧
      R (.ok (.ret (.ref s.heap.objs.size))) { s with heap := s.heap.push { cls := .type "enumerate", data := .fields #[.none, .bool false, .ref z, rawInt 0, .none, .none] } }) :=
  .of_wp fun prog w A R s h => by
    obtain ⟨hp, g, d, tk, os⟩ := s; obtain ⟨hz, h⟩ := h
    have hsub := sub_enumerate
    have hZ : IsZip (Shared.heap ⟨hp, g, d, tk, os⟩) z TI TO f0 := hz
    have hp' : ∀ {A : Around} {Q : Value → Shared → Prop} {E : Value → Shared → Prop}, Q (.ref z) ⟨hp, g, d, tk, os⟩ → wpAny (model prog w) A (pyIter (.ref z)) Q E ⟨hp, g, d, tk, os⟩ := fun q => wpAny_pyIter_zip hZ q
    wp_walk using wpAny_loadPart' hz
    refine wpAny_stack_any fun st => wpAny_pure ?_
    split
    · rename_i c _ _ _ _ _
      cases (c == Value.type "enumerate")
      · wp_walk using wpAny_loadPart' hz, hp'
        exact ⟨_, rfl, h⟩
      · wp_walk using wpAny_loadPart' hz, hp'
        exact ⟨_, rfl, h⟩
    · wp_walk using wpAny_loadPart' hz, hp'
      exact ⟨_, rfl, h⟩

theorem call_enumerate_zip {z TI TO : Addr} {f0 : Value} {Q : Value → Shared → Prop} (hz : IsZip s.heap z TI TO f0)
    (h : ∀ h', IsEnum h' s.heap.objs.size z 0 .none → h'.objs.size = s.heap.objs.size + 1 → (∀ b o, s.heap.get? b = some o → h'.get? b = some o) → Q (.ref s.heap.objs.size) { s with heap := h' }) :
    wpAny (model prog w) A (call (.type "enumerate") [.ref z]) Q E s := by
  refine callType_new F.called_enumerate (by decide) (F.typeCall_enumerate_1 _) (F.newCall_enumerate_1 _) (fun obj => F.args_object_init_2 obj _) F.entry_enumerate_new
    meets_enumerate_zip ⟨hz, ?_⟩
  have he : IsEnum (s.heap.push { cls := .type "enumerate", data := .fields #[.none, .bool false, .ref z, rawInt 0, .none, .none] }) s.heap.objs.size z 0 .none := Heap.get?_push_size _ rfl
  exact ⟨⟨_, he, rfl⟩, h _ he (Heap.size_push ..) fun b o x => Heap.get?_push_of_some _ x⟩
end
end REZ
namespace REZ
open PySem PySem.Spec PyProof.Rows L2 RZ
/-- the tuples at a and b, counted, the items in new pairs within new pairs -/
def ItzE (K : PySem.W.Frag) (a b : Addr) : It :=
  ⟨fun i H => ∃ (xs ys : List V) (x y : V), SqT K H a xs ∧ SqT K H b ys ∧ xs[i]? = some x ∧ ys[i]? = some y,
    fun i H v H' => ∃ T T2 x y, v = .ref T ∧ H T2 = none ∧ H T = none ∧ T ≠ T2 ∧ H' = upd (upd H T2 (.tup [x, y])) T (.tup [.int (i : Nat), .ref T2]) ∧ (∀ xs, SqT K H a xs → xs[i]? = some x) ∧ ∀ ys, SqT K H b ys → ys[i]? = some y,
    fun i H => ∃ xs ys : List V, SqT K H a xs ∧ SqT K H b ys ∧ (xs.length ≤ i ∨ ys.length ≤ i)⟩
theorem turn_ez {P : Program} {w : World} {K : PySem.W.Frag} {elts : List Expr} {kk : Nat} {tpos : Pos} {a b e z TI TO i1 i2 : Addr} (D : ZipApart z TI TO i1 i2 a b) (ne : ∀ c ∈ [z, TI, TO, i1, i2], c ≠ e) :
    Turn P w K (.Tuple elts kk tpos) (ItzE K a b) [e, z, TI, TO, i1, i2] e (fun i h => (∃ old, IsEnum h e z ((i : Nat) : Int) old) ∧ (∃ f0 f, IsZipG h z TI TO f0 f ∧ FOk f0) ∧ IsPair h TI (.ref i1) (.ref i2) ∧ (∃ x y, IsPair h TO x y) ∧ h.IsTupleIter i1 a i ∧ h.IsTupleIter i2 b i) where
  mem := by simp
  obj := fun i h st c hc => by
    obtain ⟨⟨old, he⟩, ⟨f0, f, hz, _⟩, hTI, ⟨x, y, hTO⟩, ⟨o1, e1, _, d1⟩, ⟨o2, e2, _, d2⟩⟩ := st
    have e' : c = e ∨ c = z ∨ c = TI ∨ c = TO ∨ c = i1 ∨ c = i2 := by simpa using hc
    rcases e' with q | q | q | q | q | q
    · rw [q]; exact ⟨_, he, fun v q => nomatch q⟩
    · rw [q]; exact ⟨_, hz, fun v q => nomatch q⟩
    · rw [q]; exact ⟨_, hTI, fun v q => nomatch q⟩
    · rw [q]; exact ⟨_, hTO, fun v q => nomatch q⟩
    · rw [q]; exact ⟨o1, e1, fun v q => by rw [d1] at q; cases q⟩
    · rw [q]; exact ⟨o2, e2, fun v q => by rw [d2] at q; cases q⟩
  keep := fun i h h' st k => by
    obtain ⟨⟨old, he⟩, ⟨f0, f, hz, hf⟩, hTI, ⟨x, y, hTO⟩, h1, h2⟩ := st
    exact ⟨⟨old, k e (by simp) _ he⟩, ⟨f0, f, k z (by simp) _ hz, hf⟩, k TI (by simp) _ hTI, ⟨x, y, k TO (by simp) _ hTO⟩, h1.at fun o q => k i1 (by simp) o q, h2.at fun o q => k i2 (by simp) o q⟩
  item := by
    intro X hP hw hK hc i pins s σ H E I hf st hg
    subst hP hw hK
    obtain ⟨⟨old, he⟩, ⟨f0, f, hz, hfk⟩, hTI, ⟨x0, y0, hTO⟩, h1, h2⟩ := st
    obtain ⟨xs, ys, x, y, hqx, hqy, hx, hy⟩ := hg
    obtain ⟨its, rv, p, _⟩ := I.tuple hqx
    obtain ⟨its2, rv2, p2, _⟩ := I.tuple hqy
    obtain ⟨u, hu, ru⟩ := rv.get hx
    obtain ⟨u2, hu2, ru2⟩ := rv2.get hy
    have hel : e < s.heap.objs.size := Heap.lt_size he
    have nz : e ≠ z := (ne z (by simp)).symm
    have nTO : e ≠ TO := (ne TO (by simp)).symm
    have ni1 : e ≠ i1 := (ne i1 (by simp)).symm
    have ni2 : e ≠ i2 := (ne i2 (by simp)).symm
    refine pyNext_enumN_item (Rx := fun x h₁ => x = .ref s.heap.objs.size ∧ (∃ f0' f', IsZipG h₁ z TI TO f0' f' ∧ FOk f0') ∧ (∃ a b, IsPair h₁ TO a b) ∧ h₁.IsTupleIter i1 a (i + 1) ∧ h₁.IsTupleIter i2 b (i + 1) ∧ IsPair h₁ s.heap.objs.size u u2 ∧ h₁.objs.size = s.heap.objs.size + 1 ∧
        ∀ c o, c ≠ z → c ≠ TO → c ≠ i1 → c ≠ i2 → s.heap.get? c = some o → h₁.get? c = some o) he
      (fun A E Q' q => nextOf_zipG_item D hz hfk hTI hTO h1 h2 p p2 (x := u) (y := u2) (by simpa using hu) (by simpa using hu2) fun h' f0' f' a1 a2 a3 a4 a5 a6 a7 a8 => q _ h' ⟨rfl, ⟨f0', f', a1, a2⟩, a3, a4, a5, a6, a7, a8⟩ (a8 _ _ nz nTO ni1 ni2 he)) fun x1 h₁ h' hR ho he1 hT hsz hk => ?_
    obtain ⟨rfl, ⟨f0', f', z1, zf⟩, ⟨ta, tb, TO1⟩, h1₁, h2₁, hT2, hsz1, hk1⟩ := hR
    have hel1 : e < h₁.objs.size := by rw [hsz1]; exact Nat.lt_succ_of_lt hel
    refine ⟨_, rfl, wpAny_letOwnedTupleGo_enum (s := { s with heap := h', toks := s.toks + 1 }) ho fun h'' he'' sb => ?_⟩
    have up : ∀ c o, c ≠ e → h₁.get? c = some o → h''.get? c = some o := fun c o hc q => (sb.2 c hc).trans (hk c o hc q)
    have hTT : h''.get? h₁.objs.size = some { cls := .type "tuple", data := .seq #[.int i s.toks, .ref s.heap.objs.size] } := (sb.2 _ (Nat.ne_of_gt hel1)).trans hT
    have new1 : ObjOk X.prog X.w (upd H s.heap.objs.size (.tup [x, y])) h₁ s.heap.objs.size (.tup [x, y]) :=
      ⟨by show 2 ≤ sizeLine; decide, [u, u2], .cons ru (.cons ru2 .nil), ⟨_, hT2, rfl, _, rfl⟩⟩
    have I1 : Inv X pins σ (upd H s.heap.objs.size (.tup [x, y])) { s with heap := h₁ } :=
      I.turnedNew (t' := s.toks) (ch := [e, z, TI, TO, i1, i2]) (fun c o hb q => hk1 c o (fun q' => hb (by simp [q'])) (fun q' => hb (by simp [q'])) (fun q' => hb (by simp [q'])) (fun q' => hb (by simp [q'])) q) hf (Nat.le_refl _) new1
    have hlt : ∀ c ∈ [e, z, TI, TO, i1, i2], c < s.heap.objs.size := fun c hcm => by
      have e' : c = e ∨ c = z ∨ c = TI ∨ c = TO ∨ c = i1 ∨ c = i2 := by simpa using hcm
      rcases e' with q | q | q | q | q | q
      · rw [q]; exact hel
      · rw [q]; exact Heap.lt_size hz
      · rw [q]; exact Heap.lt_size hTI
      · rw [q]; exact Heap.lt_size hTO
      · rw [q]; obtain ⟨_, e1, _⟩ := h1; exact Heap.lt_size e1
      · rw [q]; obtain ⟨_, e2, _⟩ := h2; exact Heap.lt_size e2
    have hf1 : ∀ c ∈ [e], FpOk X pins (upd H s.heap.objs.size (.tup [x, y])) c := fun c hcm => by
      have ec : c = e := by simpa using hcm
      subst ec
      obtain ⟨g1, g2⟩ := hf c (by simp)
      exact ⟨by rw [upd_ne (Nat.ne_of_lt hel)]; exact g1, g2⟩
    have new2 : ObjOk X.prog X.w (upd (upd H s.heap.objs.size (.tup [x, y])) h₁.objs.size (.tup [.int (i : Nat), .ref s.heap.objs.size])) h'' h₁.objs.size (.tup [.int (i : Nat), .ref s.heap.objs.size]) :=
      ⟨by show 2 ≤ sizeLine; decide, [.int i s.toks, .ref s.heap.objs.size], .cons ⟨_, rfl⟩ (.cons rfl .nil), ⟨_, hTT, rfl, _, rfl⟩⟩
    have I2 : Inv X pins σ (upd (upd H s.heap.objs.size (.tup [x, y])) h₁.objs.size (.tup [.int (i : Nat), .ref s.heap.objs.size])) { s with heap := h'', toks := s.toks + 1 } :=
      I1.turnedNew (t' := s.toks + 1) (ch := [e]) (fun c o hb q => up c o (fun q' => hb (by simp [q'])) q) hf1 (Nat.le_refl _) new2
    have nT : h₁.objs.size ≠ s.heap.objs.size := by omega
    refine ⟨.ref h₁.objs.size, _, I2, rfl, ⟨_, _, x, y, rfl, I.hok.fresh (Nat.le_refl _), I.hok.fresh (show s.heap.objs.size ≤ h₁.objs.size by rw [hsz1]; exact Nat.le_succ _), nT, rfl, fun l hl => by rw [I.tuple_inj hl hqx]; exact hx, fun l hl => by rw [I.tuple_inj hl hqy]; exact hy⟩, ⟨⟨.ref s.heap.objs.size, ?_⟩, ⟨f0', f', ?_, zf⟩, ?_, ⟨ta, tb, ?_⟩, ?_, ?_⟩, fun c hcm => ?_⟩
    · have e1 : ((i + 1 : Nat) : Int) = (i : Int) + 1 := by omega
      rw [e1]; exact he''
    · exact up _ _ (ne z (by simp)) z1
    · exact up _ _ (ne TI (by simp)) (hk1 _ _ D.TIz D.TITO D.TIi1 D.TIi2 hTI)
    · exact up _ _ (ne TO (by simp)) TO1
    · exact h1₁.at fun o q => up _ _ (ne i1 (by simp)) q
    · exact h2₁.at fun o q => up _ _ (ne i2 (by simp)) q
    · have := hlt c hcm
      rw [upd_ne (Nat.ne_of_lt (by rw [hsz1]; exact Nat.lt_succ_of_lt this)), upd_ne (Nat.ne_of_lt this)]
      exact (hf c hcm).1
  done := by
    intro X hP hw hK hc i pins s σ H E I hf st hg
    subst hP hw hK
    obtain ⟨⟨old, he⟩, ⟨f0, f, hz, hfk⟩, hTI, ⟨x0, y0, hTO⟩, h1, h2⟩ := st
    obtain ⟨xs, ys, hqx, hqy, hend⟩ := hg
    obtain ⟨its, rv, p, _⟩ := I.tuple hqx
    obtain ⟨its2, rv2, p2, _⟩ := I.tuple hqy
    have l1 := rv.length
    have l2 := rv2.length
    have hend' : its.toArray[i]? = none ∨ its2.toArray[i]? = none := by
      rcases hend with q | q
      · exact .inl (by simp; omega)
      · exact .inr (by simp; omega)
    exact pyNext_enumN_end (Rh := fun h' => ∀ c o, c ≠ z → c ≠ TO → c ≠ i1 → c ≠ i2 → s.heap.get? c = some o → h'.get? c = some o) he
      (fun A' E Q' hA q => nextOf_zipG_end (hA.trans (I.ok.hd hc)) D hz hfk hTI hTO h1 h2 p p2 hend' fun h' x g1 g2 => q h' x g1 g2)
      fun h' hk => ⟨rfl, I.turnedL (t' := s.toks) (ch := [e, z, TI, TO, i1, i2]) (fun c o hb q =>
        hk c o (fun q' => hb (by simp [q'])) (fun q' => hb (by simp [q'])) (fun q' => hb (by simp [q'])) (fun q' => hb (by simp [q'])) q) hf⟩
  self := fun A i s Q E st h => let ⟨⟨_, he⟩, _⟩ := st; wpAny_pyIter_enum he h

def iEz (K : PySem.W.Frag) (ta : TA) : TI := fun σ H R => ta σ H fun vs H1 => ∃ a b xs ys, vs = [.ref a, .ref b] ∧ SqT K H1 a xs ∧ SqT K H1 b ys ∧ R (ItzE K a b) H1
theorem pi_ez {X : Cx} {e e2 : Expr} {ta : TA} {p p2 pos pos2 tpos : Pos} {elts : List Expr} {kk : Nat} (hg0 : Gl X "enumerate") (hm0 : X.mg "enumerate" = none) (hg : Gl X "zip") (hm : X.mg "zip" = none) (ha : PA X [e, e2] ta)
    (hs0 : starEach [.Call (.Name "zip" p2) [e, e2] [] pos2] X.env = [(false, eval (.Call (.Name "zip" p2) [e, e2] [] pos2) X.env)] := by rfl)
    (hs : starEach [e, e2] X.env = (false, eval e X.env) :: starEach [e2] X.env := by rfl) (hpl : (backTo pos2 (starEach [e2] X.env)).any (·.1) = false := by rfl) :
    PI X (.Tuple elts kk tpos) (.Call (.Name "enumerate" p) [.Call (.Name "zip" p2) [e, e2] [] pos2] [] pos) (iEz X.K ta) := by
  refine ⟨fun pins s σ H R I h => ?_⟩
  refine Call_ (ld_blt I hg0 hm0 boot_enumerate (PyProof.Rows.callWith_type1 (e := .Call (.Name "zip" p2) [e, e2] [] pos2) (rest := []) ?_ hs0 rfl))
  rw [hs0]
  show wpAny _ _ (spliced ((false, eval (.Call (.Name "zip" p2) [e, e2] [] pos2) X.env) :: backTo pos [])) _ _ s
  refine Calls.spliced_cons ?_
  refine Call_ (ld_blt I hg hm PyProof.Rows.boot_zip (PyProof.Rows.callWith_type1 (thn (ha.run pos2 pins s σ H _ I h) fun us s1 ⟨vs, H1, I1, r1, q1⟩ => ?_) hs hpl))
  obtain ⟨a, b, xs, ys, ex, q1⟩ := q1
  subst ex
  cases r1 with
  | cons r rr =>
    cases rr with
    | cons r' rr =>
      cases rr
      cases r
      cases r'
      obtain ⟨hqx, hqy, q⟩ := q1
      obtain ⟨its, rv, p1, _⟩ := I1.tuple hqx
      obtain ⟨its2, rv2, p2', _⟩ := I1.tuple hqy
      obtain ⟨o1, ho1, _⟩ := id p1
      obtain ⟨o2, ho2, _⟩ := id p2'
      have la : a < s1.heap.objs.size := Heap.lt_size ho1
      have lb : b < s1.heap.objs.size := Heap.lt_size ho2
      refine call_zipT (show s1.heap.IsTuple a its.toArray from p1) (show s1.heap.IsTuple b its2.toArray from p2') fun h' hz hTI hTO h1 h2 hsz hk => ?_
      refine Calls.spliced_nil ?_
      refine call_enumerate_zip (s := { s1 with heap := h' }) hz fun h'' he hsz2 hk2 => wpAny_pyIter_enum he ?_
      have I2 : Inv X pins σ H1 { s1 with heap := h'' } := I1.kept (t' := s1.toks) fun b u e => hk2 b u (hk b u e)
      have hsz' : h'.objs.size = s1.heap.objs.size + 5 := hsz
      have e5 : (show Shared from { s1 with heap := h' }).heap.objs.size = s1.heap.objs.size + 5 := hsz
      have D := PySem.W.ktu_apart s1.heap.objs.size a b la lb
      have hmem : ∀ c, c ∈ [s1.heap.objs.size + 4, s1.heap.objs.size + 2, s1.heap.objs.size + 3, s1.heap.objs.size, s1.heap.objs.size + 1] → s1.heap.objs.size ≤ c ∧ c < s1.heap.objs.size + 5 := fun c hcm => by
        have e' : c = s1.heap.objs.size + 4 ∨ c = s1.heap.objs.size + 2 ∨ c = s1.heap.objs.size + 3 ∨ c = s1.heap.objs.size ∨ c = s1.heap.objs.size + 1 := by simpa using hcm
        rcases e' with z | z | z | z | z <;> (rw [z]; constructor <;> omega)
      refine ⟨h'.objs.size, h'.objs.size :: [s1.heap.objs.size + 4, s1.heap.objs.size + 2, s1.heap.objs.size + 3, s1.heap.objs.size, s1.heap.objs.size + 1], _, _, H1, rfl, I2, turn_ez D (fun c hcm => ?_), ⟨⟨.none, he⟩, ⟨.none, false, hk2 _ _ hz, .inl rfl⟩, hk2 _ _ hTI, ⟨_, _, hk2 _ _ hTO⟩, h1.at fun o q => hk2 _ _ q, h2.at fun o q => hk2 _ _ q⟩, fun c hcm => ?_, q⟩
      · exact Nat.ne_of_lt (by rw [hsz']; exact (hmem c hcm).2)
      · have hle : s1.heap.objs.size ≤ c := by
          rcases List.mem_cons.mp hcm with z | z
          · rw [z, hsz']; exact Nat.le_add_right _ _
          · exact (hmem c z).1
        exact I1.fpOk hle (I1.hok.fresh hle)
end REZ
namespace Py
open PySem PySem.Spec PyProof.Rows L2 LamX
section
variable {X : Cx} {G : Gb} {E : XK} {a b : Expr} {fs : Rho → R (List D)} {pos : Pos}
@[reducible] def ezD (xs ys : List D) : List D := enumD (zipD xs ys)
theorem ezD_get {xs ys : List D} {i : Nat} {d : D} (h : (ezD xs ys)[i]? = some d) : ∃ x y, xs[i]? = some x ∧ ys[i]? = some y ∧ d = .tuple [.int (i : Nat), .tuple [x, y]] := by
  obtain ⟨c, h1, rfl⟩ := enumD_get h
  obtain ⟨x, y, h2, h3, rfl⟩ := zipD_get h1
  exact ⟨x, y, h2, h3, rfl⟩
theorem wk_ez {F : Hp} {p q : Addr} {vs ws : List V} {ds es : List D} (hp : SqT G.K F p vs) (hq : SqT G.K F q ws) (hd : DdAll G.K F vs ds) (he : DdAll G.K F ws es) : Wk G F (REZ.ItzE G.K p q) (ezD ds es) where
  go := fun i H s hi => by
    rw [enumD_len, zipD_len, ← hd.length, ← he.length] at hi
    exact ⟨vs, ws, vs[i]'(by omega), ws[i]'(by omega), s.sqT hp, s.sqT hq, List.getElem?_eq_getElem _, List.getElem?_eq_getElem _⟩
  stop := fun H s => ⟨vs, ws, s.sqT hp, s.sqT hq, by
    rw [enumD_len, zipD_len, ← hd.length, ← he.length]
    omega⟩
  yld := fun i d F1 H x H' e s b y => by
    obtain ⟨c, f, e0, f0, rfl⟩ := ezD_get e
    obtain ⟨v, e1, e2⟩ := hd.get e0
    obtain ⟨w, f1, f2⟩ := he.get f0
    obtain ⟨T, T2, z, z', rfl, h2, h3, hne, rfl, h4, h5⟩ := y
    have h6 := h4 vs (b.sub.sqT (s.sqT hp))
    have h7 := h5 ws (b.sub.sqT (s.sqT hq))
    rw [e1] at h6
    rw [f1] at h7
    cases h6
    cases h7
    obtain ⟨F2, s2, d2⟩ := pair_new b rfl h2 rfl (e2.mono s) (f2.mono s)
    obtain ⟨F3, s3, d3⟩ := pair_new (v := .ref T) s2.base rfl (by rw [upd_ne hne]; exact h3) rfl (.int (i : Nat)) d2
    exact ⟨F3, s2.trans s3, d3⟩
@[reducible] def asEz : List D → R (List D)
  | [.tuple xs, .tuple ys] => .ok (ezD xs ys)
  | _ => .bad
@[reducible] def rEz (fs : Rho → R (List D)) : Rho → R (List D) := fun ρ => (fs ρ).bind asEz
theorem i_ez {p p2 tpos pos2 : Pos} {elts : List Expr} {kk : Nat} (hm0 : X.mg "enumerate" = none) (hm : X.mg "zip" = none) (ha : PA X [a, b] (tA G E fs)) (hg0 : Gl X "enumerate" := by rfl) (hg : Gl X "zip" := by rfl)
    (hs0 : starEach [.Call (.Name "zip" p2) [a, b] [] pos2] X.env = [(false, eval (.Call (.Name "zip" p2) [a, b] [] pos2) X.env)] := by rfl)
    (hs : starEach [a, b] X.env = (false, eval a X.env) :: starEach [b] X.env := by rfl) (hpl : (backTo pos2 (starEach [b] X.env)).any (·.1) = false := by rfl) (hK : X.K = G.K := by rfl) :
    PI X (.Tuple elts kk tpos) (.Call (.Name "enumerate" p) [.Call (.Name "zip" p2) [a, b] [] pos2] [] pos) (tI G E (rEz fs)) :=
  pi_imp (REZ.pi_ez hg0 hm0 hg hm ha hs0 hs hpl) fun σ H Q ⟨ρ, F, e, b, h⟩ => ⟨ρ, F, e, b, PostR.seq h fun ds vs F1 H1 _ s1 d1 h1 => by
    rw [hK]
    cases d1 with
    | nil => exact (show False from h1).elim
    | cons hd ht =>
      cases ht with
      | nil => cases hd <;> exact (show False from h1).elim
      | cons hd2 ht2 =>
        cases ht2 with
        | cons _ _ => cases hd <;> cases hd2 <;> exact (show False from h1).elim
        | nil =>
          cases hd with
          | @tup p vs xs hp hx =>
            cases hd2 with
            | @tup q ws ys hq hy => exact ⟨p, q, vs, ws, rfl, s1.base.sub.sqT hp, s1.base.sub.sqT hq, PostR.val (show PostR G (Wk G) E F1 H1 Q (.ok (ezD xs ys)) from h1) s1.base (wk_ez hp hq hx hy)⟩
            | _ => exact (show False from h1).elim
          | _ => cases hd2 <;> exact (show False from h1).elim⟩
end
end Py

namespace Py
open PySem PySem.Spec PyProof.Rows L2 LamX

@[reducible] def nm : Er → Str
  | .BadRule => "BadRule"
  | .BadBill => "BadBill"
  | .NoRule => "NoRule"
  | .BadText => "BadText"
  | .BadGood => "BadRule"
  | .TooFew => "BadRule"
  | .NoReceipt => "BadRule"
  | .Nothing => "BadRule"
def T_BOUNDS : List (Str × D) := [("flat", .tuple [.tuple [.int 0, .int 9]]), ("each", .tuple [.tuple [.int 0, .int 9]]), ("base", .tuple [.tuple [.int 0, .int 9], .tuple [.int 0, .int 9]]), ("from", .tuple [.tuple [.int 0, .int 9], .tuple [.int 1, .int 5], .tuple [.int 0, .int 9]]), ("packs", .tuple [.tuple [.int 0, .int 9], .tuple [.int 1, .int 5]]), ("gift", .tuple [.tuple [.int 0, .int 9], .tuple [.int 1, .int 5]]), ("least", .tuple [.tuple [.int 0, .int 9], .tuple [.int 0, .int 9]]), ("most", .tuple [.tuple [.int 0, .int 9], .tuple [.int 0, .int 9]]), ("off", .tuple [.tuple [.int 0, .int 9], .tuple [.int 1, .int 5], .tuple [.int 0, .int 9]])]
@[reducible] def g_is_count : Rho → O := (gRet (rAndV (rIsI "int" (fun ρ => getS ρ 0)) (rAndV (rNotV (rIsI "bool" (fun ρ => getS ρ 0))) (rChain pLe pLe (fun ρ => getS ρ 1) (fun ρ => getS ρ 0) (fun ρ => getS ρ 2)))))
def w_is_count : List D → R D := run 3 (g_is_count)
@[reducible] def g_need_kind : Rho → O := (gIf (rOr (rNot (rTru (rIsI "str" (fun ρ => getS ρ 0)))) (rB (r2 (fun ρ => getS ρ 0) (fun _ => .ok (.tuple [.str "flat", .str "each", .str "base", .str "from", .str "packs", .str "gift", .str "least", .str "most", .str "off"])) pNotIn))) (fun _ => .err .BadRule) .nx)
def w_need_kind : List D → R D := run 1 (g_need_kind)
@[reducible] def gs_is_rule_0 : Rho → O := (gIf (rOr (rNot (rTru (rIsI "tuple" (fun ρ => getS ρ 0)))) (rOr (rB (r2 (fun ρ => getS ρ 0) (rTup (fun _ => .ok [])) pEq)) (rOr (rNot (rTru (rIsI "str" (r2 (fun ρ => getS ρ 0) (fun _ => .ok (.int 0)) pIx)))) (rB (r2 (r2 (fun ρ => getS ρ 0) (fun _ => .ok (.int 0)) pIx) (fun _ => .ok (.tuple [.str "flat", .str "each", .str "base", .str "from", .str "packs", .str "gift", .str "least", .str "most", .str "off"])) pNotIn))))) (gRet (fun _ => .ok (.bool false))) .nx)
@[reducible] def gs_is_rule_1 : Rho → O := (gRet (rCall (rCons (rLc [2, 3, 4] (rZip (rCons (rSlice (fun ρ => getS ρ 0) (rPart (fun _ => .ok (.int 1))) (fun _ => .ok none)) (rCons (fun ρ => getS ρ 1) (fun _ => .ok [])))) (bTup [(bName 2), (bTup [(bName 3), (bName 4)])]) (fun _ => .ok true) (rCall (rArgs 3 (rCons (fun ρ => getS ρ 2) (rCons (fun ρ => getS ρ 3) (rCons (fun ρ => getS ρ 4) (fun _ => .ok []))))) w_is_count)) (fun _ => .ok [])) pAll))
@[reducible] def g_is_rule : Rho → O := (gSeq gs_is_rule_0 (gSeq (gSet 1 (rKGet T_BOUNDS (r2 (fun ρ => getS ρ 0) (fun _ => .ok (.int 0)) pIx))) (gSeq (gIf (rB (r2 (rCall (rCons (fun ρ => getS ρ 0) (fun _ => .ok [])) pLen) (r2 (rCall (rCons (fun ρ => getS ρ 1) (fun _ => .ok [])) pLen) (fun _ => .ok (.int 1)) pAdd) pNe)) (gRet (fun _ => .ok (.bool false))) .nx) gs_is_rule_1)))
def w_is_rule : List D → R D := run 5 (g_is_rule)
@[reducible] def g_need_rule : Rho → O := (gIf (rNot (rTru (rCall (rArgs 1 (rCons (fun ρ => getS ρ 0) (fun _ => .ok []))) w_is_rule))) (fun _ => .err .BadRule) .nx)
def w_need_rule : List D → R D := run 1 (g_need_rule)
@[reducible] def g_price : Rho → O := (gSeq (gPar 2 3 (rCons (r2 (fun ρ => getS ρ 0) (fun _ => .ok (.int 0)) pIx) (rCons (r2 (fun ρ => getS ρ 0) (fun _ => .ok (.int 1)) pIx) (fun _ => .ok [])))) (gSeq (gIf (rB (r2 (fun ρ => getS ρ 2) (fun _ => .ok (.str "flat")) pEq)) (gRet (fun ρ => getS ρ 3)) .nx) (gSeq (gIf (rB (r2 (fun ρ => getS ρ 2) (fun _ => .ok (.str "each")) pEq)) (gRet (r2 (fun ρ => getS ρ 3) (fun ρ => getS ρ 1) pMul)) .nx) (gSeq (gIf (rB (r2 (fun ρ => getS ρ 2) (fun _ => .ok (.str "base")) pEq)) (gRet (r2 (fun ρ => getS ρ 3) (r2 (r2 (fun ρ => getS ρ 0) (fun _ => .ok (.int 2)) pIx) (fun ρ => getS ρ 1) pMul) pAdd)) .nx) (gSeq (gIf (rB (r2 (fun ρ => getS ρ 2) (fun _ => .ok (.str "from")) pEq)) (gRet (r2 (r2 (fun ρ => getS ρ 3) (rCall (rCons (fun ρ => getS ρ 1) (rCons (r2 (fun ρ => getS ρ 0) (fun _ => .ok (.int 2)) pIx) (fun _ => .ok []))) pMin) pMul) (r2 (r2 (fun ρ => getS ρ 0) (fun _ => .ok (.int 3)) pIx) (rCall (rCons (fun _ => .ok (.int 0)) (rCons (r2 (fun ρ => getS ρ 1) (r2 (fun ρ => getS ρ 0) (fun _ => .ok (.int 2)) pIx) pSub) (fun _ => .ok []))) pMax) pMul) pAdd)) .nx) (gSeq (gIf (rB (r2 (fun ρ => getS ρ 2) (fun _ => .ok (.str "packs")) pEq)) (gRet (r2 (fun ρ => getS ρ 3) (r2 (r2 (r2 (fun ρ => getS ρ 1) (r2 (fun ρ => getS ρ 0) (fun _ => .ok (.int 2)) pIx) pAdd) (fun _ => .ok (.int 1)) pSub) (r2 (fun ρ => getS ρ 0) (fun _ => .ok (.int 2)) pIx) pDiv) pMul)) .nx) (gSeq (gIf (rB (r2 (fun ρ => getS ρ 2) (fun _ => .ok (.str "gift")) pEq)) (gRet (r2 (fun ρ => getS ρ 3) (r2 (fun ρ => getS ρ 1) (r2 (fun ρ => getS ρ 1) (r2 (fun ρ => getS ρ 0) (fun _ => .ok (.int 2)) pIx) pDiv) pSub) pMul)) .nx) (gSeq (gIf (rB (r2 (fun ρ => getS ρ 2) (fun _ => .ok (.str "least")) pEq)) (gRet (rCall (rCons (fun ρ => getS ρ 3) (rCons (r2 (r2 (fun ρ => getS ρ 0) (fun _ => .ok (.int 2)) pIx) (fun ρ => getS ρ 1) pMul) (fun _ => .ok []))) pMax)) .nx) (gSeq (gIf (rB (r2 (fun ρ => getS ρ 2) (fun _ => .ok (.str "most")) pEq)) (gRet (rCall (rCons (r2 (fun ρ => getS ρ 3) (fun _ => .ok (.int 5)) pMul) (rCons (r2 (r2 (fun ρ => getS ρ 0) (fun _ => .ok (.int 2)) pIx) (fun ρ => getS ρ 1) pMul) (fun _ => .ok []))) pMin)) .nx) (gRet (rCall (rCons (fun _ => .ok (.int 0)) (rCons (r2 (r2 (fun ρ => getS ρ 3) (fun ρ => getS ρ 1) pMul) (rIf (rB (r2 (fun ρ => getS ρ 1) (r2 (fun ρ => getS ρ 0) (fun _ => .ok (.int 2)) pIx) pGe)) (r2 (fun ρ => getS ρ 0) (fun _ => .ok (.int 3)) pIx) (fun _ => .ok (.int 0))) pSub) (fun _ => .ok []))) pMax)))))))))))
def w_price : List D → R D := run 4 (g_price)
@[reducible] def gs_rules_of_0 : Rho → O := (gExt 4 (rLc [6] (rR2 (rCons (fun ρ => getS ρ 2) (rCons (r2 (fun ρ => getS ρ 3) (fun _ => .ok (.int 1)) pAdd) (fun _ => .ok [])))) (bName 6) (fun _ => .ok true) (r2 (fun ρ => getS ρ 5) (rTup (rCons (fun ρ => getS ρ 6) (fun _ => .ok []))) pAdd)))
@[reducible] def g_rules_of : Rho → O := (gSeq (gSet 1 (rLst (rCons (rTup (rCons (fun ρ => getS ρ 0) (fun _ => .ok []))) (fun _ => .ok [])))) (gSeq (gFor (rSeq (rKGet T_BOUNDS (fun ρ => getS ρ 0))) (bTup [(bName 2), (bName 3)]) (gSeq (gOwn 4 (fun _ => .ok [])) (gSeq (gFor (rSeq (fun ρ => getS ρ 1)) (bName 5) gs_rules_of_0) (gFz [4] (gSet 1 (fun ρ => getS ρ 4)))))) (gRet (fun ρ => getS ρ 1))))
def w_rules_of : List D → R D := run 7 (g_rules_of)
@[reducible] def g_all_rules : Rho → O := (gSeq (gOwn 1 (fun _ => .ok [])) (gSeq (gFor (rSeq (fun ρ => getS ρ 0)) (bName 2) (gExt 1 (rCall (rArgs 1 (rCons (fun ρ => getS ρ 2) (fun _ => .ok []))) w_rules_of))) (gFz [1] (gRet (fun ρ => getS ρ 1)))))
def w_all_rules : List D → R D := run 3 (g_all_rules)
@[reducible] def g_need_kinds : Rho → O := (gSeq (gIf (rOr (rNot (rTru (rIsI "list" (fun ρ => getS ρ 0)))) (rB (r2 (fun ρ => getS ρ 0) (rLst (fun _ => .ok [])) pEq))) (fun _ => .err .BadRule) .nx) (gSeq (gFor (rSeq (fun ρ => getS ρ 0)) (bName 1) (gDrop (rCall (rArgs 1 (rCons (fun ρ => getS ρ 1) (fun _ => .ok []))) w_need_kind))) (gIf (rB (r2 (rLenSet (fun ρ => getS ρ 0)) (rCall (rCons (fun ρ => getS ρ 0) (fun _ => .ok [])) pLen) pNe)) (fun _ => .err .BadRule) .nx)))
def w_need_kinds : List D → R D := run 2 (g_need_kinds)
@[reducible] def gs_row_of_0 : Rho → O := (gRet (rCall (rCons (rLc [1] (rR1 (rCons (r2 (fun _ => .ok (.int 20)) (fun _ => .ok (.int 1)) pAdd) (fun _ => .ok []))) (bName 1) (fun _ => .ok true) (rCall (rArgs 2 (rCons (fun ρ => getS ρ 0) (rCons (fun ρ => getS ρ 1) (fun _ => .ok [])))) w_price)) (fun _ => .ok [])) pTuple))
@[reducible] def g_row_of : Rho → O := gs_row_of_0
def w_row_of : List D → R D := run 2 (g_row_of)
@[reducible] def gs_parting_0 : Rho → O := (gFor (rEz (rCons (rCall (rArgs 1 (rCons (fun ρ => getS ρ 0) (fun _ => .ok []))) w_row_of) (rCons (rCall (rArgs 1 (rCons (fun ρ => getS ρ 1) (fun _ => .ok []))) w_row_of) (fun _ => .ok [])))) (bTup [(bName 2), (bTup [(bName 3), (bName 4)])]) (gIf (rB (r2 (fun ρ => getS ρ 3) (fun ρ => getS ρ 4) pNe)) (gRet (fun ρ => getS ρ 2)) .nx))
@[reducible] def g_parting : Rho → O := (gSeq (gDrop (rCall (rArgs 1 (rCons (fun ρ => getS ρ 0) (fun _ => .ok []))) w_need_rule)) (gSeq (gDrop (rCall (rArgs 1 (rCons (fun ρ => getS ρ 1) (fun _ => .ok []))) w_need_rule)) (gSeq gs_parting_0 (gRet (fun _ => .ok .none)))))
def w_parting : List D → R D := run 5 (g_parting)
@[reducible] def g_is_alike : Rho → O := (gRet (r2 (rCall (rArgs 2 (rCons (fun ρ => getS ρ 0) (rCons (fun ρ => getS ρ 1) (fun _ => .ok [])))) w_parting) (fun _ => .ok .none) pIs))
def w_is_alike : List D → R D := run 2 (g_is_alike)
def wP_row_of : List D → R D := runP 2 (rTupL (rLc [1] (rR1 (rCons (r2 (fun _ => .ok (.int 20)) (fun _ => .ok (.int 1)) pAdd) (fun _ => .ok []))) (bName 1) (fun _ => .ok true) (rCall (rArgs 2 (rCons (fun ρ => getS ρ 0) (rCons (fun ρ => getS ρ 1) (fun _ => .ok [])))) w_price)))
@[reducible] def g_groups : Rho → O := (fun ρ => if ρ.length = 4 then gGrp wP_row_of ρ else .bad)
def w_groups : List D → R D := run 4 (g_groups)
@[reducible] def g_alike_ones : Rho → O := (gSeq (gDrop (rCall (rArgs 1 (rCons (fun ρ => getS ρ 0) (fun _ => .ok []))) w_need_kinds)) (gSeq (gDrop (rCall (rArgs 1 (rCons (fun ρ => getS ρ 1) (fun _ => .ok []))) w_need_rule)) (gSeq (gSet 2 (rCall (rArgs 1 (rCons (fun ρ => getS ρ 1) (fun _ => .ok []))) w_row_of)) (gRet (rLc [3] (rSeq (rCall (rArgs 1 (rCons (fun ρ => getS ρ 0) (fun _ => .ok []))) w_all_rules)) (bName 3) (rB (r2 (rCall (rArgs 1 (rCons (fun ρ => getS ρ 3) (fun _ => .ok []))) w_row_of) (fun ρ => getS ρ 2) pEq)) (fun ρ => getS ρ 3))))))
def w_alike_ones : List D → R D := run 4 (g_alike_ones)
@[reducible] def g_many_unlike : Rho → O := (gSeq (gDrop (rCall (rArgs 1 (rCons (fun ρ => getS ρ 0) (fun _ => .ok []))) w_need_kinds)) (gRet (rCall (rCons (rCall (rArgs 1 (rCons (rCall (rArgs 1 (rCons (fun ρ => getS ρ 0) (fun _ => .ok []))) w_all_rules) (fun _ => .ok []))) w_groups) (fun _ => .ok [])) pLen)))
def w_many_unlike : List D → R D := run 1 (g_many_unlike)
@[reducible] def g__law_cell : Rho → O := (gSeq (gIf (rB (r2 (fun ρ => getS ρ 0) (rLst (fun _ => .ok [])) pEq)) (gRet (r2 (fun ρ => getS ρ 1) (fun _ => .ok (.int 7919)) pMul)) .nx) (gRet (r2 (r2 (fun ρ => getS ρ 0) (r2 (fun ρ => getS ρ 1) (rCall (rCons (fun ρ => getS ρ 0) (fun _ => .ok [])) pLen) pMod) pIx) (r2 (r2 (fun ρ => getS ρ 1) (rCall (rCons (fun ρ => getS ρ 0) (fun _ => .ok [])) pLen) pDiv) (fun _ => .ok (.int 104729)) pMul) pAdd)))
def w__law_cell : List D → R D := run 2 (g__law_cell)
@[reducible] def g__law_drawn : Rho → O := (gSeq (gSet 2 (r2 (r2 (r2 (fun ρ => getS ρ 0) (fun _ => .ok (.int 6364136223846793005)) pMul) (r2 (r2 (fun ρ => getS ρ 1) (fun _ => .ok (.int 1)) pAdd) (fun _ => .ok (.int 1442695040888963407)) pMul) pAdd) (fun _ => .ok (.int 340282366920938463463374607431768211507)) pMod)) (gSeq (gSet 2 (r2 (r2 (fun ρ => getS ρ 2) (fun ρ => getS ρ 2) pMul) (fun _ => .ok (.int 340282366920938463463374607431768211297)) pMod)) (gSeq (gSet 2 (r2 (r2 (r2 (r2 (fun ρ => getS ρ 2) (fun _ => .ok (.int 18446744073709551557)) pMod) (fun _ => .ok (.int 1)) pAdd) (r2 (r2 (fun ρ => getS ρ 2) (fun _ => .ok (.int 18446744073709551557)) pDiv) (fun _ => .ok (.int 1)) pAdd) pMul) (fun ρ => getS ρ 2) pMul)) (gRet (r2 (fun ρ => getS ρ 2) (fun _ => .ok (.int 340282366920938463463374607431768211507)) pMod)))))
def w__law_drawn : List D → R D := run 3 (g__law_drawn)
@[reducible] def g__law_word (er : Er) (a : Addr) : Rho → O := (gSeq (gSet 1 (rLst (rCons (rRawIs 0 (.ref a) (decide (nm er = nm .BadBill))) (rCons (rRawIs 0 (.ref a) (decide (nm er = nm .BadRule))) (rCons (rRawIs 0 (.ref a) (decide (nm er = nm .BadText))) (rCons (rRawIs 0 (.ref a) (decide (nm er = nm .NoRule))) (fun _ => .ok []))))))) (gSeq (gIf (rOr (rB (r2 (rCall (rCons (rLc [2] (rSeqL (fun ρ => getS ρ 1)) (bName 2) (fun _ => .ok true) (rCall (rCons (fun ρ => getS ρ 2) (fun _ => .ok [])) pInt)) (fun _ => .ok [])) pSum) (fun _ => .ok (.int 1)) pNe)) (rNot (rTru (rRawIs 0 (.ref a) true)))) (gRet (fun _ => .ok (.str "other"))) .nx) (gRet (r2 (rLst (rCons (fun _ => .ok (.str "BadBill")) (rCons (fun _ => .ok (.str "BadRule")) (rCons (fun _ => .ok (.str "BadText")) (rCons (fun _ => .ok (.str "NoRule")) (fun _ => .ok [])))))) (rIndexF (fun ρ => getS ρ 1) (fun _ => .ok (.bool true))) pIx))))
@[reducible] def g__law_bounds : Rho → O := (gSeq (gAsg (rTup (rCons (rTup (rCons (fun _ => .ok (.int 0)) (rCons (fun _ => .ok (.int 9)) (fun _ => .ok [])))) (rCons (rTup (rCons (fun _ => .ok (.int 1)) (rCons (fun _ => .ok (.int 5)) (fun _ => .ok [])))) (fun _ => .ok [])))) (bTup [(bName 1), (bName 2)])) (gSeq (gSet 3 (rDisp [("flat", (fun _ => .ok (.str "c"))), ("each", (fun _ => .ok (.str "c"))), ("base", (fun _ => .ok (.str "cc"))), ("from", (fun _ => .ok (.str "cnc"))), ("packs", (fun _ => .ok (.str "cn"))), ("gift", (fun _ => .ok (.str "cn"))), ("least", (fun _ => .ok (.str "cc")))])) (gSeq (gSet 4 (rGet2 (fun ρ => getS ρ 3) (fun ρ => getS ρ 0) (rIf (rB (r2 (fun ρ => getS ρ 0) (fun _ => .ok (.str "most")) pEq)) (fun _ => .ok (.str "cc")) (fun _ => .ok (.str "cnc"))))) (gRet (rLc [5] (rSigns (fun ρ => getS ρ 4)) (bName 5) (fun _ => .ok true) (rIf (rB (r2 (fun ρ => getS ρ 5) (fun _ => .ok (.str "c")) pEq)) (fun ρ => getS ρ 1) (fun ρ => getS ρ 2)))))))
def w__law_bounds : List D → R D := run 6 (g__law_bounds)
@[reducible] def g__law_kinds : Rho → O := (gRet (rLst (rCons (fun _ => .ok (.str "flat")) (rCons (fun _ => .ok (.str "each")) (rCons (fun _ => .ok (.str "base")) (rCons (fun _ => .ok (.str "from")) (rCons (fun _ => .ok (.str "packs")) (rCons (fun _ => .ok (.str "gift")) (rCons (fun _ => .ok (.str "least")) (rCons (fun _ => .ok (.str "most")) (rCons (fun _ => .ok (.str "off")) (fun _ => .ok []))))))))))))
def w__law_kinds : List D → R D := run 0 (g__law_kinds)
@[reducible] def gs__law_rule_0 : Rho → O := (gSet 2 (rLc [3, 4, 5] (rEnum (rCons (rCall (rArgs 1 (rCons (fun ρ => getS ρ 1) (fun _ => .ok []))) w__law_bounds) (fun _ => .ok []))) (bTup [(bName 3), (bTup [(bName 4), (bName 5)])]) (fun _ => .ok true) (r2 (fun ρ => getS ρ 4) (r2 (rCall (rArgs 2 (rCons (fun ρ => getS ρ 0) (rCons (fun ρ => getS ρ 3) (fun _ => .ok [])))) w__law_drawn) (r2 (r2 (fun ρ => getS ρ 5) (fun ρ => getS ρ 4) pSub) (fun _ => .ok (.int 1)) pAdd) pMod) pAdd)))
@[reducible] def g__law_rule : Rho → O := (gSeq (gSet 1 (r2 (fun _ => w__law_kinds []) (r2 (fun ρ => getS ρ 0) (fun _ => .ok (.int 9)) pMod) pIx)) (gSeq gs__law_rule_0 (gRet (r2 (rTup (rCons (fun ρ => getS ρ 1) (fun _ => .ok []))) (rCall (rCons (fun ρ => getS ρ 2) (fun _ => .ok [])) pTuple) pAdd))))
def w__law_rule : List D → R D := run 6 (g__law_rule)
@[reducible] def gs__law_cost_0 : Rho → O := (gIf (rB (r2 (fun ρ => getS ρ 2) (fun _ => .ok (.str "gift")) pEq)) (gSet 3 (r2 (fun ρ => getS ρ 3) (rIf (rB (r2 (r2 (fun ρ => getS ρ 4) (r2 (fun ρ => getS ρ 0) (fun _ => .ok (.int 2)) pIx) pMod) (fun _ => .ok (.int 0)) pEq)) (fun _ => .ok (.int 0)) (r2 (fun ρ => getS ρ 0) (fun _ => .ok (.int 1)) pIx)) pAdd)) (gSet 3 (r2 (fun ρ => getS ρ 3) (rIf (rB (r2 (fun ρ => getS ρ 2) (rTup (rCons (fun _ => .ok (.str "each")) (rCons (fun _ => .ok (.str "off")) (fun _ => .ok [])))) pIn)) (r2 (fun ρ => getS ρ 0) (fun _ => .ok (.int 1)) pIx) (r2 (fun ρ => getS ρ 0) (fun _ => .ok (.int 2)) pIx)) pAdd)))
@[reducible] def gs__law_cost_1 : Rho → O := (gIf (rB (r2 (fun ρ => getS ρ 2) (fun _ => .ok (.str "packs")) pEq)) (gSet 3 (r2 (fun ρ => getS ρ 3) (rIf (rOr (rB (r2 (r2 (fun ρ => getS ρ 4) (r2 (fun ρ => getS ρ 0) (fun _ => .ok (.int 2)) pIx) pMod) (fun _ => .ok (.int 1)) pEq)) (rB (r2 (r2 (fun ρ => getS ρ 0) (fun _ => .ok (.int 2)) pIx) (fun _ => .ok (.int 1)) pEq))) (r2 (fun ρ => getS ρ 0) (fun _ => .ok (.int 1)) pIx) (fun _ => .ok (.int 0))) pAdd)) gs__law_cost_0)
@[reducible] def gs__law_cost_2 : Rho → O := (gFor (rR2 (rCons (fun _ => .ok (.int 1)) (rCons (r2 (fun ρ => getS ρ 1) (fun _ => .ok (.int 1)) pAdd) (fun _ => .ok [])))) (bName 4) (gIf (rB (r2 (fun ρ => getS ρ 2) (fun _ => .ok (.str "from")) pEq)) (gSet 3 (r2 (fun ρ => getS ρ 3) (rIf (rB (r2 (fun ρ => getS ρ 4) (r2 (fun ρ => getS ρ 0) (fun _ => .ok (.int 2)) pIx) pLe)) (r2 (fun ρ => getS ρ 0) (fun _ => .ok (.int 1)) pIx) (r2 (fun ρ => getS ρ 0) (fun _ => .ok (.int 3)) pIx)) pAdd)) gs__law_cost_1))
@[reducible] def g__law_cost : Rho → O := (gSeq (gPar 2 3 (rCons (r2 (fun ρ => getS ρ 0) (fun _ => .ok (.int 0)) pIx) (rCons (fun _ => .ok (.int 0)) (fun _ => .ok [])))) (gSeq (gIf (rB (r2 (fun ρ => getS ρ 2) (fun _ => .ok (.str "flat")) pEq)) (gRet (r2 (fun ρ => getS ρ 0) (fun _ => .ok (.int 1)) pIx)) .nx) (gSeq gs__law_cost_2 (gSeq (gIf (rB (r2 (fun ρ => getS ρ 2) (fun _ => .ok (.str "base")) pEq)) (gRet (r2 (r2 (fun ρ => getS ρ 0) (fun _ => .ok (.int 1)) pIx) (fun ρ => getS ρ 3) pAdd)) .nx) (gSeq (gIf (rB (r2 (fun ρ => getS ρ 2) (fun _ => .ok (.str "least")) pEq)) (gRet (r2 (rCall (rCons (rLst (rCons (r2 (fun ρ => getS ρ 0) (fun _ => .ok (.int 1)) pIx) (rCons (fun ρ => getS ρ 3) (fun _ => .ok [])))) (fun _ => .ok [])) pSorted) (fun _ => .ok (.int 1)) pIx)) .nx) (gSeq (gIf (rB (r2 (fun ρ => getS ρ 2) (fun _ => .ok (.str "most")) pEq)) (gRet (r2 (rCall (rCons (rLst (rCons (r2 (fun _ => .ok (.int 5)) (r2 (fun ρ => getS ρ 0) (fun _ => .ok (.int 1)) pIx) pMul) (rCons (fun ρ => getS ρ 3) (fun _ => .ok [])))) (fun _ => .ok [])) pSorted) (fun _ => .ok (.int 0)) pIx)) .nx) (gRet (rIf (rAnd (rB (r2 (fun ρ => getS ρ 2) (fun _ => .ok (.str "off")) pEq)) (rB (r2 (fun ρ => getS ρ 1) (r2 (fun ρ => getS ρ 0) (fun _ => .ok (.int 2)) pIx) pGe))) (r2 (rCall (rCons (rLst (rCons (fun _ => .ok (.int 0)) (rCons (r2 (fun ρ => getS ρ 3) (r2 (fun ρ => getS ρ 0) (fun _ => .ok (.int 3)) pIx) pSub) (fun _ => .ok [])))) (fun _ => .ok [])) pSorted) (fun _ => .ok (.int 1)) pIx) (fun ρ => getS ρ 3)))))))))
def w__law_cost : List D → R D := run 5 (g__law_cost)
@[reducible] def g__law_row : Rho → O := (gRet (rLc [1] (rR1 (rCons (fun _ => .ok (.int 21)) (fun _ => .ok []))) (bName 1) (fun _ => .ok true) (rCall (rArgs 2 (rCons (fun ρ => getS ρ 0) (rCons (fun ρ => getS ρ 1) (fun _ => .ok [])))) w__law_cost)))
def w__law_row : List D → R D := run 2 (g__law_row)
@[reducible] def gs__law_rules_0 : Rho → O := (gExt 6 (rLc [8] (rR2 (rCons (fun ρ => getS ρ 4) (rCons (r2 (fun ρ => getS ρ 5) (fun _ => .ok (.int 1)) pAdd) (fun _ => .ok [])))) (bName 8) (fun _ => .ok true) (r2 (fun ρ => getS ρ 7) (rTup (rCons (fun ρ => getS ρ 8) (fun _ => .ok []))) pAdd)))
@[reducible] def gs__law_rules_1 : Rho → O := (gFor (rSeq (fun ρ => getS ρ 0)) (bName 2) (gSeq (gSet 3 (rLst (rCons (rTup (rCons (fun ρ => getS ρ 2) (fun _ => .ok []))) (fun _ => .ok [])))) (gSeq (gFor (rSeq (rCall (rArgs 1 (rCons (fun ρ => getS ρ 2) (fun _ => .ok []))) w__law_bounds)) (bTup [(bName 4), (bName 5)]) (gSeq (gOwn 6 (fun _ => .ok [])) (gSeq (gFor (rSeq (fun ρ => getS ρ 3)) (bName 7) gs__law_rules_0) (gFz [6] (gSet 3 (fun ρ => getS ρ 6)))))) (gSet 1 (r2 (fun ρ => getS ρ 1) (fun ρ => getS ρ 3) pAdd)))))
@[reducible] def g__law_rules : Rho → O := (gSeq (gSet 1 (rLst (fun _ => .ok []))) (gSeq gs__law_rules_1 (gRet (fun ρ => getS ρ 1))))
def w__law_rules : List D → R D := run 9 (g__law_rules)
@[reducible] def gs__law_some_0 : Rho → O := (gSet 1 (rLc [2, 3] (rEnum (rCons (fun _ => w__law_kinds []) (fun _ => .ok []))) (bTup [(bName 2), (bName 3)]) (rB (r2 (r2 (rCall (rArgs 2 (rCons (fun ρ => getS ρ 0) (rCons (fun ρ => getS ρ 2) (fun _ => .ok [])))) w__law_drawn) (fun _ => .ok (.int 3)) pMod) (fun _ => .ok (.int 0)) pEq)) (fun ρ => getS ρ 3)))
@[reducible] def g__law_some : Rho → O := (gSeq gs__law_some_0 (gSeq (gIf (rB (r2 (r2 (fun ρ => getS ρ 0) (fun _ => .ok (.int 5)) pMod) (fun _ => .ok (.int 0)) pGt)) (gSet 1 (rLc [3] (rSeq (fun ρ => getS ρ 1)) (bName 3) (rB (r2 (fun ρ => getS ρ 3) (rTup (rCons (fun _ => .ok (.str "from")) (rCons (fun _ => .ok (.str "off")) (fun _ => .ok [])))) pNotIn)) (fun ρ => getS ρ 3))) .nx) (gRet (rIf (rB (r2 (fun ρ => getS ρ 1) (rLst (fun _ => .ok [])) pNe)) (rRev (fun ρ => getS ρ 1)) (rLst (rCons (r2 (fun _ => w__law_kinds []) (r2 (r2 (fun ρ => getS ρ 0) (fun _ => .ok (.int 8)) pDiv) (fun _ => .ok (.int 9)) pMod) pIx) (fun _ => .ok [])))))))
def w__law_some : List D → R D := run 4 (g__law_some)
variable [Hs]
@[reducible] def gs_law_0 : Rho → O := (gSet 9 (r2 (rLst (rCons (rCall (rArgs 1 (rCons (r2 (fun ρ => getS ρ 7) (r2 (fun _ => .ok (.int 2)) (fun _ => .ok (.int 20)) pPow) pDiv) (fun _ => .ok []))) w__law_rule) (rCons (r2 (fun ρ => getS ρ 4) (r2 (r2 (fun ρ => getS ρ 7) (r2 (fun _ => .ok (.int 2)) (fun _ => .ok (.int 20)) pPow) pDiv) (rCall (rCons (fun ρ => getS ρ 4) (fun _ => .ok [])) pLen) pMod) pIx) (rCons (fun ρ => getS ρ 8) (fun _ => .ok []))))) (r2 (r2 (fun ρ => getS ρ 7) (fun _ => .ok (.int 8)) pDiv) (fun _ => .ok (.int 3)) pMod) pIx))
@[reducible] def gs_law_1 : Rho → O := (gSet 10 (rLc [15] (rR1 (rCons (fun _ => .ok (.int 21)) (fun _ => .ok []))) (bName 15) (rB (r2 (rCall (rArgs 2 (rCons (fun ρ => getS ρ 8) (rCons (fun ρ => getS ρ 15) (fun _ => .ok [])))) w__law_cost) (rCall (rArgs 2 (rCons (fun ρ => getS ρ 9) (rCons (fun ρ => getS ρ 15) (fun _ => .ok [])))) w__law_cost) pNe)) (fun ρ => getS ρ 15)))
@[reducible] def gs_law_2 : Rho → O := (gIf (rOr (rB (r2 (rCall (rArgs 2 (rCons (fun ρ => getS ρ 8) (rCons (fun ρ => getS ρ 9) (fun _ => .ok [])))) w_parting) (fun ρ => getS ρ 11) pNe)) (rOr (rB (r2 (rCall (rArgs 2 (rCons (fun ρ => getS ρ 9) (rCons (fun ρ => getS ρ 8) (fun _ => .ok [])))) w_parting) (fun ρ => getS ρ 11) pNe)) (rB (r2 (rCall (rArgs 2 (rCons (fun ρ => getS ρ 8) (rCons (fun ρ => getS ρ 9) (fun _ => .ok [])))) w_is_alike) (r2 (fun ρ => getS ρ 11) (fun _ => .ok .none) pIs) pNe)))) (gRet (fun _ => .ok (.bool false))) .nx)
@[reducible] def gs_law_3 : Rho → O := (gFor (rR1 (rCons (fun _ => .ok (.int 12)) (fun _ => .ok []))) (bName 6) (gSeq (gSet 7 (rCall (rArgs 2 (rCons (fun ρ => getS ρ 2) (rCons (r2 (fun _ => .ok (.int 10)) (fun ρ => getS ρ 6) pAdd) (fun _ => .ok [])))) w__law_drawn)) (gSeq (gSet 8 (r2 (fun ρ => getS ρ 4) (r2 (fun ρ => getS ρ 7) (rCall (rCons (fun ρ => getS ρ 4) (fun _ => .ok [])) pLen) pMod) pIx)) (gSeq gs_law_0 (gSeq gs_law_1 (gSeq (gSet 11 (rIf (rB (r2 (fun ρ => getS ρ 10) (rLst (fun _ => .ok [])) pNe)) (r2 (fun ρ => getS ρ 10) (fun _ => .ok (.int 0)) pIx) (fun _ => .ok .none))) (gSeq gs_law_2 (gSeq (gSet 12 (rCall (rArgs 1 (rCons (fun ρ => getS ρ 9) (fun _ => .ok []))) w__law_row)) (gSeq (gSet 13 (rLc [18] (rSeq (fun ρ => getS ρ 4)) (bName 18) (rB (r2 (rTab 5 (fun ρ => getS ρ 18)) (fun ρ => getS ρ 12) pEq)) (fun ρ => getS ρ 18))) (gIf (rAnd (rB (r2 (fun ρ => getS ρ 6) (fun _ => .ok (.int 3)) pLt)) (rB (r2 (rCall (rArgs 2 (rCons (fun ρ => getS ρ 3) (rCons (fun ρ => getS ρ 9) (fun _ => .ok [])))) w_alike_ones) (fun ρ => getS ρ 13) pNe))) (gRet (fun _ => .ok (.bool false))) .nx))))))))))
@[reducible] def gs_law_4 : Rho → O := (gFor (rSeq (rLst (rCons (fun _ => .ok .none) (rCons (rTup (fun _ => .ok [])) (rCons (rTup (rCons (fun _ => .ok (.str "flat")) (fun _ => .ok []))) (rCons (rTup (rCons (fun _ => .ok (.str "tax")) (rCons (fun _ => .ok (.int 1)) (fun _ => .ok [])))) (rCons (rLst (rCons (fun _ => .ok (.str "flat")) (rCons (fun _ => .ok (.int 1)) (fun _ => .ok [])))) (fun _ => .ok [])))))))) (bName 16) (gSeq (gOwn 17 (rCons (rTell nm (rCall (rArgs 2 (rCons (fun ρ => getS ρ 8) (rCons (fun ρ => getS ρ 16) (fun _ => .ok [])))) w_parting)) (fun _ => .ok []))) (gSeq (gApp 17 (rTell nm (rCall (rArgs 2 (rCons (fun ρ => getS ρ 16) (rCons (fun ρ => getS ρ 8) (fun _ => .ok [])))) w_parting))) (gSeq (gApp 17 (rTell nm (rCall (rArgs 2 (rCons (fun ρ => getS ρ 8) (rCons (fun ρ => getS ρ 16) (fun _ => .ok [])))) w_is_alike))) (gSeq (gApp 17 (rTell nm (rCall (rArgs 2 (rCons (fun ρ => getS ρ 3) (rCons (fun ρ => getS ρ 16) (fun _ => .ok [])))) w_alike_ones))) (gSeq (gApp 17 (rTell nm (rCall (rArgs 2 (rCons (rLst (rCons (fun ρ => getS ρ 16) (fun _ => .ok []))) (rCons (fun ρ => getS ρ 8) (fun _ => .ok [])))) w_alike_ones))) (gSeq (gApp 17 (rTell nm (rCall (rArgs 1 (rCons (rLst (rCons (fun ρ => getS ρ 16) (fun _ => .ok []))) (fun _ => .ok []))) w_many_unlike))) (gFz [17] (gIf (rB (r2 (fun ρ => getS ρ 17) (r2 (rLst (rCons (fun _ => .ok (.str "BadRule")) (fun _ => .ok []))) (fun _ => .ok (.int 6)) pMul) pNe)) (gRet (fun _ => .ok (.bool false))) .nx)))))))))
@[reducible] def gs_law_5 : Rho → O := (gFor (rR1 (rCons (rCall (rCons (fun _ => .ok (.int 1)) (rCons (rCall (rCons (fun _ => .ok (.int 3)) (rCons (rCall (rCons (fun ρ => getS ρ 0) (fun _ => .ok [])) pLen) (fun _ => .ok []))) pMin) (fun _ => .ok []))) pMax) (fun _ => .ok []))) (bName 1) (gSeq (gSet 2 (rCall (rArgs 2 (rCons (rCall (rArgs 2 (rCons (fun ρ => getS ρ 0) (rCons (fun ρ => getS ρ 1) (fun _ => .ok [])))) w__law_cell) (rCons (fun ρ => getS ρ 1) (fun _ => .ok [])))) w__law_drawn)) (gSeq (gSet 3 (rCall (rArgs 1 (rCons (r2 (fun ρ => getS ρ 2) (fun _ => .ok (.int 64)) pDiv) (fun _ => .ok []))) w__law_some)) (gSeq (gSet 4 (rCall (rArgs 1 (rCons (fun ρ => getS ρ 3) (fun _ => .ok []))) w__law_rules)) (gSeq (gTab 5 (rCons (rLc [18] (rSeq (fun ρ => getS ρ 4)) (bName 18) (fun _ => .ok true) (rTup (rCons (fun ρ => getS ρ 18) (rCons (rCall (rArgs 1 (rCons (fun ρ => getS ρ 18) (fun _ => .ok []))) w__law_row) (fun _ => .ok []))))) (fun _ => .ok []))) (gSeq gs_law_3 (gSeq (gSet 14 (rCall (rCons (fun ρ => getS ρ 3) (fun _ => .ok [])) pList)) (gSeq (gSet 15 (rLenSetT (rLc [18] (rSeq (fun ρ => getS ρ 4)) (bName 18) (fun _ => .ok true) (rCall (rCons (rTab 5 (fun ρ => getS ρ 18)) (fun _ => .ok [])) pTuple)))) (gSeq (gIf (rOr (rB (r2 (rCall (rArgs 1 (rCons (fun ρ => getS ρ 3) (fun _ => .ok []))) w_many_unlike) (fun ρ => getS ρ 15) pNe)) (rB (r2 (fun ρ => getS ρ 3) (fun ρ => getS ρ 14) pNe))) (gRet (fun _ => .ok (.bool false))) .nx) gs_law_4)))))))))
@[reducible] def g_law : Rho → O := (gSeq gs_law_5 (gRet (fun _ => .ok (.bool true))))
def w_law : List D → R D := run 19 (g_law)
end Py

namespace Py
open PySem PySem.Spec PyProof.Rows L2 LamX

def top (i : Nat) : Stmt := PySem.Challenge.pw_billrules_k20_whole_alike.main.body.getD i (.Pass ⟨0, 0, 0, 0⟩)
theorem kb_int : ∀ t ∈ ["NoneType", "bool", "int", "str", "list", "tuple", "dict"], kitB t "int" = some (isB t "int") := by decide +kernel
theorem kb_bool : ∀ t ∈ ["NoneType", "bool", "int", "str", "list", "tuple", "dict"], kitB t "bool" = some (isB t "bool") := by decide +kernel
theorem kb_str : ∀ t ∈ ["NoneType", "bool", "int", "str", "list", "tuple", "dict"], kitB t "str" = some (isB t "str") := by decide +kernel
theorem kb_list : ∀ t ∈ ["NoneType", "bool", "int", "str", "list", "tuple", "dict"], kitB t "list" = some (isB t "list") := by decide +kernel
theorem kb_tuple : ∀ t ∈ ["NoneType", "bool", "int", "str", "list", "tuple", "dict"], kitB t "tuple" = some (isB t "tuple") := by decide +kernel
theorem kb_dict : ∀ t ∈ ["NoneType", "bool", "int", "str", "list", "tuple", "dict"], kitB t "dict" = some (isB t "dict") := by decide +kernel
structure Ms (P : Program) (w : World) (G : Gb) (mg : Str → Option Value) (base : Heap) : Prop where
  t_BOUNDS : mg "BOUNDS" = some (.ref (He.ga G.K "BOUNDS")) ∧ KTab w G.K (He.ga G.K "BOUNDS") T_BOUNDS
  g_KINDS : mg "KINDS" = some (.ref (He.ga G.K "KINDS")) ∧ ∀ F, Dd G.K F (V.ref (He.ga G.K "KINDS")) (.tuple [.str "flat", .str "each", .str "base", .str "from", .str "packs", .str "gift", .str "least", .str "most", .str "off"])
  g_MOST_MANY : ∃ t, mg "MOST_MANY" = some (.int 20 t)
  f_ValueError : mg "ValueError" = none
  f_all : mg "all" = none
  f_bool : mg "bool" = none
  f_dict : mg "dict" = none
  f_enumerate : mg "enumerate" = none
  f_int : mg "int" = none
  f_isinstance : mg "isinstance" = none
  f_len : mg "len" = none
  f_list : mg "list" = none
  f_max : mg "max" = none
  f_min : mg "min" = none
  f_range : mg "range" = none
  f_set : mg "set" = none
  f_sorted : mg "sorted" = none
  f_str : mg "str" = none
  f_sum : mg "sum" = none
  f_tuple : mg "tuple" = none
  f_zip : mg "zip" = none
  d_is_count : DefAt G mg "is_count" (top 12)
  d_need_kind : DefAt G mg "need_kind" (top 13)
  d_is_rule : DefAt G mg "is_rule" (top 14)
  d_need_rule : DefAt G mg "need_rule" (top 15)
  d_price : DefAt G mg "price" (top 16)
  d_rules_of : DefAt G mg "rules_of" (top 17)
  d_all_rules : DefAt G mg "all_rules" (top 18)
  d_need_kinds : DefAt G mg "need_kinds" (top 19)
  d_row_of : DefAt G mg "row_of" (top 21)
  d_parting : DefAt G mg "parting" (top 22)
  d_is_alike : DefAt G mg "is_alike" (top 23)
  d_groups : DefAt G mg "groups" (top 24)
  d_alike_ones : DefAt G mg "alike_ones" (top 25)
  d_many_unlike : DefAt G mg "many_unlike" (top 26)
  d__law_cell : DefAt G mg "_law_cell" (top 28)
  d__law_drawn : DefAt G mg "_law_drawn" (top 29)
  d__law_word : DefAt G mg "_law_word" (top 30)
  d__law_told : DefAt G mg "_law_told" (top 31)
  d__law_bounds : DefAt G mg "_law_bounds" (top 32)
  d__law_kinds : DefAt G mg "_law_kinds" (top 33)
  d__law_rule : DefAt G mg "_law_rule" (top 34)
  d__law_cost : DefAt G mg "_law_cost" (top 35)
  d__law_row : DefAt G mg "_law_row" (top 36)
  d__law_rules : DefAt G mg "_law_rules" (top 37)
  d__law_some : DefAt G mg "_law_some" (top 38)
  d_law : DefAt G mg "law" (top 39)
  x : XOk G mg nm (He.ga G.K "BillError")
  xe : mg "BillError" = some (.ref (He.ga G.K "BillError"))
  tb_law : TabB base mg (He.codeOf G.K ("law", none)) (He.tabOf G.K (He.codeOf G.K ("law", none)))
  tm_law : (He.tabOf G.K (He.codeOf G.K ("law", none)), lq "law") ∈ G.T
  tu_law : ∀ p ∈ G.T, p.1 = He.tabOf G.K (He.codeOf G.K ("law", none)) → p.2 = lq "law"
section
variable {P : Program} {w : World} {G : Gb} {mg : Str → Option Value} {base : Heap}
theorem sc_is_count : FnScope ["thing", "low", "high"] ["thing", "low", "high"] (defScope (top 12)) := ⟨rfl, rfl, rfl, by decide +kernel, rfl, by decide +kernel, by decide +kernel⟩
theorem ok_is_count (m : Ms P w G mg base)  : Df P w G mg base "is_count" 1 ["thing", "low", "high"] w_is_count := by
  have S := sc_is_count
  delta w_is_count
  refine m.d_is_count.df (g := g_is_count) S rfl (fun fd Fd => Fd.bindsN fun _ _ _ _ _ _ us hl => match us, hl with | [_, _, _], _ => rfl) fun A outer s H E hr => ?_
  exact (ss_one (s_ret (e_and (e_isi (TS := "int") m.f_isinstance m.f_int (by decide +kernel) kb_int (e_var 0)) (e_and (e_not (e_isi (TS := "bool") m.f_isinstance m.f_bool (by decide +kernel) kb_bool (e_var 0))) (e_one (e_chain op_le d_le op_le d_le (e_var 1) (e_var 0) (e_var 2)))))))
theorem sc_need_kind : FnScope ["kind"] ["kind"] (defScope (top 13)) := ⟨rfl, rfl, rfl, by decide +kernel, rfl, by decide +kernel, by decide +kernel⟩
theorem ok_need_kind (m : Ms P w G mg base)  : Df P w G mg base "need_kind" 1 ["kind"] w_need_kind := by
  have S := sc_need_kind
  delta w_need_kind
  refine m.d_need_kind.df (g := g_need_kind) S rfl (fun fd Fd => Fd.bindsN fun _ _ _ _ _ _ us hl => match us, hl with | [_], _ => rfl) fun A outer s H E hr => ?_
  have htD : L2N.Takes (cxOf (L2N.CX P w) P w G.K mg base ["kind"] "need_kind" (defScope (top 13)) (He.ga G.K "need_kind") (.ref (He.codeOf G.K ("need_kind", none))) A outer s H E) fun cls d _ H => E cls d H := L2N.takes_of rfl rfl rfl rfl
  exact (ss_one (s_if (PW.pt (w_or (t_not (t_truth (e_isi (TS := "str") m.f_isinstance m.f_str (by decide +kernel) kb_str (e_var 0)))) (w_or1 (t_cmp (op_notInAll (u65 hr)) d_notIn (e_var 0) (e_glob (v := .ref _) m.g_KINDS.1 rfl m.g_KINDS.2) rfl)))) (ss_one (s_raiseX (er := .BadRule) m.x rfl htD)) ss_nil))
theorem sc_is_rule : FnScope ["thing", "bounds", "one", "low", "high"] ["thing"] (defScope (top 14)) := ⟨rfl, rfl, rfl, by decide +kernel, rfl, by decide +kernel, by decide +kernel⟩
theorem s_is_rule_0 (m : Ms P w G mg base) (h_is_count : Df P w G mg base "is_count" 1 ["thing", "low", "high"] w_is_count) {A : Around} {outer : List Env} {s : Shared} {H : Hp} {E : XK} (hr : Room 1 (A.deeper (envOfC "is_rule" (defScope (top 14)) s.heap.objs.size (He.ga G.K "is_rule") (.ref (He.codeOf G.K ("is_rule", none)))))) : PS (cxOf (L2N.CX P w) P w G.K mg base ["thing", "bounds", "one", "low", "high"] "is_rule" (defScope (top 14)) (He.ga G.K "is_rule") (.ref (He.codeOf G.K ("is_rule", none))) A outer s H E) (nthS (defBody (top 14)) 0) (tS G E (gs_is_rule_0 )) := by
  have S := sc_is_rule
  exact (s_if (PW.pt (w_or (t_not (t_truth (e_isi (TS := "tuple") m.f_isinstance m.f_tuple (by decide +kernel) kb_tuple (e_var 0)))) (w_or (t_cmp (op_eqD (Nat.lt_of_succ_lt (u65 hr))) d_eq (e_var 0) (e_tup a_nil) rfl) (w_or (t_not (t_truth (e_isi (TS := "str") m.f_isinstance m.f_str (by decide +kernel) kb_str (e_ix (e_var 0) e_int)))) (w_or1 (t_cmp (op_notInAll (u65 hr)) d_notIn (e_ix (e_var 0) e_int) (e_glob (v := .ref _) m.g_KINDS.1 rfl m.g_KINDS.2) rfl)))))) (ss_one (s_ret e_bl)) ss_nil)
theorem s_is_rule_1 (m : Ms P w G mg base) (h_is_count : Df P w G mg base "is_count" 1 ["thing", "low", "high"] w_is_count) {A : Around} {outer : List Env} {s : Shared} {H : Hp} {E : XK} (hr : Room 1 (A.deeper (envOfC "is_rule" (defScope (top 14)) s.heap.objs.size (He.ga G.K "is_rule") (.ref (He.codeOf G.K ("is_rule", none)))))) : PS (cxOf (L2N.CX P w) P w G.K mg base ["thing", "bounds", "one", "low", "high"] "is_rule" (defScope (top 14)) (He.ga G.K "is_rule") (.ref (He.codeOf G.K ("is_rule", none))) A outer s H E) (nthS (defBody (top 14)) 3) (tS G E (gs_is_rule_1 )) := by
  have S := sc_is_rule
  exact (s_ret (e_all rfl m.f_all (a_cons (e_lc (own := [("one", 2), ("low", 3), ("high", 4)]) rfl S.nd (blkOk_by rfl) (only_tup (onlys_cons (only_name (by decide)) (onlys_cons (only_tup (onlys_cons (only_name (by decide)) (onlys_cons (only_name (by decide)) onlys_nil))) onlys_nil))) (i_zip m.f_zip (a_cons (e_slice (e_var 0) (o_some e_int) o_none) (a_cons (e_var 1) a_nil))) (fun _ _ _ _ _ => (g_tup rfl (gs_cons (g_name 2 S.nd) (gs_cons (g_tup rfl (gs_cons (g_name 3 S.nd) (gs_cons (g_name 4 S.nd) gs_nil))) gs_nil)))) (fun _ _ _ _ _ => ts_nil) (fun _ _ _ _ _ => (e_callF h_is_count (hr.mono (by decide)) passB (a_cons (e_var 2) (a_cons (e_var 3) (a_cons (e_var 4) a_nil)))))) a_nil)))
theorem ok_is_rule (m : Ms P w G mg base) (h_is_count : Df P w G mg base "is_count" 1 ["thing", "low", "high"] w_is_count) : Df P w G mg base "is_rule" 2 ["thing"] w_is_rule := by
  have S := sc_is_rule
  delta w_is_rule
  refine m.d_is_rule.df (g := g_is_rule) S rfl (fun fd Fd => Fd.bindsN fun _ _ _ _ _ _ us hl => match us, hl with | [_], _ => rfl) fun A outer s H E hr => ?_
  exact (ss_cons (s_is_rule_0 m h_is_count hr) (ss_cons (s_set 1 S.nd (e_kget m.t_BOUNDS.2 m.t_BOUNDS.1 (e_ix (e_var 0) e_int))) (ss_cons (s_if (t_cmp (op_neD (Nat.lt_of_succ_lt (u65 hr))) d_ne (e_len m.f_len (a_cons (e_var 0) a_nil)) (e_op op_addAll d_add (e_len m.f_len (a_cons (e_var 1) a_nil)) e_int) rfl) (ss_one (s_ret e_bl)) ss_nil) (ss_one (s_is_rule_1 m h_is_count hr)))))
theorem sc_need_rule : FnScope ["rule"] ["rule"] (defScope (top 15)) := ⟨rfl, rfl, rfl, by decide +kernel, rfl, by decide +kernel, by decide +kernel⟩
theorem ok_need_rule (m : Ms P w G mg base) (h_is_rule : Df P w G mg base "is_rule" 2 ["thing"] w_is_rule) : Df P w G mg base "need_rule" 3 ["rule"] w_need_rule := by
  have S := sc_need_rule
  delta w_need_rule
  refine m.d_need_rule.df (g := g_need_rule) S rfl (fun fd Fd => Fd.bindsN fun _ _ _ _ _ _ us hl => match us, hl with | [_], _ => rfl) fun A outer s H E hr => ?_
  have htD : L2N.Takes (cxOf (L2N.CX P w) P w G.K mg base ["rule"] "need_rule" (defScope (top 15)) (He.ga G.K "need_rule") (.ref (He.codeOf G.K ("need_rule", none))) A outer s H E) fun cls d _ H => E cls d H := L2N.takes_of rfl rfl rfl rfl
  have hxD : Passes (L2N.CX P w) (cxOf (L2N.CX P w) P w G.K mg base ["rule"] "need_rule" (defScope (top 15)) (He.ga G.K "need_rule") (.ref (He.codeOf G.K ("need_rule", none))) A outer s H E) E := L2N.passes_call htD (fun _ _ _ _ h => h)
  exact (ss_one (s_if (t_not (t_truth (e_callF h_is_rule (hr.mono (by decide)) hxD (a_cons (e_var 0) a_nil)))) (ss_one (s_raiseX (er := .BadRule) m.x rfl htD)) ss_nil))
theorem sc_price : FnScope ["rule", "many", "kind", "cost"] ["rule", "many"] (defScope (top 16)) := ⟨rfl, rfl, rfl, by decide +kernel, rfl, by decide +kernel, by decide +kernel⟩
theorem ok_price (m : Ms P w G mg base)  : Df P w G mg base "price" 1 ["rule", "many"] w_price := by
  have S := sc_price
  delta w_price
  refine m.d_price.df (g := g_price) S rfl (fun fd Fd => Fd.bindsN fun _ _ _ _ _ _ us hl => match us, hl with | [_, _], _ => rfl) fun A outer s H E hr => ?_
  exact (ss_cons (s_par 2 3 S.nd (a_cons (e_ix (e_var 0) e_int) (a_cons (e_ix (e_var 0) e_int) a_nil))) (ss_cons (s_if (t_cmp (op_eqD (Nat.lt_of_succ_lt (u65 hr))) d_eq (e_var 2) e_str rfl) (ss_one (s_ret (e_var 3))) ss_nil) (ss_cons (s_if (t_cmp (op_eqD (Nat.lt_of_succ_lt (u65 hr))) d_eq (e_var 2) e_str rfl) (ss_one (s_ret (e_op op_mulAll d_mul (e_var 3) (e_var 1)))) ss_nil) (ss_cons (s_if (t_cmp (op_eqD (Nat.lt_of_succ_lt (u65 hr))) d_eq (e_var 2) e_str rfl) (ss_one (s_ret (e_op op_addAll d_add (e_var 3) (e_op op_mulAll d_mul (e_ix (e_var 0) e_int) (e_var 1))))) ss_nil) (ss_cons (s_if (t_cmp (op_eqD (Nat.lt_of_succ_lt (u65 hr))) d_eq (e_var 2) e_str rfl) (ss_one (s_ret (e_op op_addAll d_add (e_op op_mulAll d_mul (e_var 3) (e_min rfl m.f_min (a_cons (e_var 1) (a_cons (e_ix (e_var 0) e_int) a_nil)))) (e_op op_mulAll d_mul (e_ix (e_var 0) e_int) (e_max rfl m.f_max (a_cons e_int (a_cons (e_op op_sub d_sub (e_var 1) (e_ix (e_var 0) e_int)) a_nil))))))) ss_nil) (ss_cons (s_if (t_cmp (op_eqD (Nat.lt_of_succ_lt (u65 hr))) d_eq (e_var 2) e_str rfl) (ss_one (s_ret (e_op op_mulAll d_mul (e_var 3) (e_op op_fdivW d_div (e_op op_sub d_sub (e_op op_addAll d_add (e_var 1) (e_ix (e_var 0) e_int)) e_int) (e_ix (e_var 0) e_int))))) ss_nil) (ss_cons (s_if (t_cmp (op_eqD (Nat.lt_of_succ_lt (u65 hr))) d_eq (e_var 2) e_str rfl) (ss_one (s_ret (e_op op_mulAll d_mul (e_var 3) (e_op op_sub d_sub (e_var 1) (e_op op_fdivW d_div (e_var 1) (e_ix (e_var 0) e_int)))))) ss_nil) (ss_cons (s_if (t_cmp (op_eqD (Nat.lt_of_succ_lt (u65 hr))) d_eq (e_var 2) e_str rfl) (ss_one (s_ret (e_max rfl m.f_max (a_cons (e_var 3) (a_cons (e_op op_mulAll d_mul (e_ix (e_var 0) e_int) (e_var 1)) a_nil))))) ss_nil) (ss_cons (s_if (t_cmp (op_eqD (Nat.lt_of_succ_lt (u65 hr))) d_eq (e_var 2) e_str rfl) (ss_one (s_ret (e_min rfl m.f_min (a_cons (e_op op_mulAll d_mul (e_var 3) e_int) (a_cons (e_op op_mulAll d_mul (e_ix (e_var 0) e_int) (e_var 1)) a_nil))))) ss_nil) (ss_one (s_ret (e_max rfl m.f_max (a_cons e_int (a_cons (e_op op_sub d_sub (e_op op_mulAll d_mul (e_var 3) (e_var 1)) (e_if (t_cmp op_ge d_ge (e_var 1) (e_ix (e_var 0) e_int) rfl) (e_ix (e_var 0) e_int) e_int)) a_nil))))))))))))))
theorem sc_rules_of : FnScope ["kind", "found", "low", "high", "longer", "rule", "one"] ["kind"] (defScope (top 17)) := ⟨rfl, rfl, rfl, by decide +kernel, rfl, by decide +kernel, by decide +kernel⟩
theorem s_rules_of_0 (m : Ms P w G mg base)  {A : Around} {outer : List Env} {s : Shared} {H : Hp} {E : XK} (hr : Room 0 (A.deeper (envOfC "rules_of" (defScope (top 17)) s.heap.objs.size (He.ga G.K "rules_of") (.ref (He.codeOf G.K ("rules_of", none)))))) : PS (cxOf (L2N.CX P w) P w G.K mg base ["kind", "found", "low", "high", "longer", "rule", "one"] "rules_of" (defScope (top 17)) (He.ga G.K "rules_of") (.ref (He.codeOf G.K ("rules_of", none))) A outer s H E) (nthS (bodyS (nthS (bodyS (nthS (defBody (top 17)) 1)) 1)) 0) (tS G E (gs_rules_of_0 )) := by
  have S := sc_rules_of
  exact (s_ext 4 (e_lc (own := [("one", 6)]) rfl S.nd (blkOk_by rfl) (only_name (by decide)) (i_range2 m.f_range (a_cons (e_var 2) (a_cons (e_op op_addAll d_add (e_var 3) e_int) a_nil))) (fun _ _ _ _ _ => (g_name 6 S.nd)) (fun _ _ _ _ _ => ts_nil) (fun _ _ _ _ _ => (e_op op_addAll d_add (e_var 5) (e_tup (a_cons (e_var 6) a_nil))))) (h := fun ho ha => pe_bm PySem.F.plainAttrs_list PySem.F.slot_list_extend PySem.F.type_list_extend mt_extend ho (pa_cons ha pa_nil)))
theorem ok_rules_of (m : Ms P w G mg base)  : Df P w G mg base "rules_of" 1 ["kind"] w_rules_of := by
  have S := sc_rules_of
  delta w_rules_of
  refine m.d_rules_of.df (g := g_rules_of) S rfl (fun fd Fd => Fd.bindsN fun _ _ _ _ _ _ us hl => match us, hl with | [_], _ => rfl) fun A outer s H E hr => ?_
  exact (ss_cons (s_set 1 S.nd (e_lst (a_cons (e_tup (a_cons (e_var 0) a_nil)) a_nil))) (ss_cons (s_for (passes_of rfl) rfl (i_seq (e_kget m.t_BOUNDS.2 m.t_BOUNDS.1 (e_var 0))) (g_tup rfl (gs_cons (g_name 2 S.nd) (gs_cons (g_name 3 S.nd) gs_nil))) (ss_cons (s_own 4 S.nd a_nil) (ss_cons (s_for (passes_of rfl) rfl (i_seq (e_var 1)) (g_name 5 S.nd) (ss_one (s_rules_of_0 m  hr))) (ss_one (s_fz [4] (s_set 1 S.nd (e_var 4))))))) (ss_one (s_ret (e_var 1)))))
theorem sc_all_rules : FnScope ["kinds", "found", "kind"] ["kinds"] (defScope (top 18)) := ⟨rfl, rfl, rfl, by decide +kernel, rfl, by decide +kernel, by decide +kernel⟩
theorem ok_all_rules (m : Ms P w G mg base) (h_rules_of : Df P w G mg base "rules_of" 1 ["kind"] w_rules_of) : Df P w G mg base "all_rules" 2 ["kinds"] w_all_rules := by
  have S := sc_all_rules
  delta w_all_rules
  refine m.d_all_rules.df (g := g_all_rules) S rfl (fun fd Fd => Fd.bindsN fun _ _ _ _ _ _ us hl => match us, hl with | [_], _ => rfl) fun A outer s H E hr => ?_
  have htD : L2N.Takes (cxOf (L2N.CX P w) P w G.K mg base ["kinds", "found", "kind"] "all_rules" (defScope (top 18)) (He.ga G.K "all_rules") (.ref (He.codeOf G.K ("all_rules", none))) A outer s H E) fun cls d _ H => E cls d H := L2N.takes_of rfl rfl rfl rfl
  have hxD : Passes (L2N.CX P w) (cxOf (L2N.CX P w) P w G.K mg base ["kinds", "found", "kind"] "all_rules" (defScope (top 18)) (He.ga G.K "all_rules") (.ref (He.codeOf G.K ("all_rules", none))) A outer s H E) E := L2N.passes_call htD (fun _ _ _ _ h => h)
  exact (ss_cons (s_own 1 S.nd a_nil) (ss_cons (s_for (passes_of rfl) rfl (i_seq (e_var 0)) (g_name 2 S.nd) (ss_one (s_ext 1 (e_callF h_rules_of (hr.mono (by decide)) hxD (a_cons (e_var 2) a_nil)) (h := fun ho ha => pe_bm PySem.F.plainAttrs_list PySem.F.slot_list_extend PySem.F.type_list_extend mt_extend ho (pa_cons ha pa_nil))))) (ss_one (s_fz [1] (s_ret (e_var 1))))))
theorem sc_need_kinds : FnScope ["kinds", "kind"] ["kinds"] (defScope (top 19)) := ⟨rfl, rfl, rfl, by decide +kernel, rfl, by decide +kernel, by decide +kernel⟩
theorem ok_need_kinds (m : Ms P w G mg base) (h_need_kind : Df P w G mg base "need_kind" 1 ["kind"] w_need_kind) : Df P w G mg base "need_kinds" 2 ["kinds"] w_need_kinds := by
  have S := sc_need_kinds
  delta w_need_kinds
  refine m.d_need_kinds.df (g := g_need_kinds) S rfl (fun fd Fd => Fd.bindsN fun _ _ _ _ _ _ us hl => match us, hl with | [_], _ => rfl) fun A outer s H E hr => ?_
  have htD : L2N.Takes (cxOf (L2N.CX P w) P w G.K mg base ["kinds", "kind"] "need_kinds" (defScope (top 19)) (He.ga G.K "need_kinds") (.ref (He.codeOf G.K ("need_kinds", none))) A outer s H E) fun cls d _ H => E cls d H := L2N.takes_of rfl rfl rfl rfl
  have hxD : Passes (L2N.CX P w) (cxOf (L2N.CX P w) P w G.K mg base ["kinds", "kind"] "need_kinds" (defScope (top 19)) (He.ga G.K "need_kinds") (.ref (He.codeOf G.K ("need_kinds", none))) A outer s H E) E := L2N.passes_call htD (fun _ _ _ _ h => h)
  exact (ss_cons (s_if (PW.pt (w_or (t_not (t_truth (e_isi (TS := "list") m.f_isinstance m.f_list (by decide +kernel) kb_list (e_var 0)))) (w_or1 (t_cmp (op_eqD (Nat.lt_of_succ_lt (u65 hr))) d_eq (e_var 0) (e_lst a_nil) rfl)))) (ss_one (s_raiseX (er := .BadRule) m.x rfl htD)) ss_nil) (ss_cons (s_for (passes_of rfl) rfl (i_seq (e_var 0)) (g_name 1 S.nd) (ss_one (s_expr (e_callF h_need_kind (hr.mono (by decide)) hxD (a_cons (e_var 1) a_nil))))) (ss_one (s_if (t_cmp (op_neD (Nat.lt_of_succ_lt (u65 hr))) d_ne (e_lenSet rfl m.f_len m.f_set (e_var 0)) (e_len m.f_len (a_cons (e_var 0) a_nil)) rfl) (ss_one (s_raiseX (er := .BadRule) m.x rfl htD)) ss_nil))))
theorem sc_row_of : FnScope ["rule", "many"] ["rule"] (defScope (top 21)) := ⟨rfl, rfl, rfl, by decide +kernel, rfl, by decide +kernel, by decide +kernel⟩
theorem s_row_of_0 (m : Ms P w G mg base) (h_price : Df P w G mg base "price" 1 ["rule", "many"] w_price) {A : Around} {outer : List Env} {s : Shared} {H : Hp} {E : XK} (hr : Room 1 (A.deeper (envOfC "row_of" (defScope (top 21)) s.heap.objs.size (He.ga G.K "row_of") (.ref (He.codeOf G.K ("row_of", none)))))) : PS (cxOf (L2N.CX P w) P w G.K mg base ["rule", "many"] "row_of" (defScope (top 21)) (He.ga G.K "row_of") (.ref (He.codeOf G.K ("row_of", none))) A outer s H E) (nthS (defBody (top 21)) 0) (tS G E (gs_row_of_0 )) := by
  have S := sc_row_of
  exact (s_ret (e_tuple m.f_tuple (a_cons (e_lc (own := [("many", 1)]) rfl S.nd (blkOk_by rfl) (only_name (by decide)) (i_range1 m.f_range (a_cons (e_op op_addAll d_add (e_glob (v := .int 20) m.g_MOST_MANY.choose_spec ⟨_, rfl⟩ (fun _ => .int _)) e_int) a_nil)) (fun _ _ _ _ _ => (g_name 1 S.nd)) (fun _ _ _ _ _ => ts_nil) (fun _ _ _ _ _ => (e_callF h_price (hr.mono (by decide)) passB (a_cons (e_var 0) (a_cons (e_var 1) a_nil))))) a_nil)))
theorem ok_row_of (m : Ms P w G mg base) (h_price : Df P w G mg base "price" 1 ["rule", "many"] w_price) : Df P w G mg base "row_of" 2 ["rule"] w_row_of := by
  have S := sc_row_of
  delta w_row_of
  refine m.d_row_of.df (g := g_row_of) S rfl (fun fd Fd => Fd.bindsN fun _ _ _ _ _ _ us hl => match us, hl with | [_], _ => rfl) fun A outer s H E hr => ?_
  exact (ss_one (s_row_of_0 m h_price hr))
theorem sc_parting : FnScope ["one", "other", "many", "first", "second"] ["one", "other"] (defScope (top 22)) := ⟨rfl, rfl, rfl, by decide +kernel, rfl, by decide +kernel, by decide +kernel⟩
theorem s_parting_0 (m : Ms P w G mg base) (h_need_rule : Df P w G mg base "need_rule" 3 ["rule"] w_need_rule) (h_row_of : Df P w G mg base "row_of" 2 ["rule"] w_row_of) {A : Around} {outer : List Env} {s : Shared} {H : Hp} {E : XK} (hr : Room 3 (A.deeper (envOfC "parting" (defScope (top 22)) s.heap.objs.size (He.ga G.K "parting") (.ref (He.codeOf G.K ("parting", none)))))) : PS (cxOf (L2N.CX P w) P w G.K mg base ["one", "other", "many", "first", "second"] "parting" (defScope (top 22)) (He.ga G.K "parting") (.ref (He.codeOf G.K ("parting", none))) A outer s H E) (nthS (defBody (top 22)) 2) (tS G E (gs_parting_0 )) := by
  have S := sc_parting
  have htD : L2N.Takes (cxOf (L2N.CX P w) P w G.K mg base ["one", "other", "many", "first", "second"] "parting" (defScope (top 22)) (He.ga G.K "parting") (.ref (He.codeOf G.K ("parting", none))) A outer s H E) fun cls d _ H => E cls d H := L2N.takes_of rfl rfl rfl rfl
  have hxD : Passes (L2N.CX P w) (cxOf (L2N.CX P w) P w G.K mg base ["one", "other", "many", "first", "second"] "parting" (defScope (top 22)) (He.ga G.K "parting") (.ref (He.codeOf G.K ("parting", none))) A outer s H E) E := L2N.passes_call htD (fun _ _ _ _ h => h)
  exact (s_for (passes_of rfl) rfl (i_ez m.f_enumerate m.f_zip (a_cons (e_callF h_row_of (hr.mono (by decide)) hxD (a_cons (e_var 0) a_nil)) (a_cons (e_callF h_row_of (hr.mono (by decide)) hxD (a_cons (e_var 1) a_nil)) a_nil))) (g_tup rfl (gs_cons (g_name 2 S.nd) (gs_cons (g_tup rfl (gs_cons (g_name 3 S.nd) (gs_cons (g_name 4 S.nd) gs_nil))) gs_nil))) (ss_one (s_if (t_cmp (op_neD (Nat.lt_of_succ_lt (u65 hr))) d_ne (e_var 3) (e_var 4) rfl) (ss_one (s_ret (e_var 2))) ss_nil)))
theorem ok_parting (m : Ms P w G mg base) (h_need_rule : Df P w G mg base "need_rule" 3 ["rule"] w_need_rule) (h_row_of : Df P w G mg base "row_of" 2 ["rule"] w_row_of) : Df P w G mg base "parting" 4 ["one", "other"] w_parting := by
  have S := sc_parting
  delta w_parting
  refine m.d_parting.df (g := g_parting) S rfl (fun fd Fd => Fd.bindsN fun _ _ _ _ _ _ us hl => match us, hl with | [_, _], _ => rfl) fun A outer s H E hr => ?_
  have htD : L2N.Takes (cxOf (L2N.CX P w) P w G.K mg base ["one", "other", "many", "first", "second"] "parting" (defScope (top 22)) (He.ga G.K "parting") (.ref (He.codeOf G.K ("parting", none))) A outer s H E) fun cls d _ H => E cls d H := L2N.takes_of rfl rfl rfl rfl
  have hxD : Passes (L2N.CX P w) (cxOf (L2N.CX P w) P w G.K mg base ["one", "other", "many", "first", "second"] "parting" (defScope (top 22)) (He.ga G.K "parting") (.ref (He.codeOf G.K ("parting", none))) A outer s H E) E := L2N.passes_call htD (fun _ _ _ _ h => h)
  exact (ss_cons (s_expr (e_callF h_need_rule (hr.mono (by decide)) hxD (a_cons (e_var 0) a_nil))) (ss_cons (s_expr (e_callF h_need_rule (hr.mono (by decide)) hxD (a_cons (e_var 1) a_nil))) (ss_cons (s_parting_0 m h_need_rule h_row_of hr) (ss_one (s_ret e_none)))))
theorem sc_is_alike : FnScope ["one", "other"] ["one", "other"] (defScope (top 23)) := ⟨rfl, rfl, rfl, by decide +kernel, rfl, by decide +kernel, by decide +kernel⟩
theorem ok_is_alike (m : Ms P w G mg base) (h_parting : Df P w G mg base "parting" 4 ["one", "other"] w_parting) : Df P w G mg base "is_alike" 5 ["one", "other"] w_is_alike := by
  have S := sc_is_alike
  delta w_is_alike
  refine m.d_is_alike.df (g := g_is_alike) S rfl (fun fd Fd => Fd.bindsN fun _ _ _ _ _ _ us hl => match us, hl with | [_, _], _ => rfl) fun A outer s H E hr => ?_
  have htD : L2N.Takes (cxOf (L2N.CX P w) P w G.K mg base ["one", "other"] "is_alike" (defScope (top 23)) (He.ga G.K "is_alike") (.ref (He.codeOf G.K ("is_alike", none))) A outer s H E) fun cls d _ H => E cls d H := L2N.takes_of rfl rfl rfl rfl
  have hxD : Passes (L2N.CX P w) (cxOf (L2N.CX P w) P w G.K mg base ["one", "other"] "is_alike" (defScope (top 23)) (He.ga G.K "is_alike") (.ref (He.codeOf G.K ("is_alike", none))) A outer s H E) E := L2N.passes_call htD (fun _ _ _ _ h => h)
  exact (ss_one (s_ret (e_cmp op_isN d_is (e_callF h_parting (hr.mono (by decide)) hxD (a_cons (e_var 0) (a_cons (e_var 1) a_nil))) e_none rfl)))
theorem sc_groups : FnScope ["rules", "found", "rule", "row"] ["rules"] (defScope (top 24)) := ⟨rfl, rfl, rfl, by decide +kernel, rfl, by decide +kernel, by decide +kernel⟩
theorem okP_row_of (m : Ms P w G mg base) (h_price : Df P w G mg base "price" 1 ["rule", "many"] w_price) : DfP P w G mg base "row_of" 2 ["rule"] wP_row_of := by
  have S := sc_row_of
  delta wP_row_of
  refine m.d_row_of.dfP (g := rTupL (rLc [1] (rR1 (rCons (r2 (fun _ => .ok (.int 20)) (fun _ => .ok (.int 1)) pAdd) (fun _ => .ok []))) (bName 1) (fun _ => .ok true) (rCall (rArgs 2 (rCons (fun ρ => getS ρ 0) (rCons (fun ρ => getS ρ 1) (fun _ => .ok [])))) w_price))) S rfl (fun fd Fd => Fd.bindsN fun _ _ _ _ _ _ us hl => match us, hl with | [_], _ => rfl) fun A outer s H E hr => ?_
  have htD : L2N.Takes (cxOf (L2N.CX P w) P w G.K mg base ["rule", "many"] "row_of" (defScope (top 21)) (He.ga G.K "row_of") (.ref (He.codeOf G.K ("row_of", none))) A outer s H E) fun cls d _ H => E cls d H := L2N.takes_of rfl rfl rfl rfl
  have hxD : Passes (L2N.CX P w) (cxOf (L2N.CX P w) P w G.K mg base ["rule", "many"] "row_of" (defScope (top 21)) (He.ga G.K "row_of") (.ref (He.codeOf G.K ("row_of", none))) A outer s H E) E := L2N.passes_call htD (fun _ _ _ _ h => h)
  exact ssP_ret (e_lc (own := [("many", 1)]) rfl S.nd (blkOk_by rfl) (only_name (by decide)) (i_range1 m.f_range (a_cons (e_op op_addAll d_add (e_glob (v := .int 20) m.g_MOST_MANY.choose_spec ⟨_, rfl⟩ (fun _ => .int _)) e_int) a_nil)) (fun _ _ _ _ _ => (g_name 1 S.nd)) (fun _ _ _ _ _ => ts_nil) (fun _ _ _ _ _ => (e_callF h_price (hr.mono (by decide)) passB (a_cons (e_var 0) (a_cons (e_var 1) a_nil))))) (fun ha => pe_callTy call_tuple_of rfl m.f_tuple (by decide +kernel) (pa_cons ha pa_nil))
theorem ok_groups (m : Ms P w G mg base) (h_row_of : Df P w G mg base "row_of" 2 ["rule"] w_row_of) (h_price : Df P w G mg base "price" 1 ["rule", "many"] w_price) : Df P w G mg base "groups" 3 ["rules"] w_groups := by
  have S := sc_groups
  delta w_groups
  refine m.d_groups.df (g := g_groups) S rfl (fun fd Fd => Fd.bindsN fun _ _ _ _ _ _ us hl => match us, hl with | [_], _ => rfl) fun A outer s H E hr => ?_
  have htD : L2N.Takes (cxOf (L2N.CX P w) P w G.K mg base ["rules", "found", "rule", "row"] "groups" (defScope (top 24)) (He.ga G.K "groups") (.ref (He.codeOf G.K ("groups", none))) A outer s H E) fun cls d _ H => E cls d H := L2N.takes_of rfl rfl rfl rfl
  have hxD : Passes (L2N.CX P w) (cxOf (L2N.CX P w) P w G.K mg base ["rules", "found", "rule", "row"] "groups" (defScope (top 24)) (He.ga G.K "groups") (.ref (He.codeOf G.K ("groups", none))) A outer s H E) E := L2N.passes_call htD (fun _ _ _ _ h => h)
  obtain ⟨fP, fdP, q1, q2, q3, q4⟩ := (okP_row_of m h_price).ex
  exact (ss_groups (m := wP_row_of) (s_raw 1 S.nd pe_dnewT) (ps_for (passes_of rfl) rfl (i_seq (e_var 0)) (g_name 2 S.nd) (pss_cons (s_raw 3 S.nd (pe_call (CX := L2N.CX P w) q1 (hr.mono (by decide)) rfl q2 q3 q4 .nil hxD (pa_cons (v_raw 2) pa_nil))) (pss_one (ps_dput (u1 hr) (v_raw 1) (v_raw 3) (pe_op op_cat (pe_dget2 (u1 hr) (v_raw 1) (v_raw 3) (pe_lst pa_nil) ⟨rfl, rfl, rfl, rfl⟩) (pe_lst (pa_cons (v_raw 2) pa_nil))) rfl)))) (ps_ret (pe_lock (pe_lc (own := [("row", 3)]) rfl S.nd (pi_keys (v_raw 1)) (blkOk_by rfl) (fun _ _ _ _ _ => g_raw 3 S.nd) (fun _ _ _ _ _ => pts_nil) (fun _ _ _ _ _ => pe_dget (u1 hr) (v_raw 1) (v_raw 3) (fun _ _ => rfl))))))
theorem sc_alike_ones : FnScope ["kinds", "rule", "goal", "one"] ["kinds", "rule"] (defScope (top 25)) := ⟨rfl, rfl, rfl, by decide +kernel, rfl, by decide +kernel, by decide +kernel⟩
theorem ok_alike_ones (m : Ms P w G mg base) (h_need_kinds : Df P w G mg base "need_kinds" 2 ["kinds"] w_need_kinds) (h_need_rule : Df P w G mg base "need_rule" 3 ["rule"] w_need_rule) (h_row_of : Df P w G mg base "row_of" 2 ["rule"] w_row_of) (h_all_rules : Df P w G mg base "all_rules" 2 ["kinds"] w_all_rules) : Df P w G mg base "alike_ones" 4 ["kinds", "rule"] w_alike_ones := by
  have S := sc_alike_ones
  delta w_alike_ones
  refine m.d_alike_ones.df (g := g_alike_ones) S rfl (fun fd Fd => Fd.bindsN fun _ _ _ _ _ _ us hl => match us, hl with | [_, _], _ => rfl) fun A outer s H E hr => ?_
  have htD : L2N.Takes (cxOf (L2N.CX P w) P w G.K mg base ["kinds", "rule", "goal", "one"] "alike_ones" (defScope (top 25)) (He.ga G.K "alike_ones") (.ref (He.codeOf G.K ("alike_ones", none))) A outer s H E) fun cls d _ H => E cls d H := L2N.takes_of rfl rfl rfl rfl
  have hxD : Passes (L2N.CX P w) (cxOf (L2N.CX P w) P w G.K mg base ["kinds", "rule", "goal", "one"] "alike_ones" (defScope (top 25)) (He.ga G.K "alike_ones") (.ref (He.codeOf G.K ("alike_ones", none))) A outer s H E) E := L2N.passes_call htD (fun _ _ _ _ h => h)
  exact (ss_cons (s_expr (e_callF h_need_kinds (hr.mono (by decide)) hxD (a_cons (e_var 0) a_nil))) (ss_cons (s_expr (e_callF h_need_rule (hr.mono (by decide)) hxD (a_cons (e_var 1) a_nil))) (ss_cons (s_set 2 S.nd (e_callF h_row_of (hr.mono (by decide)) hxD (a_cons (e_var 1) a_nil))) (ss_one (s_ret (e_lc (own := [("one", 3)]) rfl S.nd (blkOk_by rfl) (only_name (by decide)) (i_seq (e_callF h_all_rules (hr.mono (by decide)) hxD (a_cons (e_var 0) a_nil))) (fun _ _ _ _ _ => (g_name 3 S.nd)) (fun _ _ _ _ _ => (ts_one (t_cmp (op_eqD (Nat.lt_of_succ_lt (u65 hr))) d_eq (e_callF h_row_of (hr.mono (by decide)) passB (a_cons (e_var 3) a_nil)) (e_var 2) rfl))) (fun _ _ _ _ _ => (e_var 3))))))))
theorem sc_many_unlike : FnScope ["kinds"] ["kinds"] (defScope (top 26)) := ⟨rfl, rfl, rfl, by decide +kernel, rfl, by decide +kernel, by decide +kernel⟩
theorem ok_many_unlike (m : Ms P w G mg base) (h_need_kinds : Df P w G mg base "need_kinds" 2 ["kinds"] w_need_kinds) (h_groups : Df P w G mg base "groups" 3 ["rules"] w_groups) (h_all_rules : Df P w G mg base "all_rules" 2 ["kinds"] w_all_rules) : Df P w G mg base "many_unlike" 4 ["kinds"] w_many_unlike := by
  have S := sc_many_unlike
  delta w_many_unlike
  refine m.d_many_unlike.df (g := g_many_unlike) S rfl (fun fd Fd => Fd.bindsN fun _ _ _ _ _ _ us hl => match us, hl with | [_], _ => rfl) fun A outer s H E hr => ?_
  have htD : L2N.Takes (cxOf (L2N.CX P w) P w G.K mg base ["kinds"] "many_unlike" (defScope (top 26)) (He.ga G.K "many_unlike") (.ref (He.codeOf G.K ("many_unlike", none))) A outer s H E) fun cls d _ H => E cls d H := L2N.takes_of rfl rfl rfl rfl
  have hxD : Passes (L2N.CX P w) (cxOf (L2N.CX P w) P w G.K mg base ["kinds"] "many_unlike" (defScope (top 26)) (He.ga G.K "many_unlike") (.ref (He.codeOf G.K ("many_unlike", none))) A outer s H E) E := L2N.passes_call htD (fun _ _ _ _ h => h)
  exact (ss_cons (s_expr (e_callF h_need_kinds (hr.mono (by decide)) hxD (a_cons (e_var 0) a_nil))) (ss_one (s_ret (e_len m.f_len (a_cons (e_callF h_groups (hr.mono (by decide)) hxD (a_cons (e_callF h_all_rules (hr.mono (by decide)) hxD (a_cons (e_var 0) a_nil)) a_nil)) a_nil)))))
theorem sc__law_cell : FnScope ["script", "k"] ["script", "k"] (defScope (top 28)) := ⟨rfl, rfl, rfl, by decide +kernel, rfl, by decide +kernel, by decide +kernel⟩
theorem ok__law_cell (m : Ms P w G mg base)  : Df P w G mg base "_law_cell" 1 ["script", "k"] w__law_cell := by
  have S := sc__law_cell
  delta w__law_cell
  refine m.d__law_cell.df (g := g__law_cell) S rfl (fun fd Fd => Fd.bindsN fun _ _ _ _ _ _ us hl => match us, hl with | [_, _], _ => rfl) fun A outer s H E hr => ?_
  exact (ss_cons (s_if (t_cmp (op_eqD (Nat.lt_of_succ_lt (u65 hr))) d_eq (e_var 0) (e_lst a_nil) rfl) (ss_one (s_ret (e_op op_mulAll d_mul (e_var 1) e_int))) ss_nil) (ss_one (s_ret (e_op op_addAll d_add (e_ix (e_var 0) (e_op op_mod d_mod (e_var 1) (e_len m.f_len (a_cons (e_var 0) a_nil)))) (e_op op_mulAll d_mul (e_op op_fdivW d_div (e_var 1) (e_len m.f_len (a_cons (e_var 0) a_nil))) e_int)))))
theorem sc__law_drawn : FnScope ["cell", "k", "more"] ["cell", "k"] (defScope (top 29)) := ⟨rfl, rfl, rfl, by decide +kernel, rfl, by decide +kernel, by decide +kernel⟩
theorem ok__law_drawn (m : Ms P w G mg base)  : Df P w G mg base "_law_drawn" 1 ["cell", "k"] w__law_drawn := by
  have S := sc__law_drawn
  delta w__law_drawn
  refine m.d__law_drawn.df (g := g__law_drawn) S rfl (fun fd Fd => Fd.bindsN fun _ _ _ _ _ _ us hl => match us, hl with | [_, _], _ => rfl) fun A outer s H E hr => ?_
  exact (ss_cons (s_set 2 S.nd (e_op op_mod d_mod (e_op op_addAll d_add (e_op op_mulAll d_mul (e_var 0) e_int) (e_op op_mulAll d_mul (e_op op_addAll d_add (e_var 1) e_int) e_int)) e_int)) (ss_cons (s_set 2 S.nd (e_op op_mod d_mod (e_op op_mulAll d_mul (e_var 2) (e_var 2)) e_int)) (ss_cons (s_set 2 S.nd (e_op op_mulAll d_mul (e_op op_mulAll d_mul (e_op op_addAll d_add (e_op op_mod d_mod (e_var 2) e_int) e_int) (e_op op_addAll d_add (e_op op_fdivW d_div (e_var 2) e_int) e_int)) (e_var 2))) (ss_one (s_ret (e_op op_mod d_mod (e_var 2) e_int))))))
theorem sc__law_word : FnScope ["e", "flags", "flag"] ["e"] (defScope (top 30)) := ⟨rfl, rfl, rfl, by decide +kernel, rfl, by decide +kernel, by decide +kernel⟩
theorem ok__law_word (m : Ms P w G mg base) (hw : ∀ er a, fin (g__law_word er a (.raw (.ref a) :: List.replicate 2 .no)) = .ok (.str (nm er))) : WordOk P w G mg base "_law_word" 1 nm := by
  obtain ⟨fd, Fd⟩ := m.d__law_word.ex
  have hbi : Binds G.K fd ["e"] [] := Fd.bindsN fun _ _ _ _ _ _ us hl => match us, hl with | [_], _ => rfl
  have S := sc__law_word
  refine word_ok (g := g__law_word) Fd m.d__law_word.gl hbi S hw fun cdv A outer s H p er h1 hz hr => ?_
  obtain ⟨a, oe⟩ := p
  have hf : ∃ vs, oe.data = .fields vs := ⟨_, h1.2.choose_spec.1⟩
  have hot : L2H.HotC (L2H.cxH CX0 P w G.K mg base ["e", "flags", "flag"] "_law_word" (defScope (top 30)) (He.ga G.K "_law_word") cdv A outer s H E0 (a, oe)) := ⟨(a, oe), h1, List.mem_singleton.mpr rfl⟩
  have hp : (a, oe) ∈ [(a, oe)] := List.mem_singleton.mpr rfl
  exact (ss_cons (s_set 1 S.nd (e_lst (a_cons (e_isX 0 m.x hp hz.zc hf m.f_isinstance (pe_glob (v := .ref (G.xc .BadBill)) rfl (m.x.gl .BadBill) rfl) (fun _ h => h) (m.x.kit er .BadBill)) (a_cons (e_isX 0 m.x hp hz.zc hf m.f_isinstance (pe_glob (v := .ref (G.xc .BadRule)) rfl (m.x.gl .BadRule) rfl) (fun _ h => h) (m.x.kit er .BadRule)) (a_cons (e_isX 0 m.x hp hz.zc hf m.f_isinstance (pe_glob (v := .ref (G.xc .BadText)) rfl (m.x.gl .BadText) rfl) (fun _ h => h) (m.x.kit er .BadText)) (a_cons (e_isX 0 m.x hp hz.zc hf m.f_isinstance (pe_glob (v := .ref (G.xc .NoRule)) rfl (m.x.gl .NoRule) rfl) (fun _ h => h) (m.x.kit er .NoRule)) a_nil)))))) (ss_cons (s_if (PW.pt (w_or (t_cmp (op_neD (Nat.lt_of_succ_lt (u65h hr))) d_ne (e_sumH hot m.f_sum (a_cons (e_lcH (own := [("flag", 2)]) hot S.nd (blkOk_by rfl) (only_name (by decide)) (e_var 1) (fun _ _ _ _ _ => (g_name 2 S.nd)) (fun _ _ _ _ _ => (e_intc m.f_int (a_cons (e_var 2) a_nil)))) a_nil)) e_int rfl) (w_or1 (t_not (t_truth (e_isX 0 m.x hp hz.zc hf m.f_isinstance (pe_bltn (v := .ty "ValueError") rfl m.f_ValueError (by decide +kernel) rfl) (fun _ h => h) (m.x.kiv er))))))) (ss_one (s_ret e_str)) ss_nil) (ss_one (s_ret (e_ix (e_lst (a_cons e_str (a_cons e_str (a_cons e_str (a_cons e_str a_nil))))) (e_index (u65h hr) (e_var 1) e_bl (fun ho ha => pe_bm PySem.F.plainAttrs_list PySem.F.slot_list_index PySem.F.type_list_index (mt_indexD (u65h hr)) ho (pa_cons ha pa_nil))))))))
theorem sc__law_bounds : FnScope ["kind", "cents", "counts", "shapes", "shape", "sign"] ["kind"] (defScope (top 32)) := ⟨rfl, rfl, rfl, by decide +kernel, rfl, by decide +kernel, by decide +kernel⟩
theorem ok__law_bounds (m : Ms P w G mg base)  : Df P w G mg base "_law_bounds" 1 ["kind"] w__law_bounds := by
  have S := sc__law_bounds
  delta w__law_bounds
  refine m.d__law_bounds.df (g := g__law_bounds) S rfl (fun fd Fd => Fd.bindsN fun _ _ _ _ _ _ us hl => match us, hl with | [_], _ => rfl) fun A outer s H E hr => ?_
  exact (ss_cons (s_asg (e_tup (a_cons (e_tup (a_cons e_int (a_cons e_int a_nil))) (a_cons (e_tup (a_cons e_int (a_cons e_int a_nil))) a_nil))) (g_tup rfl (gs_cons (g_name 1 S.nd) (gs_cons (g_name 2 S.nd) gs_nil)))) (ss_cons (s_set 3 S.nd (e_disp (pd_cons e_str (pd_cons e_str (pd_cons e_str (pd_cons e_str (pd_cons e_str (pd_cons e_str (pd_cons e_str pd_nil))))))))) (ss_cons (s_set 4 S.nd (e_get2 (u1 hr) (e_var 3) (e_var 0) (e_if (t_cmp (op_eqD (Nat.lt_of_succ_lt (u65 hr))) d_eq (e_var 0) e_str rfl) e_str e_str))) (ss_one (s_ret (e_lc (own := [("sign", 5)]) rfl S.nd (blkOk_by rfl) (only_name (by decide)) (i_str (e_var 4)) (fun _ _ _ _ _ => (g_name 5 S.nd)) (fun _ _ _ _ _ => ts_nil) (fun _ _ _ _ _ => (e_if (t_cmp (op_eqD (Nat.lt_of_succ_lt (u65 hr))) d_eq (e_var 5) e_str rfl) (e_var 1) (e_var 2)))))))))
theorem sc__law_kinds : FnScope [] [] (defScope (top 33)) := ⟨rfl, rfl, rfl, by decide +kernel, rfl, by decide +kernel, by decide +kernel⟩
theorem ok__law_kinds (m : Ms P w G mg base)  : Df P w G mg base "_law_kinds" 1 [] w__law_kinds := by
  have S := sc__law_kinds
  delta w__law_kinds
  refine m.d__law_kinds.df (g := g__law_kinds) S rfl (fun fd Fd => Fd.bindsN fun _ _ _ _ _ _ us hl => match us, hl with | [], _ => rfl) fun A outer s H E hr => ?_
  exact (ss_one (s_ret (e_lst (a_cons e_str (a_cons e_str (a_cons e_str (a_cons e_str (a_cons e_str (a_cons e_str (a_cons e_str (a_cons e_str (a_cons e_str a_nil))))))))))))
theorem sc__law_rule : FnScope ["more", "kind", "numbers", "j", "low", "high"] ["more"] (defScope (top 34)) := ⟨rfl, rfl, rfl, by decide +kernel, rfl, by decide +kernel, by decide +kernel⟩
theorem s__law_rule_0 (m : Ms P w G mg base) (h__law_kinds : Df P w G mg base "_law_kinds" 1 [] w__law_kinds) (h__law_drawn : Df P w G mg base "_law_drawn" 1 ["cell", "k"] w__law_drawn) (h__law_bounds : Df P w G mg base "_law_bounds" 1 ["kind"] w__law_bounds) {A : Around} {outer : List Env} {s : Shared} {H : Hp} {E : XK} (hr : Room 1 (A.deeper (envOfC "_law_rule" (defScope (top 34)) s.heap.objs.size (He.ga G.K "_law_rule") (.ref (He.codeOf G.K ("_law_rule", none)))))) : PS (cxOf (L2N.CX P w) P w G.K mg base ["more", "kind", "numbers", "j", "low", "high"] "_law_rule" (defScope (top 34)) (He.ga G.K "_law_rule") (.ref (He.codeOf G.K ("_law_rule", none))) A outer s H E) (nthS (defBody (top 34)) 1) (tS G E (gs__law_rule_0 )) := by
  have S := sc__law_rule
  have htD : L2N.Takes (cxOf (L2N.CX P w) P w G.K mg base ["more", "kind", "numbers", "j", "low", "high"] "_law_rule" (defScope (top 34)) (He.ga G.K "_law_rule") (.ref (He.codeOf G.K ("_law_rule", none))) A outer s H E) fun cls d _ H => E cls d H := L2N.takes_of rfl rfl rfl rfl
  have hxD : Passes (L2N.CX P w) (cxOf (L2N.CX P w) P w G.K mg base ["more", "kind", "numbers", "j", "low", "high"] "_law_rule" (defScope (top 34)) (He.ga G.K "_law_rule") (.ref (He.codeOf G.K ("_law_rule", none))) A outer s H E) E := L2N.passes_call htD (fun _ _ _ _ h => h)
  exact (s_setLc 2 (own := [("j", 3), ("low", 4), ("high", 5)]) rfl S.nd (blkOk_by rfl) (only_tup (onlys_cons (only_name (by decide)) (onlys_cons (only_tup (onlys_cons (only_name (by decide)) (onlys_cons (only_name (by decide)) onlys_nil))) onlys_nil))) (i_enum m.f_enumerate (a_cons (e_callF h__law_bounds (hr.mono (by decide)) hxD (a_cons (e_var 1) a_nil)) a_nil)) (fun _ _ _ _ _ => (g_tup rfl (gs_cons (g_name 3 S.nd) (gs_cons (g_tup rfl (gs_cons (g_name 4 S.nd) (gs_cons (g_name 5 S.nd) gs_nil))) gs_nil)))) (fun _ _ _ _ _ => ts_nil) (fun _ _ _ _ _ => (e_op op_addAll d_add (e_var 4) (e_op op_mod d_mod (e_callF h__law_drawn (hr.mono (by decide)) passB (a_cons (e_var 0) (a_cons (e_var 3) a_nil))) (e_op op_addAll d_add (e_op op_sub d_sub (e_var 5) (e_var 4)) e_int)))))
theorem ok__law_rule (m : Ms P w G mg base) (h__law_kinds : Df P w G mg base "_law_kinds" 1 [] w__law_kinds) (h__law_drawn : Df P w G mg base "_law_drawn" 1 ["cell", "k"] w__law_drawn) (h__law_bounds : Df P w G mg base "_law_bounds" 1 ["kind"] w__law_bounds) : Df P w G mg base "_law_rule" 2 ["more"] w__law_rule := by
  have S := sc__law_rule
  delta w__law_rule
  refine m.d__law_rule.df (g := g__law_rule) S rfl (fun fd Fd => Fd.bindsN fun _ _ _ _ _ _ us hl => match us, hl with | [_], _ => rfl) fun A outer s H E hr => ?_
  have htD : L2N.Takes (cxOf (L2N.CX P w) P w G.K mg base ["more", "kind", "numbers", "j", "low", "high"] "_law_rule" (defScope (top 34)) (He.ga G.K "_law_rule") (.ref (He.codeOf G.K ("_law_rule", none))) A outer s H E) fun cls d _ H => E cls d H := L2N.takes_of rfl rfl rfl rfl
  have hxD : Passes (L2N.CX P w) (cxOf (L2N.CX P w) P w G.K mg base ["more", "kind", "numbers", "j", "low", "high"] "_law_rule" (defScope (top 34)) (He.ga G.K "_law_rule") (.ref (He.codeOf G.K ("_law_rule", none))) A outer s H E) E := L2N.passes_call htD (fun _ _ _ _ h => h)
  exact (ss_cons (s_set 1 S.nd (e_ix (e_callD0 h__law_kinds (hr.mono (by decide)) hxD) (e_op op_mod d_mod (e_var 0) e_int))) (ss_cons (s__law_rule_0 m h__law_kinds h__law_drawn h__law_bounds hr) (ss_one (s_ret (e_op op_addAll d_add (e_tup (a_cons (e_var 1) a_nil)) (e_tuple m.f_tuple (a_cons (e_var 2) a_nil)))))))
theorem sc__law_cost : FnScope ["rule", "many", "kind", "found", "one"] ["rule", "many"] (defScope (top 35)) := ⟨rfl, rfl, rfl, by decide +kernel, rfl, by decide +kernel, by decide +kernel⟩
theorem s__law_cost_0 (m : Ms P w G mg base)  {A : Around} {outer : List Env} {s : Shared} {H : Hp} {E : XK} (hr : Room 0 (A.deeper (envOfC "_law_cost" (defScope (top 35)) s.heap.objs.size (He.ga G.K "_law_cost") (.ref (He.codeOf G.K ("_law_cost", none)))))) : PS (cxOf (L2N.CX P w) P w G.K mg base ["rule", "many", "kind", "found", "one"] "_law_cost" (defScope (top 35)) (He.ga G.K "_law_cost") (.ref (He.codeOf G.K ("_law_cost", none))) A outer s H E) (nthS (elseS (nthS (elseS (nthS (bodyS (nthS (defBody (top 35)) 2)) 0)) 0)) 0) (tS G E (gs__law_cost_0 )) := by
  have S := sc__law_cost
  exact (s_if (t_cmp (op_eqD (Nat.lt_of_succ_lt (u65 hr))) d_eq (e_var 2) e_str rfl) (ss_one (s_set 3 S.nd (e_op op_addAll d_add (e_var 3) (e_if (t_cmp (op_eqD (Nat.lt_of_succ_lt (u65 hr))) d_eq (e_op op_mod d_mod (e_var 4) (e_ix (e_var 0) e_int)) e_int rfl) e_int (e_ix (e_var 0) e_int))))) (ss_one (s_set 3 S.nd (e_op op_addAll d_add (e_var 3) (e_if (t_cmp (op_inAll (u65 hr)) d_in (e_var 2) (e_tup (a_cons e_str (a_cons e_str a_nil))) rfl) (e_ix (e_var 0) e_int) (e_ix (e_var 0) e_int))))))
theorem s__law_cost_1 (m : Ms P w G mg base)  {A : Around} {outer : List Env} {s : Shared} {H : Hp} {E : XK} (hr : Room 0 (A.deeper (envOfC "_law_cost" (defScope (top 35)) s.heap.objs.size (He.ga G.K "_law_cost") (.ref (He.codeOf G.K ("_law_cost", none)))))) : PS (cxOf (L2N.CX P w) P w G.K mg base ["rule", "many", "kind", "found", "one"] "_law_cost" (defScope (top 35)) (He.ga G.K "_law_cost") (.ref (He.codeOf G.K ("_law_cost", none))) A outer s H E) (nthS (elseS (nthS (bodyS (nthS (defBody (top 35)) 2)) 0)) 0) (tS G E (gs__law_cost_1 )) := by
  have S := sc__law_cost
  exact (s_if (t_cmp (op_eqD (Nat.lt_of_succ_lt (u65 hr))) d_eq (e_var 2) e_str rfl) (ss_one (s_set 3 S.nd (e_op op_addAll d_add (e_var 3) (e_if (PW.pt (w_or (t_cmp (op_eqD (Nat.lt_of_succ_lt (u65 hr))) d_eq (e_op op_mod d_mod (e_var 4) (e_ix (e_var 0) e_int)) e_int rfl) (w_or1 (t_cmp (op_eqD (Nat.lt_of_succ_lt (u65 hr))) d_eq (e_ix (e_var 0) e_int) e_int rfl)))) (e_ix (e_var 0) e_int) e_int)))) (ss_one (s__law_cost_0 m  hr)))
theorem s__law_cost_2 (m : Ms P w G mg base)  {A : Around} {outer : List Env} {s : Shared} {H : Hp} {E : XK} (hr : Room 0 (A.deeper (envOfC "_law_cost" (defScope (top 35)) s.heap.objs.size (He.ga G.K "_law_cost") (.ref (He.codeOf G.K ("_law_cost", none)))))) : PS (cxOf (L2N.CX P w) P w G.K mg base ["rule", "many", "kind", "found", "one"] "_law_cost" (defScope (top 35)) (He.ga G.K "_law_cost") (.ref (He.codeOf G.K ("_law_cost", none))) A outer s H E) (nthS (defBody (top 35)) 2) (tS G E (gs__law_cost_2 )) := by
  have S := sc__law_cost
  exact (s_for (passes_of rfl) rfl (i_range2 m.f_range (a_cons e_int (a_cons (e_op op_addAll d_add (e_var 1) e_int) a_nil))) (g_name 4 S.nd) (ss_one (s_if (t_cmp (op_eqD (Nat.lt_of_succ_lt (u65 hr))) d_eq (e_var 2) e_str rfl) (ss_one (s_set 3 S.nd (e_op op_addAll d_add (e_var 3) (e_if (t_cmp op_le d_le (e_var 4) (e_ix (e_var 0) e_int) rfl) (e_ix (e_var 0) e_int) (e_ix (e_var 0) e_int))))) (ss_one (s__law_cost_1 m  hr)))))
theorem ok__law_cost (m : Ms P w G mg base)  : Df P w G mg base "_law_cost" 1 ["rule", "many"] w__law_cost := by
  have S := sc__law_cost
  delta w__law_cost
  refine m.d__law_cost.df (g := g__law_cost) S rfl (fun fd Fd => Fd.bindsN fun _ _ _ _ _ _ us hl => match us, hl with | [_, _], _ => rfl) fun A outer s H E hr => ?_
  exact (ss_cons (s_par 2 3 S.nd (a_cons (e_ix (e_var 0) e_int) (a_cons e_int a_nil))) (ss_cons (s_if (t_cmp (op_eqD (Nat.lt_of_succ_lt (u65 hr))) d_eq (e_var 2) e_str rfl) (ss_one (s_ret (e_ix (e_var 0) e_int))) ss_nil) (ss_cons (s__law_cost_2 m  hr) (ss_cons (s_if (t_cmp (op_eqD (Nat.lt_of_succ_lt (u65 hr))) d_eq (e_var 2) e_str rfl) (ss_one (s_ret (e_op op_addAll d_add (e_ix (e_var 0) e_int) (e_var 3)))) ss_nil) (ss_cons (s_if (t_cmp (op_eqD (Nat.lt_of_succ_lt (u65 hr))) d_eq (e_var 2) e_str rfl) (ss_one (s_ret (e_ix (e_sorted m.f_sorted (a_cons (e_lst (a_cons (e_ix (e_var 0) e_int) (a_cons (e_var 3) a_nil))) a_nil)) e_int))) ss_nil) (ss_cons (s_if (t_cmp (op_eqD (Nat.lt_of_succ_lt (u65 hr))) d_eq (e_var 2) e_str rfl) (ss_one (s_ret (e_ix (e_sorted m.f_sorted (a_cons (e_lst (a_cons (e_op op_mulAll d_mul e_int (e_ix (e_var 0) e_int)) (a_cons (e_var 3) a_nil))) a_nil)) e_int))) ss_nil) (ss_one (s_ret (e_if (PW.pt (w_and (t_cmp (op_eqD (Nat.lt_of_succ_lt (u65 hr))) d_eq (e_var 2) e_str rfl) (w_and1 (t_cmp op_ge d_ge (e_var 1) (e_ix (e_var 0) e_int) rfl)))) (e_ix (e_sorted m.f_sorted (a_cons (e_lst (a_cons e_int (a_cons (e_op op_sub d_sub (e_var 3) (e_ix (e_var 0) e_int)) a_nil))) a_nil)) e_int) (e_var 3))))))))))
theorem sc__law_row : FnScope ["rule", "many"] ["rule"] (defScope (top 36)) := ⟨rfl, rfl, rfl, by decide +kernel, rfl, by decide +kernel, by decide +kernel⟩
theorem ok__law_row (m : Ms P w G mg base) (h__law_cost : Df P w G mg base "_law_cost" 1 ["rule", "many"] w__law_cost) : Df P w G mg base "_law_row" 2 ["rule"] w__law_row := by
  have S := sc__law_row
  delta w__law_row
  refine m.d__law_row.df (g := g__law_row) S rfl (fun fd Fd => Fd.bindsN fun _ _ _ _ _ _ us hl => match us, hl with | [_], _ => rfl) fun A outer s H E hr => ?_
  exact (ss_one (s_ret (e_lc (own := [("many", 1)]) rfl S.nd (blkOk_by rfl) (only_name (by decide)) (i_range1 m.f_range (a_cons e_int a_nil)) (fun _ _ _ _ _ => (g_name 1 S.nd)) (fun _ _ _ _ _ => ts_nil) (fun _ _ _ _ _ => (e_callF h__law_cost (hr.mono (by decide)) passB (a_cons (e_var 0) (a_cons (e_var 1) a_nil)))))))
theorem sc__law_rules : FnScope ["kinds", "made", "kind", "found", "low", "high", "longer", "rule", "one"] ["kinds"] (defScope (top 37)) := ⟨rfl, rfl, rfl, by decide +kernel, rfl, by decide +kernel, by decide +kernel⟩
theorem s__law_rules_0 (m : Ms P w G mg base) (h__law_bounds : Df P w G mg base "_law_bounds" 1 ["kind"] w__law_bounds) {A : Around} {outer : List Env} {s : Shared} {H : Hp} {E : XK} (hr : Room 1 (A.deeper (envOfC "_law_rules" (defScope (top 37)) s.heap.objs.size (He.ga G.K "_law_rules") (.ref (He.codeOf G.K ("_law_rules", none)))))) : PS (cxOf (L2N.CX P w) P w G.K mg base ["kinds", "made", "kind", "found", "low", "high", "longer", "rule", "one"] "_law_rules" (defScope (top 37)) (He.ga G.K "_law_rules") (.ref (He.codeOf G.K ("_law_rules", none))) A outer s H E) (nthS (bodyS (nthS (bodyS (nthS (bodyS (nthS (defBody (top 37)) 1)) 1)) 1)) 0) (tS G E (gs__law_rules_0 )) := by
  have S := sc__law_rules
  exact (s_ext 6 (e_lc (own := [("one", 8)]) rfl S.nd (blkOk_by rfl) (only_name (by decide)) (i_range2 m.f_range (a_cons (e_var 4) (a_cons (e_op op_addAll d_add (e_var 5) e_int) a_nil))) (fun _ _ _ _ _ => (g_name 8 S.nd)) (fun _ _ _ _ _ => ts_nil) (fun _ _ _ _ _ => (e_op op_addAll d_add (e_var 7) (e_tup (a_cons (e_var 8) a_nil))))) (h := fun ho ha => pe_bm PySem.F.plainAttrs_list PySem.F.slot_list_extend PySem.F.type_list_extend mt_extend ho (pa_cons ha pa_nil)))
theorem s__law_rules_1 (m : Ms P w G mg base) (h__law_bounds : Df P w G mg base "_law_bounds" 1 ["kind"] w__law_bounds) {A : Around} {outer : List Env} {s : Shared} {H : Hp} {E : XK} (hr : Room 1 (A.deeper (envOfC "_law_rules" (defScope (top 37)) s.heap.objs.size (He.ga G.K "_law_rules") (.ref (He.codeOf G.K ("_law_rules", none)))))) : PS (cxOf (L2N.CX P w) P w G.K mg base ["kinds", "made", "kind", "found", "low", "high", "longer", "rule", "one"] "_law_rules" (defScope (top 37)) (He.ga G.K "_law_rules") (.ref (He.codeOf G.K ("_law_rules", none))) A outer s H E) (nthS (defBody (top 37)) 1) (tS G E (gs__law_rules_1 )) := by
  have S := sc__law_rules
  have htD : L2N.Takes (cxOf (L2N.CX P w) P w G.K mg base ["kinds", "made", "kind", "found", "low", "high", "longer", "rule", "one"] "_law_rules" (defScope (top 37)) (He.ga G.K "_law_rules") (.ref (He.codeOf G.K ("_law_rules", none))) A outer s H E) fun cls d _ H => E cls d H := L2N.takes_of rfl rfl rfl rfl
  have hxD : Passes (L2N.CX P w) (cxOf (L2N.CX P w) P w G.K mg base ["kinds", "made", "kind", "found", "low", "high", "longer", "rule", "one"] "_law_rules" (defScope (top 37)) (He.ga G.K "_law_rules") (.ref (He.codeOf G.K ("_law_rules", none))) A outer s H E) E := L2N.passes_call htD (fun _ _ _ _ h => h)
  exact (s_for (passes_of rfl) rfl (i_seq (e_var 0)) (g_name 2 S.nd) (ss_cons (s_set 3 S.nd (e_lst (a_cons (e_tup (a_cons (e_var 2) a_nil)) a_nil))) (ss_cons (s_for (passes_of rfl) rfl (i_seq (e_callF h__law_bounds (hr.mono (by decide)) hxD (a_cons (e_var 2) a_nil))) (g_tup rfl (gs_cons (g_name 4 S.nd) (gs_cons (g_name 5 S.nd) gs_nil))) (ss_cons (s_own 6 S.nd a_nil) (ss_cons (s_for (passes_of rfl) rfl (i_seq (e_var 3)) (g_name 7 S.nd) (ss_one (s__law_rules_0 m h__law_bounds hr))) (ss_one (s_fz [6] (s_set 3 S.nd (e_var 6))))))) (ss_one (s_set 1 S.nd (e_op op_addAll d_add (e_var 1) (e_var 3)))))))
theorem ok__law_rules (m : Ms P w G mg base) (h__law_bounds : Df P w G mg base "_law_bounds" 1 ["kind"] w__law_bounds) : Df P w G mg base "_law_rules" 2 ["kinds"] w__law_rules := by
  have S := sc__law_rules
  delta w__law_rules
  refine m.d__law_rules.df (g := g__law_rules) S rfl (fun fd Fd => Fd.bindsN fun _ _ _ _ _ _ us hl => match us, hl with | [_], _ => rfl) fun A outer s H E hr => ?_
  exact (ss_cons (s_set 1 S.nd (e_lst a_nil)) (ss_cons (s__law_rules_1 m h__law_bounds hr) (ss_one (s_ret (e_var 1)))))
theorem sc__law_some : FnScope ["more", "kinds", "j", "kind"] ["more"] (defScope (top 38)) := ⟨rfl, rfl, rfl, by decide +kernel, rfl, by decide +kernel, by decide +kernel⟩
theorem s__law_some_0 (m : Ms P w G mg base) (h__law_kinds : Df P w G mg base "_law_kinds" 1 [] w__law_kinds) (h__law_drawn : Df P w G mg base "_law_drawn" 1 ["cell", "k"] w__law_drawn) {A : Around} {outer : List Env} {s : Shared} {H : Hp} {E : XK} (hr : Room 1 (A.deeper (envOfC "_law_some" (defScope (top 38)) s.heap.objs.size (He.ga G.K "_law_some") (.ref (He.codeOf G.K ("_law_some", none)))))) : PS (cxOf (L2N.CX P w) P w G.K mg base ["more", "kinds", "j", "kind"] "_law_some" (defScope (top 38)) (He.ga G.K "_law_some") (.ref (He.codeOf G.K ("_law_some", none))) A outer s H E) (nthS (defBody (top 38)) 0) (tS G E (gs__law_some_0 )) := by
  have S := sc__law_some
  have htD : L2N.Takes (cxOf (L2N.CX P w) P w G.K mg base ["more", "kinds", "j", "kind"] "_law_some" (defScope (top 38)) (He.ga G.K "_law_some") (.ref (He.codeOf G.K ("_law_some", none))) A outer s H E) fun cls d _ H => E cls d H := L2N.takes_of rfl rfl rfl rfl
  have hxD : Passes (L2N.CX P w) (cxOf (L2N.CX P w) P w G.K mg base ["more", "kinds", "j", "kind"] "_law_some" (defScope (top 38)) (He.ga G.K "_law_some") (.ref (He.codeOf G.K ("_law_some", none))) A outer s H E) E := L2N.passes_call htD (fun _ _ _ _ h => h)
  exact (s_setLc 1 (own := [("j", 2), ("kind", 3)]) rfl S.nd (blkOk_by rfl) (only_tup (onlys_cons (only_name (by decide)) (onlys_cons (only_name (by decide)) onlys_nil))) (i_enum m.f_enumerate (a_cons (e_callD0 h__law_kinds (hr.mono (by decide)) hxD) a_nil)) (fun _ _ _ _ _ => (g_tup rfl (gs_cons (g_name 2 S.nd) (gs_cons (g_name 3 S.nd) gs_nil)))) (fun _ _ _ _ _ => (ts_one (t_cmp (op_eqD (Nat.lt_of_succ_lt (u65 hr))) d_eq (e_op op_mod d_mod (e_callF h__law_drawn (hr.mono (by decide)) passB (a_cons (e_var 0) (a_cons (e_var 2) a_nil))) e_int) e_int rfl))) (fun _ _ _ _ _ => (e_var 3)))
theorem ok__law_some (m : Ms P w G mg base) (h__law_kinds : Df P w G mg base "_law_kinds" 1 [] w__law_kinds) (h__law_drawn : Df P w G mg base "_law_drawn" 1 ["cell", "k"] w__law_drawn) : Df P w G mg base "_law_some" 2 ["more"] w__law_some := by
  have S := sc__law_some
  delta w__law_some
  refine m.d__law_some.df (g := g__law_some) S rfl (fun fd Fd => Fd.bindsN fun _ _ _ _ _ _ us hl => match us, hl with | [_], _ => rfl) fun A outer s H E hr => ?_
  have htD : L2N.Takes (cxOf (L2N.CX P w) P w G.K mg base ["more", "kinds", "j", "kind"] "_law_some" (defScope (top 38)) (He.ga G.K "_law_some") (.ref (He.codeOf G.K ("_law_some", none))) A outer s H E) fun cls d _ H => E cls d H := L2N.takes_of rfl rfl rfl rfl
  have hxD : Passes (L2N.CX P w) (cxOf (L2N.CX P w) P w G.K mg base ["more", "kinds", "j", "kind"] "_law_some" (defScope (top 38)) (He.ga G.K "_law_some") (.ref (He.codeOf G.K ("_law_some", none))) A outer s H E) E := L2N.passes_call htD (fun _ _ _ _ h => h)
  exact (ss_cons (s__law_some_0 m h__law_kinds h__law_drawn hr) (ss_cons (s_if (t_cmp op_gt d_gt (e_op op_mod d_mod (e_var 0) e_int) e_int rfl) (ss_one (s_setLc 1 (own := [("kind", 3)]) rfl S.nd (blkOk_by rfl) (only_name (by decide)) (i_seq (e_var 1)) (fun _ _ _ _ _ => (g_name 3 S.nd)) (fun _ _ _ _ _ => (ts_one (t_cmp (op_notInAll (u65 hr)) d_notIn (e_var 3) (e_tup (a_cons e_str (a_cons e_str a_nil))) rfl))) (fun _ _ _ _ _ => (e_var 3)))) ss_nil) (ss_one (s_ret (e_if (t_cmp (op_neD (Nat.lt_of_succ_lt (u65 hr))) d_ne (e_var 1) (e_lst a_nil) rfl) (e_rev (e_var 1)) (e_lst (a_cons (e_ix (e_callD0 h__law_kinds (hr.mono (by decide)) hxD) (e_op op_mod d_mod (e_op op_fdivW d_div (e_var 0) e_int) e_int)) a_nil)))))))
theorem sc_law : FnScope ["script", "k", "more", "kinds", "rules", "rows", "j", "here", "one", "other", "unlike", "due", "goal", "like", "kept", "many", "bad", "some", "rule"] ["script"] (defScope (top 39)) := ⟨rfl, rfl, rfl, by decide +kernel, rfl, by decide +kernel, by decide +kernel⟩
variable [Hs] [HsOk P w]
theorem s_law_0 (m : Ms P w G mg base) (h__law_drawn : Df P w G mg base "_law_drawn" 1 ["cell", "k"] w__law_drawn) (h__law_cell : Df P w G mg base "_law_cell" 1 ["script", "k"] w__law_cell) (h__law_some : Df P w G mg base "_law_some" 2 ["more"] w__law_some) (h__law_rules : Df P w G mg base "_law_rules" 2 ["kinds"] w__law_rules) (h__law_row : Df P w G mg base "_law_row" 2 ["rule"] w__law_row) (h__law_rule : Df P w G mg base "_law_rule" 2 ["more"] w__law_rule) (h__law_cost : Df P w G mg base "_law_cost" 1 ["rule", "many"] w__law_cost) (h_parting : Df P w G mg base "parting" 4 ["one", "other"] w_parting) (h_is_alike : Df P w G mg base "is_alike" 5 ["one", "other"] w_is_alike) (h_alike_ones : Df P w G mg base "alike_ones" 4 ["kinds", "rule"] w_alike_ones) (h_many_unlike : Df P w G mg base "many_unlike" 4 ["kinds"] w_many_unlike) (h_tell : TellOk P w G mg base "_law_told" "_law_word" "BillError" 5 nm nm) {A : Around} {outer : List Env} {s : Shared} {H : Hp} {E : XK} (hr : Room 7 (A.deeper (envOfC "law" (defScope (top 39)) s.heap.objs.size (He.ga G.K "law") (.ref (He.codeOf G.K ("law", none)))))) : PS (cxOf (L2N.CX P w) P w G.K mg base ["script", "k", "more", "kinds", "rules", "rows", "j", "here", "one", "other", "unlike", "due", "goal", "like", "kept", "many", "bad", "some", "rule"] "law" (defScope (top 39)) (He.ga G.K "law") (.ref (He.codeOf G.K ("law", none))) A outer s H E) (nthS (bodyS (nthS (bodyS (nthS (defBody (top 39)) 0)) 4)) 2) (tS G E (gs_law_0 )) := by
  have S := sc_law
  have htD : L2N.Takes (cxOf (L2N.CX P w) P w G.K mg base ["script", "k", "more", "kinds", "rules", "rows", "j", "here", "one", "other", "unlike", "due", "goal", "like", "kept", "many", "bad", "some", "rule"] "law" (defScope (top 39)) (He.ga G.K "law") (.ref (He.codeOf G.K ("law", none))) A outer s H E) fun cls d _ H => E cls d H := L2N.takes_of rfl rfl rfl rfl
  have hxD : Passes (L2N.CX P w) (cxOf (L2N.CX P w) P w G.K mg base ["script", "k", "more", "kinds", "rules", "rows", "j", "here", "one", "other", "unlike", "due", "goal", "like", "kept", "many", "bad", "some", "rule"] "law" (defScope (top 39)) (He.ga G.K "law") (.ref (He.codeOf G.K ("law", none))) A outer s H E) E := L2N.passes_call htD (fun _ _ _ _ h => h)
  exact (s_set 9 S.nd (e_ix (e_lst (a_cons (e_callF h__law_rule (hr.mono (by decide)) hxD (a_cons (e_op op_fdivW d_div (e_var 7) (e_op op_pow d_pow e_int e_int)) a_nil)) (a_cons (e_ix (e_var 4) (e_op op_mod d_mod (e_op op_fdivW d_div (e_var 7) (e_op op_pow d_pow e_int e_int)) (e_len m.f_len (a_cons (e_var 4) a_nil)))) (a_cons (e_var 8) a_nil)))) (e_op op_mod d_mod (e_op op_fdivW d_div (e_var 7) e_int) e_int)))
theorem s_law_1 (m : Ms P w G mg base) (h__law_drawn : Df P w G mg base "_law_drawn" 1 ["cell", "k"] w__law_drawn) (h__law_cell : Df P w G mg base "_law_cell" 1 ["script", "k"] w__law_cell) (h__law_some : Df P w G mg base "_law_some" 2 ["more"] w__law_some) (h__law_rules : Df P w G mg base "_law_rules" 2 ["kinds"] w__law_rules) (h__law_row : Df P w G mg base "_law_row" 2 ["rule"] w__law_row) (h__law_rule : Df P w G mg base "_law_rule" 2 ["more"] w__law_rule) (h__law_cost : Df P w G mg base "_law_cost" 1 ["rule", "many"] w__law_cost) (h_parting : Df P w G mg base "parting" 4 ["one", "other"] w_parting) (h_is_alike : Df P w G mg base "is_alike" 5 ["one", "other"] w_is_alike) (h_alike_ones : Df P w G mg base "alike_ones" 4 ["kinds", "rule"] w_alike_ones) (h_many_unlike : Df P w G mg base "many_unlike" 4 ["kinds"] w_many_unlike) (h_tell : TellOk P w G mg base "_law_told" "_law_word" "BillError" 5 nm nm) {A : Around} {outer : List Env} {s : Shared} {H : Hp} {E : XK} (hr : Room 7 (A.deeper (envOfC "law" (defScope (top 39)) s.heap.objs.size (He.ga G.K "law") (.ref (He.codeOf G.K ("law", none)))))) : PS (cxOf (L2N.CX P w) P w G.K mg base ["script", "k", "more", "kinds", "rules", "rows", "j", "here", "one", "other", "unlike", "due", "goal", "like", "kept", "many", "bad", "some", "rule"] "law" (defScope (top 39)) (He.ga G.K "law") (.ref (He.codeOf G.K ("law", none))) A outer s H E) (nthS (bodyS (nthS (bodyS (nthS (defBody (top 39)) 0)) 4)) 3) (tS G E (gs_law_1 )) := by
  have S := sc_law
  exact (s_setLc 10 (own := [("many", 15)]) rfl S.nd (blkOk_by rfl) (only_name (by decide)) (i_range1 m.f_range (a_cons e_int a_nil)) (fun _ _ _ _ _ => (g_name 15 S.nd)) (fun _ _ _ _ _ => (ts_one (t_cmp (op_neD (Nat.lt_of_succ_lt (u65 hr))) d_ne (e_callF h__law_cost (hr.mono (by decide)) passB (a_cons (e_var 8) (a_cons (e_var 15) a_nil))) (e_callF h__law_cost (hr.mono (by decide)) passB (a_cons (e_var 9) (a_cons (e_var 15) a_nil))) rfl))) (fun _ _ _ _ _ => (e_var 15)))
theorem s_law_2 (m : Ms P w G mg base) (h__law_drawn : Df P w G mg base "_law_drawn" 1 ["cell", "k"] w__law_drawn) (h__law_cell : Df P w G mg base "_law_cell" 1 ["script", "k"] w__law_cell) (h__law_some : Df P w G mg base "_law_some" 2 ["more"] w__law_some) (h__law_rules : Df P w G mg base "_law_rules" 2 ["kinds"] w__law_rules) (h__law_row : Df P w G mg base "_law_row" 2 ["rule"] w__law_row) (h__law_rule : Df P w G mg base "_law_rule" 2 ["more"] w__law_rule) (h__law_cost : Df P w G mg base "_law_cost" 1 ["rule", "many"] w__law_cost) (h_parting : Df P w G mg base "parting" 4 ["one", "other"] w_parting) (h_is_alike : Df P w G mg base "is_alike" 5 ["one", "other"] w_is_alike) (h_alike_ones : Df P w G mg base "alike_ones" 4 ["kinds", "rule"] w_alike_ones) (h_many_unlike : Df P w G mg base "many_unlike" 4 ["kinds"] w_many_unlike) (h_tell : TellOk P w G mg base "_law_told" "_law_word" "BillError" 5 nm nm) {A : Around} {outer : List Env} {s : Shared} {H : Hp} {E : XK} (hr : Room 7 (A.deeper (envOfC "law" (defScope (top 39)) s.heap.objs.size (He.ga G.K "law") (.ref (He.codeOf G.K ("law", none)))))) : PS (cxOf (L2N.CX P w) P w G.K mg base ["script", "k", "more", "kinds", "rules", "rows", "j", "here", "one", "other", "unlike", "due", "goal", "like", "kept", "many", "bad", "some", "rule"] "law" (defScope (top 39)) (He.ga G.K "law") (.ref (He.codeOf G.K ("law", none))) A outer s H E) (nthS (bodyS (nthS (bodyS (nthS (defBody (top 39)) 0)) 4)) 5) (tS G E (gs_law_2 )) := by
  have S := sc_law
  have htD : L2N.Takes (cxOf (L2N.CX P w) P w G.K mg base ["script", "k", "more", "kinds", "rules", "rows", "j", "here", "one", "other", "unlike", "due", "goal", "like", "kept", "many", "bad", "some", "rule"] "law" (defScope (top 39)) (He.ga G.K "law") (.ref (He.codeOf G.K ("law", none))) A outer s H E) fun cls d _ H => E cls d H := L2N.takes_of rfl rfl rfl rfl
  have hxD : Passes (L2N.CX P w) (cxOf (L2N.CX P w) P w G.K mg base ["script", "k", "more", "kinds", "rules", "rows", "j", "here", "one", "other", "unlike", "due", "goal", "like", "kept", "many", "bad", "some", "rule"] "law" (defScope (top 39)) (He.ga G.K "law") (.ref (He.codeOf G.K ("law", none))) A outer s H E) E := L2N.passes_call htD (fun _ _ _ _ h => h)
  exact (s_if (PW.pt (w_or (t_cmp (op_neD (Nat.lt_of_succ_lt (u65 hr))) d_ne (e_callF h_parting (hr.mono (by decide)) hxD (a_cons (e_var 8) (a_cons (e_var 9) a_nil))) (e_var 11) rfl) (w_or (t_cmp (op_neD (Nat.lt_of_succ_lt (u65 hr))) d_ne (e_callF h_parting (hr.mono (by decide)) hxD (a_cons (e_var 9) (a_cons (e_var 8) a_nil))) (e_var 11) rfl) (w_or1 (t_cmp (op_neD (Nat.lt_of_succ_lt (u65 hr))) d_ne (e_callF h_is_alike (hr.mono (by decide)) hxD (a_cons (e_var 8) (a_cons (e_var 9) a_nil))) (e_cmp op_isN d_is (e_var 11) e_none rfl) rfl))))) (ss_one (s_ret e_bl)) ss_nil)
theorem s_law_3 (m : Ms P w G mg base) (h__law_drawn : Df P w G mg base "_law_drawn" 1 ["cell", "k"] w__law_drawn) (h__law_cell : Df P w G mg base "_law_cell" 1 ["script", "k"] w__law_cell) (h__law_some : Df P w G mg base "_law_some" 2 ["more"] w__law_some) (h__law_rules : Df P w G mg base "_law_rules" 2 ["kinds"] w__law_rules) (h__law_row : Df P w G mg base "_law_row" 2 ["rule"] w__law_row) (h__law_rule : Df P w G mg base "_law_rule" 2 ["more"] w__law_rule) (h__law_cost : Df P w G mg base "_law_cost" 1 ["rule", "many"] w__law_cost) (h_parting : Df P w G mg base "parting" 4 ["one", "other"] w_parting) (h_is_alike : Df P w G mg base "is_alike" 5 ["one", "other"] w_is_alike) (h_alike_ones : Df P w G mg base "alike_ones" 4 ["kinds", "rule"] w_alike_ones) (h_many_unlike : Df P w G mg base "many_unlike" 4 ["kinds"] w_many_unlike) (h_tell : TellOk P w G mg base "_law_told" "_law_word" "BillError" 5 nm nm) {A : Around} {outer : List Env} {s : Shared} {H : Hp} {E : XK} (hr : Room 7 (A.deeper (envOfC "law" (defScope (top 39)) s.heap.objs.size (He.ga G.K "law") (.ref (He.codeOf G.K ("law", none)))))) : PS (cxOf (L2N.CX P w) P w G.K mg base ["script", "k", "more", "kinds", "rules", "rows", "j", "here", "one", "other", "unlike", "due", "goal", "like", "kept", "many", "bad", "some", "rule"] "law" (defScope (top 39)) (He.ga G.K "law") (.ref (He.codeOf G.K ("law", none))) A outer s H E) (nthS (bodyS (nthS (defBody (top 39)) 0)) 4) (tS G E (gs_law_3 )) := by
  have S := sc_law
  have htD : L2N.Takes (cxOf (L2N.CX P w) P w G.K mg base ["script", "k", "more", "kinds", "rules", "rows", "j", "here", "one", "other", "unlike", "due", "goal", "like", "kept", "many", "bad", "some", "rule"] "law" (defScope (top 39)) (He.ga G.K "law") (.ref (He.codeOf G.K ("law", none))) A outer s H E) fun cls d _ H => E cls d H := L2N.takes_of rfl rfl rfl rfl
  have hxD : Passes (L2N.CX P w) (cxOf (L2N.CX P w) P w G.K mg base ["script", "k", "more", "kinds", "rules", "rows", "j", "here", "one", "other", "unlike", "due", "goal", "like", "kept", "many", "bad", "some", "rule"] "law" (defScope (top 39)) (He.ga G.K "law") (.ref (He.codeOf G.K ("law", none))) A outer s H E) E := L2N.passes_call htD (fun _ _ _ _ h => h)
  exact (s_for (passes_of rfl) rfl (i_range1 m.f_range (a_cons e_int a_nil)) (g_name 6 S.nd) (ss_cons (s_set 7 S.nd (e_callF h__law_drawn (hr.mono (by decide)) hxD (a_cons (e_var 2) (a_cons (e_op op_addAll d_add e_int (e_var 6)) a_nil)))) (ss_cons (s_set 8 S.nd (e_ix (e_var 4) (e_op op_mod d_mod (e_var 7) (e_len m.f_len (a_cons (e_var 4) a_nil))))) (ss_cons (s_law_0 m h__law_drawn h__law_cell h__law_some h__law_rules h__law_row h__law_rule h__law_cost h_parting h_is_alike h_alike_ones h_many_unlike h_tell hr) (ss_cons (s_law_1 m h__law_drawn h__law_cell h__law_some h__law_rules h__law_row h__law_rule h__law_cost h_parting h_is_alike h_alike_ones h_many_unlike h_tell hr) (ss_cons (s_set 11 S.nd (e_if (t_cmp (op_neD (Nat.lt_of_succ_lt (u65 hr))) d_ne (e_var 10) (e_lst a_nil) rfl) (e_ix (e_var 10) e_int) e_none)) (ss_cons (s_law_2 m h__law_drawn h__law_cell h__law_some h__law_rules h__law_row h__law_rule h__law_cost h_parting h_is_alike h_alike_ones h_many_unlike h_tell hr) (ss_cons (s_set 12 S.nd (e_callF h__law_row (hr.mono (by decide)) hxD (a_cons (e_var 9) a_nil))) (ss_cons (s_setLc 13 (own := [("rule", 18)]) rfl S.nd (blkOk_by rfl) (only_name (by decide)) (i_seq (e_var 4)) (fun _ _ _ _ _ => (g_name 18 S.nd)) (fun _ _ _ _ _ => (ts_one (t_cmp (op_eqD (Nat.lt_of_succ_lt (u65 hr))) d_eq (e_tab 5 (HsOk.ok (P := P) (w := w)) (u65 hr) (e_var 18)) (e_var 12) rfl))) (fun _ _ _ _ _ => (e_var 18))) (ss_one (s_if (PW.pt (w_and (t_cmp op_lt d_lt (e_var 6) e_int rfl) (w_and1 (t_cmp (op_neD (Nat.lt_of_succ_lt (u65 hr))) d_ne (e_callF h_alike_ones (hr.mono (by decide)) hxD (a_cons (e_var 3) (a_cons (e_var 9) a_nil))) (e_var 13) rfl)))) (ss_one (s_ret e_bl)) ss_nil)))))))))))
theorem s_law_4 (m : Ms P w G mg base) (h__law_drawn : Df P w G mg base "_law_drawn" 1 ["cell", "k"] w__law_drawn) (h__law_cell : Df P w G mg base "_law_cell" 1 ["script", "k"] w__law_cell) (h__law_some : Df P w G mg base "_law_some" 2 ["more"] w__law_some) (h__law_rules : Df P w G mg base "_law_rules" 2 ["kinds"] w__law_rules) (h__law_row : Df P w G mg base "_law_row" 2 ["rule"] w__law_row) (h__law_rule : Df P w G mg base "_law_rule" 2 ["more"] w__law_rule) (h__law_cost : Df P w G mg base "_law_cost" 1 ["rule", "many"] w__law_cost) (h_parting : Df P w G mg base "parting" 4 ["one", "other"] w_parting) (h_is_alike : Df P w G mg base "is_alike" 5 ["one", "other"] w_is_alike) (h_alike_ones : Df P w G mg base "alike_ones" 4 ["kinds", "rule"] w_alike_ones) (h_many_unlike : Df P w G mg base "many_unlike" 4 ["kinds"] w_many_unlike) (h_tell : TellOk P w G mg base "_law_told" "_law_word" "BillError" 5 nm nm) {A : Around} {outer : List Env} {s : Shared} {H : Hp} {E : XK} (hr : Room 7 (A.deeper (envOfC "law" (defScope (top 39)) s.heap.objs.size (He.ga G.K "law") (.ref (He.codeOf G.K ("law", none)))))) : PS (cxOf (L2N.CX P w) P w G.K mg base ["script", "k", "more", "kinds", "rules", "rows", "j", "here", "one", "other", "unlike", "due", "goal", "like", "kept", "many", "bad", "some", "rule"] "law" (defScope (top 39)) (He.ga G.K "law") (.ref (He.codeOf G.K ("law", none))) A outer s H E) (nthS (bodyS (nthS (defBody (top 39)) 0)) 8) (tS G E (gs_law_4 )) := by
  have S := sc_law
  exact (s_for (passes_of rfl) rfl (i_seq (e_lst (a_cons e_none (a_cons (e_tup a_nil) (a_cons (e_tup (a_cons e_str a_nil)) (a_cons (e_tup (a_cons e_str (a_cons e_int a_nil))) (a_cons (e_lst (a_cons e_str (a_cons e_int a_nil))) a_nil))))))) (g_name 16 S.nd) (ss_cons (s_own 17 S.nd (a_cons (e_tell h_tell m.tb_law rfl (m.tm_law) (m.tu_law) (hr.mono (by decide)) (lamS_by rfl) (fun A outer s H E f c' hr hxL => (e_callF h_parting (hr.mono (by decide)) hxL (a_cons (e_var 8) (a_cons (e_var 16) a_nil))))) a_nil)) (ss_cons (s_app 17 (e_tell h_tell m.tb_law rfl (m.tm_law) (m.tu_law) (hr.mono (by decide)) (lamS_by rfl) (fun A outer s H E f c' hr hxL => (e_callF h_parting (hr.mono (by decide)) hxL (a_cons (e_var 16) (a_cons (e_var 8) a_nil))))) (h := fun ho ha => pe_bm PySem.F.plainAttrs_list PySem.F.slot_list_append PySem.F.type_list_append mt_append ho (pa_cons ha pa_nil))) (ss_cons (s_app 17 (e_tell h_tell m.tb_law rfl (m.tm_law) (m.tu_law) (hr.mono (by decide)) (lamS_by rfl) (fun A outer s H E f c' hr hxL => (e_callF h_is_alike (hr.mono (by decide)) hxL (a_cons (e_var 8) (a_cons (e_var 16) a_nil))))) (h := fun ho ha => pe_bm PySem.F.plainAttrs_list PySem.F.slot_list_append PySem.F.type_list_append mt_append ho (pa_cons ha pa_nil))) (ss_cons (s_app 17 (e_tell h_tell m.tb_law rfl (m.tm_law) (m.tu_law) (hr.mono (by decide)) (lamS_by rfl) (fun A outer s H E f c' hr hxL => (e_callF h_alike_ones (hr.mono (by decide)) hxL (a_cons (e_var 3) (a_cons (e_var 16) a_nil))))) (h := fun ho ha => pe_bm PySem.F.plainAttrs_list PySem.F.slot_list_append PySem.F.type_list_append mt_append ho (pa_cons ha pa_nil))) (ss_cons (s_app 17 (e_tell h_tell m.tb_law rfl (m.tm_law) (m.tu_law) (hr.mono (by decide)) (lamS_by rfl) (fun A outer s H E f c' hr hxL => (e_callF h_alike_ones (hr.mono (by decide)) hxL (a_cons (e_lst (a_cons (e_var 16) a_nil)) (a_cons (e_var 8) a_nil))))) (h := fun ho ha => pe_bm PySem.F.plainAttrs_list PySem.F.slot_list_append PySem.F.type_list_append mt_append ho (pa_cons ha pa_nil))) (ss_cons (s_app 17 (e_tell h_tell m.tb_law rfl (m.tm_law) (m.tu_law) (hr.mono (by decide)) (lamS_by rfl) (fun A outer s H E f c' hr hxL => (e_callF h_many_unlike (hr.mono (by decide)) hxL (a_cons (e_lst (a_cons (e_var 16) a_nil)) a_nil)))) (h := fun ho ha => pe_bm PySem.F.plainAttrs_list PySem.F.slot_list_append PySem.F.type_list_append mt_append ho (pa_cons ha pa_nil))) (ss_one (s_fz [17] (s_if (t_cmp (op_neD (Nat.lt_of_succ_lt (u65 hr))) d_ne (e_var 17) (e_op op_mulAll d_mul (e_lst (a_cons e_str a_nil)) e_int) rfl) (ss_one (s_ret e_bl)) ss_nil))))))))))
theorem s_law_5 (m : Ms P w G mg base) (h__law_drawn : Df P w G mg base "_law_drawn" 1 ["cell", "k"] w__law_drawn) (h__law_cell : Df P w G mg base "_law_cell" 1 ["script", "k"] w__law_cell) (h__law_some : Df P w G mg base "_law_some" 2 ["more"] w__law_some) (h__law_rules : Df P w G mg base "_law_rules" 2 ["kinds"] w__law_rules) (h__law_row : Df P w G mg base "_law_row" 2 ["rule"] w__law_row) (h__law_rule : Df P w G mg base "_law_rule" 2 ["more"] w__law_rule) (h__law_cost : Df P w G mg base "_law_cost" 1 ["rule", "many"] w__law_cost) (h_parting : Df P w G mg base "parting" 4 ["one", "other"] w_parting) (h_is_alike : Df P w G mg base "is_alike" 5 ["one", "other"] w_is_alike) (h_alike_ones : Df P w G mg base "alike_ones" 4 ["kinds", "rule"] w_alike_ones) (h_many_unlike : Df P w G mg base "many_unlike" 4 ["kinds"] w_many_unlike) (h_tell : TellOk P w G mg base "_law_told" "_law_word" "BillError" 5 nm nm) {A : Around} {outer : List Env} {s : Shared} {H : Hp} {E : XK} (hr : Room 7 (A.deeper (envOfC "law" (defScope (top 39)) s.heap.objs.size (He.ga G.K "law") (.ref (He.codeOf G.K ("law", none)))))) : PS (cxOf (L2N.CX P w) P w G.K mg base ["script", "k", "more", "kinds", "rules", "rows", "j", "here", "one", "other", "unlike", "due", "goal", "like", "kept", "many", "bad", "some", "rule"] "law" (defScope (top 39)) (He.ga G.K "law") (.ref (He.codeOf G.K ("law", none))) A outer s H E) (nthS (defBody (top 39)) 0) (tS G E (gs_law_5 )) := by
  have S := sc_law
  have htD : L2N.Takes (cxOf (L2N.CX P w) P w G.K mg base ["script", "k", "more", "kinds", "rules", "rows", "j", "here", "one", "other", "unlike", "due", "goal", "like", "kept", "many", "bad", "some", "rule"] "law" (defScope (top 39)) (He.ga G.K "law") (.ref (He.codeOf G.K ("law", none))) A outer s H E) fun cls d _ H => E cls d H := L2N.takes_of rfl rfl rfl rfl
  have hxD : Passes (L2N.CX P w) (cxOf (L2N.CX P w) P w G.K mg base ["script", "k", "more", "kinds", "rules", "rows", "j", "here", "one", "other", "unlike", "due", "goal", "like", "kept", "many", "bad", "some", "rule"] "law" (defScope (top 39)) (He.ga G.K "law") (.ref (He.codeOf G.K ("law", none))) A outer s H E) E := L2N.passes_call htD (fun _ _ _ _ h => h)
  exact (s_for (passes_of rfl) rfl (i_range1 m.f_range (a_cons (e_max rfl m.f_max (a_cons e_int (a_cons (e_min rfl m.f_min (a_cons e_int (a_cons (e_len m.f_len (a_cons (e_var 0) a_nil)) a_nil))) a_nil))) a_nil)) (g_name 1 S.nd) (ss_cons (s_set 2 S.nd (e_callF h__law_drawn (hr.mono (by decide)) hxD (a_cons (e_callF h__law_cell (hr.mono (by decide)) hxD (a_cons (e_var 0) (a_cons (e_var 1) a_nil))) (a_cons (e_var 1) a_nil)))) (ss_cons (s_set 3 S.nd (e_callF h__law_some (hr.mono (by decide)) hxD (a_cons (e_op op_fdivW d_div (e_var 2) e_int) a_nil))) (ss_cons (s_set 4 S.nd (e_callF h__law_rules (hr.mono (by decide)) hxD (a_cons (e_var 3) a_nil))) (ss_cons (s_tab 5 S.nd (HsOk.ok (P := P) (w := w)) rfl (u65 hr) m.f_dict (a_cons (e_lc (own := [("rule", 18)]) rfl S.nd (blkOk_by rfl) (only_name (by decide)) (i_seq (e_var 4)) (fun _ _ _ _ _ => (g_name 18 S.nd)) (fun _ _ _ _ _ => ts_nil) (fun _ _ _ _ _ => (e_tup (a_cons (e_var 18) (a_cons (e_callF h__law_row (hr.mono (by decide)) passB (a_cons (e_var 18) a_nil)) a_nil))))) a_nil)) (ss_cons (s_law_3 m h__law_drawn h__law_cell h__law_some h__law_rules h__law_row h__law_rule h__law_cost h_parting h_is_alike h_alike_ones h_many_unlike h_tell hr) (ss_cons (s_set 14 S.nd (e_list m.f_list (a_cons (e_var 3) a_nil))) (ss_cons (s_set 15 S.nd (e_lenSetT rfl (u65 hr) m.f_len m.f_set (e_lc (own := [("rule", 18)]) rfl S.nd (blkOk_by rfl) (only_name (by decide)) (i_seq (e_var 4)) (fun _ _ _ _ _ => (g_name 18 S.nd)) (fun _ _ _ _ _ => ts_nil) (fun _ _ _ _ _ => (e_tuple m.f_tuple (a_cons (e_tab 5 (HsOk.ok (P := P) (w := w)) (u65 hr) (e_var 18)) a_nil)))))) (ss_cons (s_if (PW.pt (w_or (t_cmp (op_neD (Nat.lt_of_succ_lt (u65 hr))) d_ne (e_callF h_many_unlike (hr.mono (by decide)) hxD (a_cons (e_var 3) a_nil)) (e_var 15) rfl) (w_or1 (t_cmp (op_neD (Nat.lt_of_succ_lt (u65 hr))) d_ne (e_var 3) (e_var 14) rfl)))) (ss_one (s_ret e_bl)) ss_nil) (ss_one (s_law_4 m h__law_drawn h__law_cell h__law_some h__law_rules h__law_row h__law_rule h__law_cost h_parting h_is_alike h_alike_ones h_many_unlike h_tell hr)))))))))))
theorem ok_law {fd : FuncData} (Fd : FunD G.K "law" "law" (defArgs (top 39)) (defBody (top 39)) (defScope (top 39)) [] [] (He.ga G.K "law") fd) (m : Ms P w G mg base) (h__law_drawn : Df P w G mg base "_law_drawn" 1 ["cell", "k"] w__law_drawn) (h__law_cell : Df P w G mg base "_law_cell" 1 ["script", "k"] w__law_cell) (h__law_some : Df P w G mg base "_law_some" 2 ["more"] w__law_some) (h__law_rules : Df P w G mg base "_law_rules" 2 ["kinds"] w__law_rules) (h__law_row : Df P w G mg base "_law_row" 2 ["rule"] w__law_row) (h__law_rule : Df P w G mg base "_law_rule" 2 ["more"] w__law_rule) (h__law_cost : Df P w G mg base "_law_cost" 1 ["rule", "many"] w__law_cost) (h_parting : Df P w G mg base "parting" 4 ["one", "other"] w_parting) (h_is_alike : Df P w G mg base "is_alike" 5 ["one", "other"] w_is_alike) (h_alike_ones : Df P w G mg base "alike_ones" 4 ["kinds", "rule"] w_alike_ones) (h_many_unlike : Df P w G mg base "many_unlike" 4 ["kinds"] w_many_unlike) (h_tell : TellOk P w G mg base "_law_told" "_law_word" "BillError" 5 nm nm) : FnOk P w G.K mg base (L2N.CX P w) 8 (He.ga G.K "law") fd ["script"] (spD G 1 (w_law)) := by
  have S := sc_law
  delta w_law
  refine DefAt.fk (g := g_law) (ps := ["script"]) Fd S rfl fun A outer s H E hr => ?_
  exact (ss_cons (s_law_5 m h__law_drawn h__law_cell h__law_some h__law_rules h__law_row h__law_rule h__law_cost h_parting h_is_alike h_alike_ones h_many_unlike h_tell hr) (ss_one (s_ret e_bl)))
theorem all_law (hw : ∀ er a, fin (g__law_word er a (.raw (.ref a) :: List.replicate 2 .no)) = .ok (.str (nm er))) {fd : FuncData} (Fd : FunD G.K "law" "law" (defArgs (top 39)) (defBody (top 39)) (defScope (top 39)) [] [] (He.ga G.K "law") fd) (m : Ms P w G mg base) : FnOk P w G.K mg base (L2N.CX P w) 8 (He.ga G.K "law") fd ["script"] (spD G 1 (w_law)) := by
  have hW5 : WordOk P w G mg base "_law_word" 5 nm := (ok__law_word m hw).mono (by decide)
  have h_tell5 : TellOk P w G mg base "_law_told" "_law_word" "BillError" 5 nm nm := by
    obtain ⟨fd, Fd⟩ := m.d__law_told.ex
    exact ⟨hW5, He.ga G.K "_law_told", He.ga G.K "BillError", defArgs (top 31), defScope (top 31), [], fd, _, _, _, _, _, _, _, _, _, _, default, m.x, m.xe, m.d__law_told.gl, Fd.bindsN fun _ _ _ _ _ _ us hl => match us, hl with | [_], _ => rfl, ⟨rfl, rfl, rfl, by decide +kernel, rfl, by decide +kernel, by decide +kernel⟩, rfl, rfl, rfl, rfl, by decide, by decide, Fd⟩
  have h__law_drawn := ok__law_drawn m 
  have h__law_cell := ok__law_cell m 
  have h__law_kinds := ok__law_kinds m 
  have h__law_some := ok__law_some m h__law_kinds h__law_drawn
  have h__law_bounds := ok__law_bounds m 
  have h__law_rules := ok__law_rules m h__law_bounds
  have h__law_cost := ok__law_cost m 
  have h__law_row := ok__law_row m h__law_cost
  have h__law_rule := ok__law_rule m h__law_kinds h__law_drawn h__law_bounds
  have h_is_count := ok_is_count m 
  have h_is_rule := ok_is_rule m h_is_count
  have h_need_rule := ok_need_rule m h_is_rule
  have h_price := ok_price m 
  have h_row_of := ok_row_of m h_price
  have h_parting := ok_parting m h_need_rule h_row_of
  have h_is_alike := ok_is_alike m h_parting
  have h_need_kind := ok_need_kind m 
  have h_need_kinds := ok_need_kinds m h_need_kind
  have h_rules_of := ok_rules_of m 
  have h_all_rules := ok_all_rules m h_rules_of
  have h_alike_ones := ok_alike_ones m h_need_kinds h_need_rule h_row_of h_all_rules
  have h_groups := ok_groups m h_row_of h_price
  have h_many_unlike := ok_many_unlike m h_need_kinds h_groups h_all_rules
  exact ok_law Fd m h__law_drawn h__law_cell h__law_some h__law_rules h__law_row h__law_rule h__law_cost h_parting h_is_alike h_alike_ones h_many_unlike h_tell5
end
end Py

namespace Py
open PySem PySem.Spec PyProof.Rows L2 LamX

/-! ### the head -/
def fnL : List He.DefD := [⟨("is_count", none), "is_count", "is_count", defArgs (top 12), defBody (top 12), defScope (top 12), [], []⟩, ⟨("need_kind", none), "need_kind", "need_kind", defArgs (top 13), defBody (top 13), defScope (top 13), [], []⟩, ⟨("is_rule", none), "is_rule", "is_rule", defArgs (top 14), defBody (top 14), defScope (top 14), [], []⟩, ⟨("need_rule", none), "need_rule", "need_rule", defArgs (top 15), defBody (top 15), defScope (top 15), [], []⟩, ⟨("price", none), "price", "price", defArgs (top 16), defBody (top 16), defScope (top 16), [], []⟩, ⟨("rules_of", none), "rules_of", "rules_of", defArgs (top 17), defBody (top 17), defScope (top 17), [], []⟩, ⟨("all_rules", none), "all_rules", "all_rules", defArgs (top 18), defBody (top 18), defScope (top 18), [], []⟩, ⟨("need_kinds", none), "need_kinds", "need_kinds", defArgs (top 19), defBody (top 19), defScope (top 19), [], []⟩, ⟨("row_of", none), "row_of", "row_of", defArgs (top 21), defBody (top 21), defScope (top 21), [], []⟩, ⟨("parting", none), "parting", "parting", defArgs (top 22), defBody (top 22), defScope (top 22), [], []⟩, ⟨("is_alike", none), "is_alike", "is_alike", defArgs (top 23), defBody (top 23), defScope (top 23), [], []⟩, ⟨("groups", none), "groups", "groups", defArgs (top 24), defBody (top 24), defScope (top 24), [], []⟩, ⟨("alike_ones", none), "alike_ones", "alike_ones", defArgs (top 25), defBody (top 25), defScope (top 25), [], []⟩, ⟨("many_unlike", none), "many_unlike", "many_unlike", defArgs (top 26), defBody (top 26), defScope (top 26), [], []⟩, ⟨("_law_cell", none), "_law_cell", "_law_cell", defArgs (top 28), defBody (top 28), defScope (top 28), [], []⟩, ⟨("_law_drawn", none), "_law_drawn", "_law_drawn", defArgs (top 29), defBody (top 29), defScope (top 29), [], []⟩, ⟨("_law_word", none), "_law_word", "_law_word", defArgs (top 30), defBody (top 30), defScope (top 30), [], []⟩, ⟨("_law_told", none), "_law_told", "_law_told", defArgs (top 31), defBody (top 31), defScope (top 31), [], []⟩, ⟨("_law_bounds", none), "_law_bounds", "_law_bounds", defArgs (top 32), defBody (top 32), defScope (top 32), [], []⟩, ⟨("_law_kinds", none), "_law_kinds", "_law_kinds", defArgs (top 33), defBody (top 33), defScope (top 33), [], []⟩, ⟨("_law_rule", none), "_law_rule", "_law_rule", defArgs (top 34), defBody (top 34), defScope (top 34), [], []⟩, ⟨("_law_cost", none), "_law_cost", "_law_cost", defArgs (top 35), defBody (top 35), defScope (top 35), [], []⟩, ⟨("_law_row", none), "_law_row", "_law_row", defArgs (top 36), defBody (top 36), defScope (top 36), [], []⟩, ⟨("_law_rules", none), "_law_rules", "_law_rules", defArgs (top 37), defBody (top 37), defScope (top 37), [], []⟩, ⟨("_law_some", none), "_law_some", "_law_some", defArgs (top 38), defBody (top 38), defScope (top 38), [], []⟩, ⟨("law", none), "law", "law", defArgs (top 39), defBody (top 39), defScope (top 39), [], []⟩]
def faL0 : List He.Fa := [.glo "is_count", .glo "need_kind", .glo "is_rule", .glo "need_rule", .glo "price", .glo "rules_of", .glo "all_rules", .glo "need_kinds", .glo "row_of", .glo "parting", .glo "is_alike", .glo "groups", .glo "alike_ones", .glo "many_unlike", .glo "_law_cell", .glo "_law_drawn", .glo "_law_word", .glo "_law_told", .glo "_law_bounds", .glo "_law_kinds", .glo "_law_rule", .glo "_law_cost", .glo "_law_row", .glo "_law_rules", .glo "_law_some", .glo "law", .glo "BillError", .glo "BadRule", .glo "BadBill", .glo "NoRule"]
def faL1 : List He.Fa := [.glo "BadText", .glo "BOUNDS", .glo "KINDS", .exc "BadRule", .exc "BadBill", .exc "NoRule", .exc "BadText", .exm "BadRule" "BillError" true, .exm "BadBill" "BillError" true, .exm "NoRule" "BillError" true, .exm "BadText" "BillError" true, .int "MOST_MANY" 20, .free "ValueError", .free "all", .free "bool", .free "dict", .free "enumerate", .free "int", .free "isinstance", .free "len", .free "list", .free "max", .free "min", .free "range", .free "set", .free "sorted", .free "str", .free "sum", .free "tuple", .free "zip"]
def faL : List He.Fa := faL0 ++ faL1
def xsL : List Str := ["BadRule", "BadBill", "NoRule", "BadText"]
def tsL : List He.Tab := [(fun K => He.ga K "BOUNDS", ["flat", "each", "base", "from", "packs", "gift", "least", "most", "off"])]
def tfL : List He.Defn := [("law", none)]
def exL (K : PySem.W.Frag) : Bool := tabB K (He.ga K "BOUNDS") T_BOUNDS && (gloB K "KINDS" (.tuple [.str "flat", .str "each", .str "base", .str "from", .str "packs", .str "gift", .str "least", .str "most", .str "off"]) && (xsB K xsL))
abbrev RR : PySem.W.OpenRow := PySem.W.OpenLaw.row PySem.Challenge.rw_billrules_k20_whole_alike
abbrev hk : PySem.W.Hook := He.hookX 6 faL fnL tsL tfL exL
def ob (s : PySem.W.SharedT) : He.AlX := He.obsX 6 faL fnL tsL tfL exL (HandSHeadRun.getT s)
theorem ob_eq (s : PySem.W.SharedT) : ob s = hk.obs s.abs := He.obsX_eq (HandSHeadRun.getT_eq s)
def lsL0 : List Str := ["BillError", "BadRule", "BadBill", "NoRule", "BadText", "MOST_MANY", "COST", "COUNT", "BOUNDS", "KINDS", "is_count", "need_kind", "is_rule", "need_rule", "price", "rules_of", "all_rules", "need_kinds", "row_of", "parting", "is_alike", "groups", "alike_ones", "many_unlike", "_law_cell", "_law_drawn", "_law_word", "_law_told", "_law_bounds", "_law_kinds"]
def lsL1 : List Str := ["_law_rule", "_law_cost", "_law_row", "_law_rules", "_law_some"]
def lsL : List Str := lsL0 ++ lsL1
theorem run_f (w : World) : HandSHeadRun.RunEq RR (PySem.W.view RR.prog [39]) hk ob 12000 lsL (w.withFollow "special-get-raises" false) := by
  intro os
  kernel_rfl
theorem run_t (w : World) : HandSHeadRun.RunEq RR (PySem.W.view RR.prog [39]) hk ob 12000 lsL (w.withFollow "special-get-raises" true) := by
  intro os
  kernel_rfl
theorem run_eq (w : World) : HandSHeadRun.RunEq RR (PySem.W.view RR.prog [39]) hk ob 12000 lsL w := PySem.W.byRow2 "special-get-raises" (P := fun w => HandSHeadRun.RunEq RR (PySem.W.view RR.prog [39]) hk ob 12000 lsL w) run_f run_t w
end Py

namespace Py
open PySem PySem.Spec PyProof.Rows L2 LamX

/-! ### the join -/
abbrev gb (K : PySem.W.Frag) : Gb := ⟨K, fun er => He.ga K (nm er), tfL.map fun p => ((He.cT K p).2, lq p.1)⟩
theorem facts {w : World} {K : PySem.W.Frag} {h : Heap} {mg : Str → Option Value} (KX : K.In h) (N : h.Ns mainGlobals mg) (c : He.SaysX faL fnL tsL tfL exL w h K) (P : Program) (base : Heap) (hT : ∀ p ∈ tfL, TabB base mg (He.cT K p).1 (He.cT K p).2) : Ms P w (gb K) mg base := by
  have cd := c.t.d
  have hm := c.more
  obtain ⟨q_BOUNDS, hm⟩ := He.ba hm
  obtain ⟨q_KINDS, hm⟩ := He.ba hm
  exact {
    t_BOUNDS := ⟨He.glo_ok KX N (cd.fact 31 (f := .glo "BOUNDS") rfl), tabB_ok (c.t.tab 0) q_BOUNDS⟩,
    g_KINDS := ⟨He.glo_ok KX N (cd.fact 32 (f := .glo "KINDS") rfl), gloB_ok q_KINDS⟩,
    g_MOST_MANY := He.int_ok KX N (cd.fact 41 (f := .int "MOST_MANY" 20) rfl),
    f_ValueError := He.free_ok KX N (cd.fact 42 (f := .free "ValueError") rfl),
    f_all := He.free_ok KX N (cd.fact 43 (f := .free "all") rfl),
    f_bool := He.free_ok KX N (cd.fact 44 (f := .free "bool") rfl),
    f_dict := He.free_ok KX N (cd.fact 45 (f := .free "dict") rfl),
    f_enumerate := He.free_ok KX N (cd.fact 46 (f := .free "enumerate") rfl),
    f_int := He.free_ok KX N (cd.fact 47 (f := .free "int") rfl),
    f_isinstance := He.free_ok KX N (cd.fact 48 (f := .free "isinstance") rfl),
    f_len := He.free_ok KX N (cd.fact 49 (f := .free "len") rfl),
    f_list := He.free_ok KX N (cd.fact 50 (f := .free "list") rfl),
    f_max := He.free_ok KX N (cd.fact 51 (f := .free "max") rfl),
    f_min := He.free_ok KX N (cd.fact 52 (f := .free "min") rfl),
    f_range := He.free_ok KX N (cd.fact 53 (f := .free "range") rfl),
    f_set := He.free_ok KX N (cd.fact 54 (f := .free "set") rfl),
    f_sorted := He.free_ok KX N (cd.fact 55 (f := .free "sorted") rfl),
    f_str := He.free_ok KX N (cd.fact 56 (f := .free "str") rfl),
    f_sum := He.free_ok KX N (cd.fact 57 (f := .free "sum") rfl),
    f_tuple := He.free_ok KX N (cd.fact 58 (f := .free "tuple") rfl),
    f_zip := He.free_ok KX N (cd.fact 59 (f := .free "zip") rfl),
    d_is_count := ⟨cd.def_ 0 (d := ⟨("is_count", none), "is_count", "is_count", defArgs (top 12), defBody (top 12), defScope (top 12), [], []⟩) rfl, He.glo_ok KX N (cd.fact 0 (f := .glo "is_count") rfl)⟩,
    d_need_kind := ⟨cd.def_ 1 (d := ⟨("need_kind", none), "need_kind", "need_kind", defArgs (top 13), defBody (top 13), defScope (top 13), [], []⟩) rfl, He.glo_ok KX N (cd.fact 1 (f := .glo "need_kind") rfl)⟩,
    d_is_rule := ⟨cd.def_ 2 (d := ⟨("is_rule", none), "is_rule", "is_rule", defArgs (top 14), defBody (top 14), defScope (top 14), [], []⟩) rfl, He.glo_ok KX N (cd.fact 2 (f := .glo "is_rule") rfl)⟩,
    d_need_rule := ⟨cd.def_ 3 (d := ⟨("need_rule", none), "need_rule", "need_rule", defArgs (top 15), defBody (top 15), defScope (top 15), [], []⟩) rfl, He.glo_ok KX N (cd.fact 3 (f := .glo "need_rule") rfl)⟩,
    d_price := ⟨cd.def_ 4 (d := ⟨("price", none), "price", "price", defArgs (top 16), defBody (top 16), defScope (top 16), [], []⟩) rfl, He.glo_ok KX N (cd.fact 4 (f := .glo "price") rfl)⟩,
    d_rules_of := ⟨cd.def_ 5 (d := ⟨("rules_of", none), "rules_of", "rules_of", defArgs (top 17), defBody (top 17), defScope (top 17), [], []⟩) rfl, He.glo_ok KX N (cd.fact 5 (f := .glo "rules_of") rfl)⟩,
    d_all_rules := ⟨cd.def_ 6 (d := ⟨("all_rules", none), "all_rules", "all_rules", defArgs (top 18), defBody (top 18), defScope (top 18), [], []⟩) rfl, He.glo_ok KX N (cd.fact 6 (f := .glo "all_rules") rfl)⟩,
    d_need_kinds := ⟨cd.def_ 7 (d := ⟨("need_kinds", none), "need_kinds", "need_kinds", defArgs (top 19), defBody (top 19), defScope (top 19), [], []⟩) rfl, He.glo_ok KX N (cd.fact 7 (f := .glo "need_kinds") rfl)⟩,
    d_row_of := ⟨cd.def_ 8 (d := ⟨("row_of", none), "row_of", "row_of", defArgs (top 21), defBody (top 21), defScope (top 21), [], []⟩) rfl, He.glo_ok KX N (cd.fact 8 (f := .glo "row_of") rfl)⟩,
    d_parting := ⟨cd.def_ 9 (d := ⟨("parting", none), "parting", "parting", defArgs (top 22), defBody (top 22), defScope (top 22), [], []⟩) rfl, He.glo_ok KX N (cd.fact 9 (f := .glo "parting") rfl)⟩,
    d_is_alike := ⟨cd.def_ 10 (d := ⟨("is_alike", none), "is_alike", "is_alike", defArgs (top 23), defBody (top 23), defScope (top 23), [], []⟩) rfl, He.glo_ok KX N (cd.fact 10 (f := .glo "is_alike") rfl)⟩,
    d_groups := ⟨cd.def_ 11 (d := ⟨("groups", none), "groups", "groups", defArgs (top 24), defBody (top 24), defScope (top 24), [], []⟩) rfl, He.glo_ok KX N (cd.fact 11 (f := .glo "groups") rfl)⟩,
    d_alike_ones := ⟨cd.def_ 12 (d := ⟨("alike_ones", none), "alike_ones", "alike_ones", defArgs (top 25), defBody (top 25), defScope (top 25), [], []⟩) rfl, He.glo_ok KX N (cd.fact 12 (f := .glo "alike_ones") rfl)⟩,
    d_many_unlike := ⟨cd.def_ 13 (d := ⟨("many_unlike", none), "many_unlike", "many_unlike", defArgs (top 26), defBody (top 26), defScope (top 26), [], []⟩) rfl, He.glo_ok KX N (cd.fact 13 (f := .glo "many_unlike") rfl)⟩,
    d__law_cell := ⟨cd.def_ 14 (d := ⟨("_law_cell", none), "_law_cell", "_law_cell", defArgs (top 28), defBody (top 28), defScope (top 28), [], []⟩) rfl, He.glo_ok KX N (cd.fact 14 (f := .glo "_law_cell") rfl)⟩,
    d__law_drawn := ⟨cd.def_ 15 (d := ⟨("_law_drawn", none), "_law_drawn", "_law_drawn", defArgs (top 29), defBody (top 29), defScope (top 29), [], []⟩) rfl, He.glo_ok KX N (cd.fact 15 (f := .glo "_law_drawn") rfl)⟩,
    d__law_word := ⟨cd.def_ 16 (d := ⟨("_law_word", none), "_law_word", "_law_word", defArgs (top 30), defBody (top 30), defScope (top 30), [], []⟩) rfl, He.glo_ok KX N (cd.fact 16 (f := .glo "_law_word") rfl)⟩,
    d__law_told := ⟨cd.def_ 17 (d := ⟨("_law_told", none), "_law_told", "_law_told", defArgs (top 31), defBody (top 31), defScope (top 31), [], []⟩) rfl, He.glo_ok KX N (cd.fact 17 (f := .glo "_law_told") rfl)⟩,
    d__law_bounds := ⟨cd.def_ 18 (d := ⟨("_law_bounds", none), "_law_bounds", "_law_bounds", defArgs (top 32), defBody (top 32), defScope (top 32), [], []⟩) rfl, He.glo_ok KX N (cd.fact 18 (f := .glo "_law_bounds") rfl)⟩,
    d__law_kinds := ⟨cd.def_ 19 (d := ⟨("_law_kinds", none), "_law_kinds", "_law_kinds", defArgs (top 33), defBody (top 33), defScope (top 33), [], []⟩) rfl, He.glo_ok KX N (cd.fact 19 (f := .glo "_law_kinds") rfl)⟩,
    d__law_rule := ⟨cd.def_ 20 (d := ⟨("_law_rule", none), "_law_rule", "_law_rule", defArgs (top 34), defBody (top 34), defScope (top 34), [], []⟩) rfl, He.glo_ok KX N (cd.fact 20 (f := .glo "_law_rule") rfl)⟩,
    d__law_cost := ⟨cd.def_ 21 (d := ⟨("_law_cost", none), "_law_cost", "_law_cost", defArgs (top 35), defBody (top 35), defScope (top 35), [], []⟩) rfl, He.glo_ok KX N (cd.fact 21 (f := .glo "_law_cost") rfl)⟩,
    d__law_row := ⟨cd.def_ 22 (d := ⟨("_law_row", none), "_law_row", "_law_row", defArgs (top 36), defBody (top 36), defScope (top 36), [], []⟩) rfl, He.glo_ok KX N (cd.fact 22 (f := .glo "_law_row") rfl)⟩,
    d__law_rules := ⟨cd.def_ 23 (d := ⟨("_law_rules", none), "_law_rules", "_law_rules", defArgs (top 37), defBody (top 37), defScope (top 37), [], []⟩) rfl, He.glo_ok KX N (cd.fact 23 (f := .glo "_law_rules") rfl)⟩,
    d__law_some := ⟨cd.def_ 24 (d := ⟨("_law_some", none), "_law_some", "_law_some", defArgs (top 38), defBody (top 38), defScope (top 38), [], []⟩) rfl, He.glo_ok KX N (cd.fact 24 (f := .glo "_law_some") rfl)⟩,
    d_law := ⟨cd.def_ 25 (d := ⟨("law", none), "law", "law", defArgs (top 39), defBody (top 39), defScope (top 39), [], []⟩) rfl, He.glo_ok KX N (cd.fact 25 (f := .glo "law") rfl)⟩,
    x := xok_of (xs := xsL) rfl (fun _ => rfl) KX N cd (fun er => by cases er <;> decide) hm (List.forall_mem_cons.mpr ⟨List.mem_of_getElem? (i := 27) rfl, (List.forall_mem_cons.mpr ⟨List.mem_of_getElem? (i := 28) rfl, (List.forall_mem_cons.mpr ⟨List.mem_of_getElem? (i := 29) rfl, (List.forall_mem_cons.mpr ⟨List.mem_of_getElem? (i := 30) rfl, (fun _ h => by cases h)⟩)⟩)⟩)⟩) (List.forall_mem_cons.mpr ⟨List.mem_of_getElem? (i := 33) rfl, (List.forall_mem_cons.mpr ⟨List.mem_of_getElem? (i := 34) rfl, (List.forall_mem_cons.mpr ⟨List.mem_of_getElem? (i := 35) rfl, (List.forall_mem_cons.mpr ⟨List.mem_of_getElem? (i := 36) rfl, (fun _ h => by cases h)⟩)⟩)⟩)⟩) (List.forall_mem_cons.mpr ⟨List.mem_of_getElem? (i := 37) rfl, (List.forall_mem_cons.mpr ⟨List.mem_of_getElem? (i := 38) rfl, (List.forall_mem_cons.mpr ⟨List.mem_of_getElem? (i := 39) rfl, (List.forall_mem_cons.mpr ⟨List.mem_of_getElem? (i := 40) rfl, (fun _ h => by cases h)⟩)⟩)⟩)⟩),
    xe := He.glo_ok KX N (cd.fact 26 (f := .glo "BillError") rfl),
    tb_law := hT ("law", none) (by decide +kernel),
    tm_law := List.mem_map.mpr ⟨("law", none), by decide +kernel, rfl⟩,
    tu_law := fun p hp _ => by obtain ⟨q, hq, rfl⟩ := List.mem_map.mp hp; rw [List.mem_singleton.mp hq] }
theorem join (hw : ∀ er a, fin (g__law_word er a (.raw (.ref a) :: List.replicate 2 .no)) = .ok (.str (nm er))) (hlaw : ∀ [Hs] (ns : List Int), ns.length ≤ 63 → w_law [scrD ns] = .ok (.bool true)) : RR.Holds := by
  refine HandSHeadRun.head_any (r := RR) (q := PySem.W.view RR.prog [39]) (H := hk) (ob := ob) (M := 12000) (loose := lsL) (d := HandSHeadRun.topDef RR.prog 39) (kwd := []) ob_eq (by kernel_rfl) (fun s => by kernel_rfl) run_eq (by kernel_rfl) (by kernel_rfl) (by kernel_rfl) (by rfl) (by first | assumption | decide +kernel) (by decide +kernel) ⟨rfl, rfl, rfl, rfl, rfl, by decide +kernel⟩ ?hw ?hc
  case hw => w_witness2
  case hc =>
    refine LamX.walk_ofTsE (l := PySem.Challenge.rw_billrules_k20_whole_alike) (n := 63) (k := 8) (x := "script") (CX := fun w => L2N.CX RR.prog w) rfl (by decide) (by kernel_rfl) ⟨rfl, by decide, by decide⟩ ?F (fun w H s e s' z => cx_no z)
    intro w mg fa h Y N hmg0
    obtain ⟨K, KX, c⟩ := Y
    letI : Hs := ⟨hsOf RR.prog w, fun _ => Classical.propDecidable _⟩
    haveI : HsOk RR.prog w := ⟨rfl⟩
    haveI : HsOk PySem.Challenge.rw_billrules_k20_whole_alike.prog w := ⟨rfl⟩
    have hmg : mg ("law" : Str) = some (.ref fa) := by
      have e : (HandSHeadRun.topDef RR.prog 39).name = ("law" : Str) := by kernel_rfl
      rw [← e]
      exact hmg0
    have e := hmg.symm.trans (He.glo_ok KX N (c.t.d.fact 25 (f := .glo "law") rfl))
    cases e
    obtain ⟨fd, Fd⟩ := c.t.d.def_ 25 (d := ⟨("law", none), "law", "law", defArgs (top 39), defBody (top 39), defScope (top 39), [], []⟩) rfl
    have b := FunD.bindsA (ps := ["script"]) Fd fun _ _ _ _ _ _ us hl => match us, hl with | [_], _ => rfl
    refine ⟨K, KX, fd, tfL.map (He.cT K), spD (gb K) 1 (w_law), fun p hp => ?_, fun p hp => ?_, fun p hp => ?_, fun s u => b s [u] rfl, fun H a ns hl _ hH hS => start_sp (fun p hp => ?_) hS (hlaw ns hl), fun base X2 N2 hTB => ?_⟩
    · obtain ⟨q, hq, rfl⟩ := List.mem_map.mp hp
      exact c.empty q hq
    · obtain ⟨q, hq, rfl⟩ := List.mem_map.mp hp
      exact c.out q hq
    · obtain ⟨q, hq, rfl⟩ := List.mem_map.mp hp
      exact PySem.W.codeHd_of_K KX (c.hd q hq)
    · obtain ⟨q, hq, rfl⟩ := List.mem_map.mp hp
      exact hH _ (List.mem_map.mpr ⟨q, hq, rfl⟩)
    · exact all_law hw Fd (facts KX N c _ base fun p hp => hTB _ (List.mem_map.mpr ⟨p, hp, rfl⟩))
end Py

namespace Py
open PySem PySem.Spec PyProof.Rows L2 LamX
section
variable {α β : Type} {x : Sl} {ρ : Rho} {g1 g2 gb : Rho → O} {f fa fb fc fe : Rho → R D} {fs fi : Rho → R (List D)} {t ta tb tt : Rho → R Bool} {d d1 d2 : D} {ds es : List D} {i j n : Nat} {c : Er} {k k1 : Bool} {ft : D → Option Bn} {o : O} {h h1 : D → D → R D} {hl : List D → R D} {fl fh : Rho → R (Option Int)}

/-! frames -/
def kS (o : O) (k : Rho → O) : O := oS o k
@[simp] theorem kS_nx : kS (.nx ρ) g2 = g2 ρ := (rfl)
@[simp] theorem kS_ret : kS (.ret d) g2 = .ret d := (rfl)
@[simp] theorem kS_err : kS (.err c) g2 = .err c := (rfl)
@[simp] theorem kS_bad : kS .bad g2 = .bad := (rfl)
@[simp] theorem kS_brk : kS (.brk ρ) g2 = .brk ρ := (rfl)
@[simp] theorem kS_ct : kS (.ct ρ) g2 = .ct ρ := (rfl)
def kFin (o : O) : R D := fin o
@[simp] theorem kFin_nx : kFin (.nx ρ) = .ok .none := (rfl)
@[simp] theorem kFin_ret : kFin (.ret d) = .ok d := (rfl)
@[simp] theorem kFin_err : kFin (.err c) = .err c := (rfl)
@[simp] theorem kFin_bad : kFin .bad = .bad := (rfl)
def nRun (n : Nat) (g : Rho → O) (ds : List D) : R D := run n g ds
theorem nRun_eq : nRun n g1 ds = kFin (g1 (ds.map Sl.dat ++ List.replicate (n - ds.length) .no)) := rfl
/-- r, then k -/
def kR (r : R α) (k : α → R β) : R β := r.bind k
@[simp] theorem kR_ok {a : α} {k : α → R β} : kR (.ok a) k = k a := (rfl)
@[simp] theorem kR_err {k : α → R β} : kR (.err c) k = .err c := (rfl)
@[simp] theorem kR_bad {k : α → R β} : kR .bad k = .bad := (rfl)

/-! statements -/
def nNx : Rho → O := .nx
@[simp] theorem nNx_c : nNx (x :: ρ) = .nx (x :: ρ) := (rfl)
def nCt : Rho → O := .ct
@[simp] theorem nCt_c : nCt (x :: ρ) = .ct (x :: ρ) := (rfl)
def nBrk : Rho → O := .brk
@[simp] theorem nBrk_c : nBrk (x :: ρ) = .brk (x :: ρ) := (rfl)
def nBad : Rho → O := fun _ => .bad
@[simp] theorem nBad_c : nBad (x :: ρ) = .bad := (rfl)
def nErr (c : Er) : Rho → O := fun _ => .err c
@[simp] theorem nErr_c : nErr c (x :: ρ) = .err c := (rfl)
def nRetC (d : D) : Rho → O := fun _ => .ret d
@[simp] theorem nRetC_c : nRetC d (x :: ρ) = .ret d := (rfl)
def nSeq (g1 g2 : Rho → O) : Rho → O := gSeq g1 g2
@[simp] theorem nSeq_c : nSeq g1 g2 (x :: ρ) = kS (g1 (x :: ρ)) g2 := (rfl)
def nIf (t : Rho → R Bool) (g1 g2 : Rho → O) : Rho → O := gIf t g1 g2
def kIf (r : R Bool) (g1 g2 : Rho → O) (ρ : Rho) : O := oB r fun k => if k = true then g1 ρ else g2 ρ
@[simp] theorem nIf_c : nIf t g1 g2 (x :: ρ) = kIf (t (x :: ρ)) g1 g2 (x :: ρ) := (rfl)
@[simp] theorem kIf_t : kIf (.ok true) g1 g2 ρ = g1 ρ := (rfl)
@[simp] theorem kIf_f : kIf (.ok false) g1 g2 ρ = g2 ρ := (rfl)
@[simp] theorem kIf_err : kIf (.err c) g1 g2 ρ = .err c := (rfl)
@[simp] theorem kIf_bad : kIf .bad g1 g2 ρ = .bad := (rfl)
theorem kIf_ok : kIf (.ok k) g1 g2 ρ = if k = true then g1 ρ else g2 ρ := rfl
def nRet (f : Rho → R D) : Rho → O := gRet f
def kRet (r : R D) : O := oB r .ret
@[simp] theorem nRet_c : nRet f (x :: ρ) = kRet (f (x :: ρ)) := (rfl)
@[simp] theorem kRet_ok : kRet (.ok d) = .ret d := (rfl)
@[simp] theorem kRet_err : kRet (.err c) = .err c := (rfl)
@[simp] theorem kRet_bad : kRet .bad = .bad := (rfl)
@[simp] theorem kFin_kRet {r : R D} : kFin (kRet r) = r := by cases r <;> rfl
def nDrop (f : Rho → R D) : Rho → O := gDrop f
def kDrop (r : R D) (ρ : Rho) : O := oB r fun _ => .nx ρ
@[simp] theorem nDrop_c : nDrop f (x :: ρ) = kDrop (f (x :: ρ)) (x :: ρ) := (rfl)
@[simp] theorem kDrop_ok : kDrop (.ok d) ρ = .nx ρ := (rfl)
@[simp] theorem kDrop_err : kDrop (.err c) ρ = .err c := (rfl)
@[simp] theorem kDrop_bad : kDrop .bad ρ = .bad := (rfl)
def nSet (i : Nat) (f : Rho → R D) : Rho → O := gSet i f
def kSet (r : R D) (i : Nat) (ρ : Rho) : O := oB r fun d => .nx (ρ.set i (.dat d))
@[simp] theorem nSet_c : nSet i f (x :: ρ) = kSet (f (x :: ρ)) i (x :: ρ) := (rfl)
@[simp] theorem kSet_ok : kSet (.ok d) i ρ = .nx (ρ.set i (.dat d)) := (rfl)
@[simp] theorem kSet_err : kSet (.err c) i ρ = .err c := (rfl)
@[simp] theorem kSet_bad : kSet .bad i ρ = .bad := (rfl)
def nOwn (i : Nat) (fs : Rho → R (List D)) : Rho → O := gOwn i fs
def kOwn (r : R (List D)) (i : Nat) (ρ : Rho) : O := oB r fun ds => if ds.length ≤ maxL then .nx (ρ.set i (.own ds)) else .bad
@[simp] theorem nOwn_c : nOwn i fs (x :: ρ) = kOwn (fs (x :: ρ)) i (x :: ρ) := (rfl)
@[simp] theorem kOwn_ok : kOwn (.ok ds) i ρ = if ds.length ≤ 100000 then .nx (ρ.set i (.own ds)) else .bad := (rfl)
@[simp] theorem kOwn_err : kOwn (.err c) i ρ = .err c := (rfl)
@[simp] theorem kOwn_bad : kOwn .bad i ρ = .bad := (rfl)
def nGetO (i : Nat) : Rho → R (List D) := fun ρ => getO ρ i
@[simp] theorem nGetO_s : nGetO (i + 1) (x :: ρ) = nGetO i ρ := (rfl)
@[simp] theorem nGetO_z : nGetO 0 (.own ds :: ρ) = .ok ds := (rfl)
def nApp (i : Nat) (f : Rho → R D) : Rho → O := gApp i f
def kApp (r : R (List D)) (r2 : R D) (i : Nat) (ρ : Rho) : O := oB r fun ds => oB r2 fun d => if ds.length < maxL then .nx (ρ.set i (.own (ds ++ [d]))) else .bad
@[simp] theorem nApp_c : nApp i f (x :: ρ) = kApp (nGetO i (x :: ρ)) (f (x :: ρ)) i (x :: ρ) := (rfl)
@[simp] theorem kApp_ok : kApp (.ok ds) (.ok d) i ρ = if ds.length < 100000 then .nx (ρ.set i (.own (ds ++ [d]))) else .bad := (rfl)
@[simp] theorem kApp_err : kApp (.ok ds) (.err c) i ρ = .err c := (rfl)
def nExt (i : Nat) (f : Rho → R D) : Rho → O := gExt i f
def kExt (r : R (List D)) (r2 : R D) (i : Nat) (ρ : Rho) : O := oB r fun ds => oB r2 fun d => oB (asL d) fun es => if ds.length + es.length ≤ maxL then .nx (ρ.set i (.own (ds ++ es))) else .bad
@[simp] theorem nExt_c : nExt i f (x :: ρ) = kExt (nGetO i (x :: ρ)) (f (x :: ρ)) i (x :: ρ) := (rfl)
@[simp] theorem kExt_ok : kExt (.ok ds) (.ok (.list es)) i ρ = if ds.length + es.length ≤ 100000 then .nx (ρ.set i (.own (ds ++ es))) else .bad := (rfl)
@[simp] theorem kExt_err : kExt (.ok ds) (.err c) i ρ = .err c := (rfl)
def nFz1 (ρ : Rho) (j : Nat) : Rho := fz1 ρ j
@[simp] theorem nFz1_o : nFz1 (.own ds :: ρ) 0 = .dat (.list ds) :: ρ := (rfl)
@[simp] theorem nFz1_d : nFz1 (.dat d :: ρ) 0 = .dat d :: ρ := (rfl)
@[simp] theorem nFz1_n : nFz1 (.no :: ρ) 0 = .no :: ρ := (rfl)
@[simp] theorem nFz1_s : nFz1 (x :: ρ) (j + 1) = x :: nFz1 ρ j := by
  unfold nFz1 fz1
  rw [List.getElem?_cons_succ]
  cases e : ρ[j]? with
  | none => rfl
  | some s => cases s <;> rfl
def nFzs (js : List Nat) (ρ : Rho) : Rho := fzs js ρ
@[simp] theorem nFzs_nil : nFzs [] ρ = ρ := (rfl)
@[simp] theorem nFzs_cons {js : List Nat} : nFzs (j :: js) ρ = nFzs js (nFz1 ρ j) := (rfl)
def nFz (js : List Nat) (g : Rho → O) : Rho → O := gFz js g
@[simp] theorem nFz_c {js : List Nat} : nFz js g1 (x :: ρ) = g1 (nFzs js (x :: ρ)) := (rfl)
def nFor (fi : Rho → R (List D)) (ft : D → Option Bn) (gb : Rho → O) : Rho → O := gFor fi ft gb
def kFor (r : R (List D)) (ft : D → Option Bn) (gb : Rho → O) (ρ : Rho) : O := oB r fun ds => forL ft gb ds ρ
@[simp] theorem nFor_c : nFor fi ft gb (x :: ρ) = kFor (fi (x :: ρ)) ft gb (x :: ρ) := (rfl)
@[simp] theorem kFor_ok : kFor (.ok ds) ft gb ρ = forL ft gb ds ρ := (rfl)
@[simp] theorem kFor_err : kFor (.err c) ft gb ρ = .err c := (rfl)
@[simp] theorem kFor_bad : kFor .bad ft gb ρ = .bad := (rfl)
def nPar (i j : Nat) (fs : Rho → R (List D)) : Rho → O := gPar i j fs
def kPar (r : R (List D)) (i j : Nat) (ρ : Rho) : O := oB r (put2 i j ρ)
@[simp] theorem nPar_c : nPar i j fs (x :: ρ) = kPar (fs (x :: ρ)) i j (x :: ρ) := (rfl)
@[simp] theorem kPar_ok : kPar (.ok [d1, d2]) i j ρ = .nx ((ρ.set i (.dat d1)).set j (.dat d2)) := (rfl)
@[simp] theorem kPar_err : kPar (.err c) i j ρ = .err c := (rfl)
def nParO (i j : Nat) (f : Rho → R D) : Rho → O := gParO i j f
def kParO (r : R D) (i j : Nat) (ρ : Rho) : O := oB r fun d => .nx ((ρ.set i (.dat d)).set j (.own []))
@[simp] theorem nParO_c : nParO i j f (x :: ρ) = kParO (f (x :: ρ)) i j (x :: ρ) := (rfl)
@[simp] theorem kParO_ok : kParO (.ok d) i j ρ = .nx ((ρ.set i (.dat d)).set j (.own [])) := (rfl)
def nPar3 (i j n : Nat) (fs : Rho → R (List D)) : Rho → O := gPar3 i j n fs
def kPar3 (r : R (List D)) (i j n : Nat) (ρ : Rho) : O := oB r (put3 i j n ρ)
@[simp] theorem nPar3_c : nPar3 i j n fs (x :: ρ) = kPar3 (fs (x :: ρ)) i j n (x :: ρ) := (rfl)
@[simp] theorem kPar3_ok : kPar3 (.ok [d, d1, d2]) i j n ρ = .nx (((ρ.set i (.dat d)).set j (.dat d1)).set n (.dat d2)) := (rfl)
/-! targets -/
def nSets (ρ : Rho) (bs : Bn) : Rho := setsR ρ bs
@[simp] theorem nSets_nil : nSets ρ [] = ρ := (rfl)
@[simp] theorem nSets_cons {b : Nat × D} {bs : Bn} : nSets ρ (b :: bs) = nSets (ρ.set b.1 (.dat b.2)) bs := (rfl)
def nAsg (f : Rho → R D) (ft : D → Option Bn) : Rho → O := gAsg f ft
def kAsg (r : R D) (ft : D → Option Bn) (ρ : Rho) : O := oB r fun d => oN (ft d) fun bs => .nx (setsR ρ bs)
@[simp] theorem nAsg_c : nAsg f ft (x :: ρ) = kAsg (f (x :: ρ)) ft (x :: ρ) := (rfl)
theorem kAsg_ok {bs : Bn} (e : ft d = some bs) : kAsg (.ok d) ft ρ = .nx (nSets ρ bs) := by
  show oN (ft d) (fun bs => .nx (setsR ρ bs)) = _
  rw [e]
  rfl
@[simp] theorem kAsg_3 {d' d'' : D} : kAsg (.ok (.tuple [d, d', d''])) (bTup [bName i, bName j, bName n]) ρ = .nx (((ρ.set i (.dat d)).set j (.dat d')).set n (.dat d'')) := (rfl)
@[simp] theorem kAsg_2 {d' : D} : kAsg (.ok (.tuple [d, d'])) (bTup [bName i, bName j]) ρ = .nx ((ρ.set i (.dat d)).set j (.dat d')) := (rfl)

/-! values -/
def nGet (i : Nat) : Rho → R D := fun ρ => getS ρ i
@[simp] theorem nGet_s : nGet (i + 1) (x :: ρ) = nGet i ρ := (rfl)
@[simp] theorem nGet_z : nGet 0 (.dat d :: ρ) = .ok d := (rfl)
def nC (d : D) : Rho → R D := fun _ => .ok d
@[simp] theorem nC_c : nC d (x :: ρ) = .ok d := (rfl)
def nNil : Rho → R (List D) := fun _ => .ok []
@[simp] theorem nNil_c : nNil (x :: ρ) = .ok [] := (rfl)
def nYes : Rho → R Bool := fun _ => .ok true
@[simp] theorem nYes_c : nYes (x :: ρ) = .ok true := (rfl)
def nON : Rho → R (Option Int) := fun _ => .ok none
@[simp] theorem nON_c : nON (x :: ρ) = .ok none := (rfl)
def nCall0 (m : List D → R D) : Rho → R D := fun _ => m []
@[simp] theorem nCall0_c : nCall0 hl (x :: ρ) = hl [] := (rfl)
def n2 (fa fb : Rho → R D) (h : D → D → R D) : Rho → R D := r2 fa fb h
def k2 (a b : R D) (h : D → D → R D) : R D := a.bind fun x => b.bind fun y => h x y
@[simp] theorem n2_c : n2 fa fb h (x :: ρ) = k2 (fa (x :: ρ)) (fb (x :: ρ)) h := (rfl)
@[simp] theorem k2_ok : k2 (.ok d1) (.ok d2) h = h d1 d2 := (rfl)
@[simp] theorem k2_err {r : R D} : k2 (.err c) r h = .err c := (rfl)
@[simp] theorem k2_err2 : k2 (.ok d) (.err c) h = .err c := (rfl)
def nB (f : Rho → R D) : Rho → R Bool := rB f
def kBo (r : R D) : R Bool := r.bind asB
@[simp] theorem nB_c : nB f (x :: ρ) = kBo (f (x :: ρ)) := (rfl)
@[simp] theorem kBo_ok : kBo (.ok (.bool k)) = .ok k := (rfl)
@[simp] theorem kBo_err : kBo (.err c) = .err c := (rfl)
def nTru (f : Rho → R D) : Rho → R Bool := rTru f
def kTru (r : R D) : R Bool := r.bind tru
@[simp] theorem nTru_c : nTru f (x :: ρ) = kTru (f (x :: ρ)) := (rfl)
@[simp] theorem kTru_b : kTru (.ok (.bool k)) = .ok k := (rfl)
@[simp] theorem kTru_l : kTru (.ok (.list ds)) = .ok (!ds.isEmpty) := (rfl)
@[simp] theorem kTru_n : kTru (.ok .none) = .ok false := (rfl)
@[simp] theorem kTru_err : kTru (.err c) = .err c := (rfl)
/-- and, or, not: both sides looked at -/
def kAnd (a b : R Bool) : R Bool := a.bind fun k => if k = true then b else .ok false
@[simp] theorem kAnd_f {b : R Bool} : kAnd (.ok false) b = .ok false := (rfl)
@[simp] theorem kAnd_t {b : R Bool} : kAnd (.ok true) b = b := (rfl)
@[simp] theorem kAnd_2 : kAnd (.ok k) (.ok k1) = .ok (k && k1) := by cases k <;> rfl
@[simp] theorem kAnd_err {b : R Bool} : kAnd (.err c) b = .err c := (rfl)
def kOr (a b : R Bool) : R Bool := a.bind fun k => if k = true then .ok true else b
@[simp] theorem kOr_f {b : R Bool} : kOr (.ok false) b = b := (rfl)
@[simp] theorem kOr_t {b : R Bool} : kOr (.ok true) b = .ok true := (rfl)
@[simp] theorem kOr_2 : kOr (.ok k) (.ok k1) = .ok (k || k1) := by cases k <;> rfl
@[simp] theorem kOr_err {b : R Bool} : kOr (.err c) b = .err c := (rfl)
def kNot (a : R Bool) : R Bool := a.bind fun k => .ok (!k)
@[simp] theorem kNot_ok : kNot (.ok k) = .ok (!k) := (rfl)
@[simp] theorem kNot_err : kNot (.err c) = .err c := (rfl)
def nAnd (ta tb : Rho → R Bool) : Rho → R Bool := rAnd ta tb
@[simp] theorem nAnd_c : nAnd ta tb (x :: ρ) = kAnd (ta (x :: ρ)) (tb (x :: ρ)) := (rfl)
def nOr (ta tb : Rho → R Bool) : Rho → R Bool := rOr ta tb
@[simp] theorem nOr_c : nOr ta tb (x :: ρ) = kOr (ta (x :: ρ)) (tb (x :: ρ)) := (rfl)
def nNot (ta : Rho → R Bool) : Rho → R Bool := rNot ta
@[simp] theorem nNot_c : nNot ta (x :: ρ) = kNot (ta (x :: ρ)) := (rfl)
def kAndV (a b : R D) : R D := (a.bind asB).bind fun k => if k = true then b else .ok (.bool false)
@[simp] theorem kAndV_f {b : R D} : kAndV (.ok (.bool false)) b = .ok (.bool false) := (rfl)
@[simp] theorem kAndV_t {b : R D} : kAndV (.ok (.bool true)) b = b := (rfl)
@[simp] theorem kAndV_2 : kAndV (.ok (.bool k)) (.ok (.bool k1)) = .ok (.bool (k && k1)) := by cases k <;> rfl
@[simp] theorem kAndV_err {b : R D} : kAndV (.err c) b = .err c := (rfl)
def kOrV (a b : R D) : R D := (a.bind asB).bind fun k => if k = true then .ok (.bool true) else b
@[simp] theorem kOrV_f {b : R D} : kOrV (.ok (.bool false)) b = b := (rfl)
@[simp] theorem kOrV_t {b : R D} : kOrV (.ok (.bool true)) b = .ok (.bool true) := (rfl)
@[simp] theorem kOrV_2 : kOrV (.ok (.bool k)) (.ok (.bool k1)) = .ok (.bool (k || k1)) := by cases k <;> rfl
@[simp] theorem kOrV_err {b : R D} : kOrV (.err c) b = .err c := (rfl)
def kNotV (a : R D) : R D := (a.bind asB).bind fun k => .ok (.bool (!k))
@[simp] theorem kNotV_ok : kNotV (.ok (.bool k)) = .ok (.bool (!k)) := (rfl)
def nAndV (fa fb : Rho → R D) : Rho → R D := rAndV fa fb
@[simp] theorem nAndV_c : nAndV fa fb (x :: ρ) = kAndV (fa (x :: ρ)) (fb (x :: ρ)) := (rfl)
def nOrV (fa fb : Rho → R D) : Rho → R D := rOrV fa fb
@[simp] theorem nOrV_c : nOrV fa fb (x :: ρ) = kOrV (fa (x :: ρ)) (fb (x :: ρ)) := (rfl)
def nNotV (fa : Rho → R D) : Rho → R D := rNotV fa
@[simp] theorem nNotV_c : nNotV fa (x :: ρ) = kNotV (fa (x :: ρ)) := (rfl)
def kIfE (a : R Bool) (b c : R D) : R D := a.bind fun k => if k = true then b else c
@[simp] theorem kIfE_t {b c : R D} : kIfE (.ok true) b c = b := (rfl)
@[simp] theorem kIfE_f {b c : R D} : kIfE (.ok false) b c = c := (rfl)
@[simp] theorem kIfE_2 : kIfE (.ok k) (.ok d1) (.ok d2) = .ok (if k = true then d1 else d2) := by cases k <;> rfl
@[simp] theorem kIfE_err {b d : R D} : kIfE (.err c) b d = .err c := (rfl)
def nIfE (t : Rho → R Bool) (fa fb : Rho → R D) : Rho → R D := rIf t fa fb
@[simp] theorem nIfE_c : nIfE t fa fb (x :: ρ) = kIfE (t (x :: ρ)) (fa (x :: ρ)) (fb (x :: ρ)) := (rfl)
/-- a chain -/
def nChain (h h1 : D → D → R D) (fa fb fc : Rho → R D) : Rho → R D := rChain h h1 fa fb fc
def kChain (a b c : R D) (h h1 : D → D → R D) : R D := a.bind fun x => b.bind fun y => ((h x y).bind asB).bind fun k => if k = true then c.bind fun z => h1 y z else .ok (.bool false)
@[simp] theorem nChain_c : nChain h h1 fa fb fc (x :: ρ) = kChain (fa (x :: ρ)) (fb (x :: ρ)) (fc (x :: ρ)) h h1 := (rfl)
@[simp] theorem kChain_ok {d3 : D} : kChain (.ok d1) (.ok d2) (.ok d3) h h1 = kAndV (h d1 d2) (h1 d2 d3) := (rfl)
/-! lists -/
def nCons (fa : Rho → R D) (fs : Rho → R (List D)) : Rho → R (List D) := rCons fa fs
def kCons (a : R D) (as : R (List D)) : R (List D) := a.bind fun x => as.bind fun xs => .ok (x :: xs)
@[simp] theorem nCons_c : nCons fa fs (x :: ρ) = kCons (fa (x :: ρ)) (fs (x :: ρ)) := (rfl)
@[simp] theorem kCons_ok : kCons (.ok d) (.ok ds) = .ok (d :: ds) := (rfl)
@[simp] theorem kCons_err {as : R (List D)} : kCons (.err c) as = .err c := (rfl)
@[simp] theorem kCons_err2 : kCons (.ok d) (.err c) = .err c := (rfl)
def kTup (r : R (List D)) : R D := r.bind mkTup
@[simp] theorem kTup_ok : kTup (.ok ds) = if ds.length ≤ 100000 then .ok (.tuple ds) else .bad := (rfl)
@[simp] theorem kTup_err : kTup (.err c) = .err c := (rfl)
def nTup (fs : Rho → R (List D)) : Rho → R D := rTup fs
@[simp] theorem nTup_c : nTup fs (x :: ρ) = kTup (fs (x :: ρ)) := (rfl)
def kLst (r : R (List D)) : R D := r.bind mkLst
@[simp] theorem kLst_ok : kLst (.ok ds) = if ds.length ≤ 100000 then .ok (.list ds) else .bad := (rfl)
@[simp] theorem kLst_err : kLst (.err c) = .err c := (rfl)
def nLst (fs : Rho → R (List D)) : Rho → R D := rLst fs
@[simp] theorem nLst_c : nLst fs (x :: ρ) = kLst (fs (x :: ρ)) := (rfl)
def nCall (fs : Rho → R (List D)) (hl : List D → R D) : Rho → R D := rCall fs hl
@[simp] theorem nCall_c : nCall fs hl (x :: ρ) = kR (fs (x :: ρ)) hl := (rfl)
def kArgs (r : R (List D)) (n : Nat) : R (List D) := r.bind fun ds => if ds.length = n then .ok ds else .bad
def nArgs (n : Nat) (fs : Rho → R (List D)) : Rho → R (List D) := rArgs n fs
@[simp] theorem nArgs_c : nArgs n fs (x :: ρ) = kArgs (fs (x :: ρ)) n := (rfl)
@[simp] theorem kArgs_ok : kArgs (.ok ds) n = if ds.length = n then .ok ds else .bad := (rfl)
@[simp] theorem kArgs_err : kArgs (.err c) n = .err c := (rfl)
def nLc (vs : List Nat) (fi : Rho → R (List D)) (ft : D → Option Bn) (tt : Rho → R Bool) (fe : Rho → R D) : Rho → R D := rLc vs fi ft tt fe
def kLc (r : R (List D)) (ft : D → Option Bn) (tt : Rho → R Bool) (fe : Rho → R D) (ρ : Rho) : R D := r.bind fun ds => (lcL ft tt fe ρ ds).bind mkLst
@[simp] theorem nLc_c {vs : List Nat} : nLc vs fi ft tt fe (x :: ρ) = kLc (fi (x :: ρ)) ft tt fe (wipeR (x :: ρ) vs) := (rfl)
@[simp] theorem kLc_ok : kLc (.ok ds) ft tt fe ρ = kLst (lcL ft tt fe ρ ds) := (rfl)
@[simp] theorem kLc_err : kLc (.err c) ft tt fe ρ = .err c := (rfl)
@[simp] theorem wipe_nil : wipeR ρ [] = ρ := (rfl)
@[simp] theorem wipe_cons {v : Nat} {vs : List Nat} : wipeR ρ (v :: vs) = (wipeR ρ vs).set v .no := (rfl)
/-! what is walked -/
def qSeq (d : D) : R (List D) := asSeq d
@[simp] theorem qSeq_l : qSeq (.list ds) = .ok ds := (rfl)
@[simp] theorem qSeq_t : qSeq (.tuple ds) = .ok ds := (rfl)
def nSeqI (f : Rho → R D) : Rho → R (List D) := rSeq f
@[simp] theorem nSeqI_c : nSeqI f (x :: ρ) = kR (f (x :: ρ)) qSeq := (rfl)
def qL (d : D) : R (List D) := asL d
@[simp] theorem qL_l : qL (.list ds) = .ok ds := (rfl)
def nSeqL (f : Rho → R D) : Rho → R (List D) := rSeqL f
@[simp] theorem nSeqL_c : nSeqL f (x :: ρ) = kR (f (x :: ρ)) qL := (rfl)
def qR1 (ds : List D) : R (List D) := asR1 ds
@[simp] theorem qR1_ok {n : Int} : qR1 [.int n] = if -1000000 ≤ n ∧ n ≤ 1000000 then .ok (rng 0 n) else .bad := (rfl)
def nR1 (fs : Rho → R (List D)) : Rho → R (List D) := rR1 fs
@[simp] theorem nR1_c : nR1 fs (x :: ρ) = kR (fs (x :: ρ)) qR1 := (rfl)
def qR2 (ds : List D) : R (List D) := asR2 ds
@[simp] theorem qR2_ok {m n : Int} : qR2 [.int m, .int n] = if (-1000000 ≤ m ∧ m ≤ 1000000) ∧ (-1000000 ≤ n ∧ n ≤ 1000000) then .ok (rng m n) else .bad := (rfl)
def nR2 (fs : Rho → R (List D)) : Rho → R (List D) := rR2 fs
@[simp] theorem nR2_c : nR2 fs (x :: ρ) = kR (fs (x :: ρ)) qR2 := (rfl)
def qEnum (ds : List D) : R (List D) := asEnum ds
@[simp] theorem qEnum_ok : qEnum [.list ds] = .ok (enumD ds) := (rfl)
def nEnum (fs : Rho → R (List D)) : Rho → R (List D) := rEnum fs
@[simp] theorem nEnum_c : nEnum fs (x :: ρ) = kR (fs (x :: ρ)) qEnum := (rfl)
def qZip (ds : List D) : R (List D) := asZip ds
@[simp] theorem qZip_l : qZip [.list ds, .list es] = .ok (zipD ds es) := (rfl)
@[simp] theorem qZip_t : qZip [.tuple ds, .tuple es] = .ok (zipD ds es) := (rfl)
def nZip (fs : Rho → R (List D)) : Rho → R (List D) := rZip fs
@[simp] theorem nZip_c : nZip fs (x :: ρ) = kR (fs (x :: ρ)) qZip := (rfl)
def qZipM (ds : List D) : R (List D) := asZipM ds
@[simp] theorem qZipM_t : qZipM [.tuple ds, .list es] = .ok (zipD ds es) := (rfl)
def nZipM (fs : Rho → R (List D)) : Rho → R (List D) := rZipM fs
@[simp] theorem nZipM_c : nZipM fs (x :: ρ) = kR (fs (x :: ρ)) qZipM := (rfl)
def qSigns (d : D) : R (List D) := asSigns d
@[simp] theorem qSigns_s {z : Str} : qSigns (.str z) = .ok (signs z) := (rfl)
def nSigns (f : Rho → R D) : Rho → R (List D) := rSigns f
@[simp] theorem nSigns_c : nSigns f (x :: ρ) = kR (f (x :: ρ)) qSigns := (rfl)
/-! operators -/
def qAdd (a b : D) : R D := pAdd a b
@[simp] theorem qAdd_i {a b : Int} : qAdd (.int a) (.int b) = .ok (.int (a + b)) := (rfl)
@[simp] theorem qAdd_l : qAdd (.list ds) (.list es) = if (ds ++ es).length ≤ 100000 then .ok (.list (ds ++ es)) else .bad := (rfl)
@[simp] theorem qAdd_t : qAdd (.tuple ds) (.tuple es) = if (ds ++ es).length ≤ 100000 then .ok (.tuple (ds ++ es)) else .bad := (rfl)
theorem qAdd_s {a b : Str} : qAdd (.str a) (.str b) = if a.length + b.length ≤ 100000 then .ok (.str (a ++ b)) else .bad := rfl
def qSub (a b : D) : R D := pSub a b
@[simp] theorem qSub_i {a b : Int} : qSub (.int a) (.int b) = .ok (.int (a - b)) := (rfl)
def qMul (a b : D) : R D := pMul a b
theorem qMul_i {a b : Int} (h : okMul a b = true) : qMul (.int a) (.int b) = .ok (.int (a * b)) := if_pos h
@[simp] theorem qMul_l {b : Int} : qMul (.list ds) (.int b) = if -(2 ^ 20) ≤ b ∧ b ≤ 2 ^ 20 then kLst (.ok (List.replicate b.toNat ds).flatten) else .bad := (rfl)
def qDiv (a b : D) : R D := pDiv a b
@[simp] theorem qDiv_i {a b : Int} (h0 : 0 < b) (h1 : b < 1606938044258990275541962092341162602522202993782792835301376) : qDiv (.int a) (.int b) = .ok (.int (a / b)) := if_pos ⟨h0, by omega⟩
theorem qDiv_s {a b : Int} (h : 0 < b ∧ b ≤ 1000000) : qDiv (.int a) (.int b) = .ok (.int (a / b)) := if_pos ⟨h.1, by omega⟩
def qMod (a b : D) : R D := pMod a b
@[simp] theorem qMod_i {a b : Int} (h : 0 < b) : qMod (.int a) (.int b) = .ok (.int (a % b)) := if_pos h
def qPow (a b : D) : R D := pPow a b
@[simp] theorem qPow_i {a b : Int} : qPow (.int a) (.int b) = if 0 ≤ b ∧ b ≤ 1000 ∧ a.natAbs < 2 ^ 64 then .ok (.int (a ^ b.toNat)) else .bad := (rfl)
def qLt (a b : D) : R D := pLt a b
@[simp] theorem qLt_i {a b : Int} : qLt (.int a) (.int b) = .ok (.bool (decide (a < b))) := (rfl)
def qLe (a b : D) : R D := pLe a b
@[simp] theorem qLe_i {a b : Int} : qLe (.int a) (.int b) = .ok (.bool (decide (a ≤ b))) := (rfl)
def qGt (a b : D) : R D := pGt a b
@[simp] theorem qGt_i {a b : Int} : qGt (.int a) (.int b) = .ok (.bool (decide (b < a))) := (rfl)
def qGe (a b : D) : R D := pGe a b
@[simp] theorem qGe_i {a b : Int} : qGe (.int a) (.int b) = .ok (.bool (decide (b ≤ a))) := (rfl)
def qEq (a b : D) : R D := pEq a b
def qNe (a b : D) : R D := pNe a b
theorem qEq_ok (h1 : SeqAt.shaped (unscr d1) = true) (h2 : SeqAt.shaped (unscr d2) = true) : qEq d1 d2 = .ok (.bool (PyData.eqv (unscr d1) (unscr d2))) := if_pos (by rw [h1, h2]; rfl)
theorem qNe_ok (h1 : SeqAt.shaped (unscr d1) = true) (h2 : SeqAt.shaped (unscr d2) = true) : qNe d1 d2 = .ok (.bool (!PyData.eqv (unscr d1) (unscr d2))) := if_pos (by rw [h1, h2]; rfl)
theorem qEq_refl (h : SeqAt.shaped (unscr d) = true) : qEq d d = .ok (.bool true) := by
  rw [qEq_ok h h, SeqAt.eqv_refl _ (SeqAt.canLay_of_shaped h)]
theorem qNe_refl (h : SeqAt.shaped (unscr d) = true) : qNe d d = .ok (.bool false) := by
  rw [qNe_ok h h, SeqAt.eqv_refl _ (SeqAt.canLay_of_shaped h)]
  rfl
def qIs (a b : D) : R D := pIs a b
@[simp] theorem qIs_n : qIs .none .none = .ok (.bool true) := (rfl)
@[simp] theorem qIs_i {a : Int} : qIs (.int a) .none = .ok (.bool false) := (rfl)
@[simp] theorem qIs_l : qIs (.list ds) .none = .ok (.bool false) := (rfl)
@[simp] theorem qIs_t : qIs (.tuple ds) .none = .ok (.bool false) := (rfl)
@[simp] theorem qIs_s {a : Str} : qIs (.str a) .none = .ok (.bool false) := (rfl)
@[simp] theorem qIs_b : qIs (.bool k) .none = .ok (.bool false) := (rfl)
def qIsNot (a b : D) : R D := pIsNot a b
@[simp] theorem qIsNot_n : qIsNot .none .none = .ok (.bool false) := (rfl)
@[simp] theorem qIsNot_i {a : Int} : qIsNot (.int a) .none = .ok (.bool true) := (rfl)
@[simp] theorem qIsNot_l : qIsNot (.list ds) .none = .ok (.bool true) := (rfl)
@[simp] theorem qIsNot_t : qIsNot (.tuple ds) .none = .ok (.bool true) := (rfl)
@[simp] theorem qIsNot_s {a : Str} : qIsNot (.str a) .none = .ok (.bool true) := (rfl)
@[simp] theorem qIsNot_b : qIsNot (.bool k) .none = .ok (.bool true) := (rfl)
def qIn (a b : D) : R D := pIn a b
def qNotIn (a b : D) : R D := pNotIn a b
def kIx {α : Type} (xs : List α) (i : Int) : R α := orBad (atI xs i)
theorem kIx_nat {xs : List α} {i : Nat} {a : α} (h : xs[i]? = some a) : kIx xs (i : Int) = .ok a := by
  have hi : i < xs.length := (List.getElem?_eq_some_iff.mp h).1
  have e : ixN xs.length (i : Int) = some i := by
    unfold ixN
    rw [if_pos (by omega), if_pos (by omega)]
    rfl
  unfold kIx atI
  rw [e]
  show orBad xs[i]? = _
  rw [h]
@[simp] theorem kIx_0 {a : α} {xs : List α} : kIx (a :: xs) 0 = .ok a := kIx_nat (i := 0) rfl
@[simp] theorem kIx_1 {a b : α} {xs : List α} : kIx (a :: b :: xs) 1 = .ok b := kIx_nat (i := 1) rfl
@[simp] theorem kIx_2 {a b e : α} {xs : List α} : kIx (a :: b :: e :: xs) 2 = .ok e := kIx_nat (i := 2) rfl
@[simp] theorem kIx_3 {a b e g : α} {xs : List α} : kIx (a :: b :: e :: g :: xs) 3 = .ok g := kIx_nat (i := 3) rfl
def qIx (a b : D) : R D := pIx a b
@[simp] theorem qIx_l {i : Int} : qIx (.list ds) (.int i) = kIx ds i := (rfl)
@[simp] theorem qIx_t {i : Int} : qIx (.tuple ds) (.int i) = kIx ds i := (rfl)
theorem qIx_scr {ns : List Int} {i : Int} : qIx (scrD ns) (.int i) = kIx (ns.map .int) i := rfl
def nIxO (i : Nat) (f : Rho → R D) : Rho → R D := rIxO i f
def kIxO (r : R (List D)) (s : R D) : R D := r.bind fun ds => s.bind (pIxO ds)
@[simp] theorem nIxO_c : nIxO i f (x :: ρ) = kIxO (nGetO i (x :: ρ)) (f (x :: ρ)) := (rfl)
@[simp] theorem kIxO_ok {k : Int} : kIxO (.ok ds) (.ok (.int k)) = kIx ds k := (rfl)
def nPart (f : Rho → R D) : Rho → R (Option Int) := rPart f
def kPart (r : R D) : R (Option Int) := r.bind asI
@[simp] theorem nPart_c : nPart f (x :: ρ) = kPart (f (x :: ρ)) := (rfl)
@[simp] theorem kPart_ok {i : Int} : kPart (.ok (.int i)) = .ok (some i) := (rfl)
def nSlice (fa : Rho → R D) (fl fh : Rho → R (Option Int)) : Rho → R D := rSlice fa fl fh
def kSlice (a : R D) (l h : R (Option Int)) : R D := a.bind fun x => l.bind fun l => h.bind fun u => pSl x l u
@[simp] theorem nSlice_c : nSlice fa fl fh (x :: ρ) = kSlice (fa (x :: ρ)) (fl (x :: ρ)) (fh (x :: ρ)) := (rfl)
def nCut {α : Type} (xs : List α) (lo hi : Option Int) : List α := cut xs lo hi
@[simp] theorem kSlice_l {l h : Option Int} : kSlice (.ok (.list ds)) (.ok l) (.ok h) = .ok (.list (nCut ds l h)) := (rfl)
@[simp] theorem kSlice_t {l h : Option Int} : kSlice (.ok (.tuple ds)) (.ok l) (.ok h) = .ok (.tuple (nCut ds l h)) := (rfl)
def nNeg (f : Rho → R D) : Rho → R D := rNeg f
def kNeg (r : R D) : R D := r.bind pNeg
@[simp] theorem nNeg_c : nNeg f (x :: ρ) = kNeg (f (x :: ρ)) := (rfl)
@[simp] theorem kNeg_ok {i : Int} : kNeg (.ok (.int i)) = .ok (.int (-i)) := (rfl)
def nRev (f : Rho → R D) : Rho → R D := rRev f
def kRev (r : R D) : R D := r.bind pRev
@[simp] theorem nRev_c : nRev f (x :: ρ) = kRev (f (x :: ρ)) := (rfl)
@[simp] theorem kRev_ok : kRev (.ok (.list ds)) = .ok (.list ds.reverse) := (rfl)
/-! calls -/
def nIsI (T : String) (f : Rho → R D) : Rho → R D := rIsI T f
def kIsI (T : String) (r : R D) : R D := r.bind fun d => .ok (.bool (isB (tyN d) T))
@[simp] theorem nIsI_c {T : String} : nIsI T f (x :: ρ) = kIsI T (f (x :: ρ)) := (rfl)
def nIs (T : String) (d : D) : Bool := isB (tyN d) T
@[simp] theorem kIsI_ok {T : String} : kIsI T (.ok d) = .ok (.bool (nIs T d)) := (rfl)
@[simp] theorem is_ti {a : Int} : nIs "tuple" (.int a) = false := (rfl)
@[simp] theorem is_tn : nIs "tuple" .none = false := (rfl)
@[simp] theorem is_tb : nIs "tuple" (.bool k) = false := (rfl)
@[simp] theorem is_ts {z : Str} : nIs "tuple" (.str z) = false := (rfl)
@[simp] theorem is_tl : nIs "tuple" (.list ds) = false := (rfl)
@[simp] theorem is_tt : nIs "tuple" (.tuple ds) = true := (rfl)
@[simp] theorem is_li {a : Int} : nIs "list" (.int a) = false := (rfl)
@[simp] theorem is_ln : nIs "list" .none = false := (rfl)
@[simp] theorem is_lb : nIs "list" (.bool k) = false := (rfl)
@[simp] theorem is_ls {z : Str} : nIs "list" (.str z) = false := (rfl)
@[simp] theorem is_ll : nIs "list" (.list ds) = true := (rfl)
@[simp] theorem is_lt : nIs "list" (.tuple ds) = false := (rfl)
@[simp] theorem is_si {a : Int} : nIs "str" (.int a) = false := (rfl)
@[simp] theorem is_sn : nIs "str" .none = false := (rfl)
@[simp] theorem is_sb : nIs "str" (.bool k) = false := (rfl)
@[simp] theorem is_ss {z : Str} : nIs "str" (.str z) = true := (rfl)
@[simp] theorem is_sl : nIs "str" (.list ds) = false := (rfl)
@[simp] theorem is_st : nIs "str" (.tuple ds) = false := (rfl)
@[simp] theorem is_ii {a : Int} : nIs "int" (.int a) = true := (rfl)
@[simp] theorem is_in : nIs "int" .none = false := (rfl)
@[simp] theorem is_ib : nIs "int" (.bool k) = true := (rfl)
@[simp] theorem is_is {z : Str} : nIs "int" (.str z) = false := (rfl)
@[simp] theorem is_il : nIs "int" (.list ds) = false := (rfl)
@[simp] theorem is_it : nIs "int" (.tuple ds) = false := (rfl)
@[simp] theorem is_bi {a : Int} : nIs "bool" (.int a) = false := (rfl)
@[simp] theorem is_bn : nIs "bool" .none = false := (rfl)
@[simp] theorem is_bb : nIs "bool" (.bool k) = true := (rfl)
@[simp] theorem is_bs {z : Str} : nIs "bool" (.str z) = false := (rfl)
@[simp] theorem is_bl : nIs "bool" (.list ds) = false := (rfl)
@[simp] theorem is_bt : nIs "bool" (.tuple ds) = false := (rfl)
def qLen (ds : List D) : R D := pLen ds
@[simp] theorem qLen_l : qLen [.list ds] = .ok (.int ds.length) := (rfl)
@[simp] theorem qLen_t : qLen [.tuple ds] = .ok (.int ds.length) := (rfl)
theorem qLen_scr {ns : List Int} : qLen [scrD ns] = .ok (.int ns.length) := by
  show R.ok (PyData.int ((ns.map PyData.int).length : Nat)) = _
  rw [List.length_map]
def qAll (ds : List D) : R D := pAll ds
theorem qAll_ok {bs : List Bool} : qAll [.list (bs.map .bool)] = .ok (.bool (bs.all id)) := by
  show (match asBools (bs.map .bool) with | some bs => R.ok (PyData.bool (bs.all id)) | none => .bad) = _
  rw [asBools_map]
def qAny (ds : List D) : R D := pAny ds
theorem qAny_ok {bs : List Bool} : qAny [.list (bs.map .bool)] = .ok (.bool (bs.any id)) := by
  show (match asBools (bs.map .bool) with | some bs => R.ok (PyData.bool (bs.any id)) | none => .bad) = _
  rw [asBools_map]
def qSum (ds : List D) : R D := pSum ds
theorem qSum_ok {bs : List Int} : qSum [.list (bs.map .int)] = .ok (.int bs.sum) := by
  show (match asInts (bs.map .int) with | some bs => R.ok (PyData.int bs.sum) | none => .bad) = _
  rw [asInts_map]
def qAbs (ds : List D) : R D := pAbs ds
@[simp] theorem qAbs_ok {a : Int} : qAbs [.int a] = .ok (.int (if a < 0 then -a else a)) := (rfl)
def qMin (ds : List D) : R D := pMin ds
@[simp] theorem qMin_2 {a b : Int} : qMin [.int a, .int b] = .ok (.int (if b < a then b else a)) := (rfl)
theorem qMin_l {a : Int} {bs : List Int} : qMin [.list ((a :: bs).map .int)] = .ok (.int (minI a bs)) := by
  show (match asInts ((a :: bs).map .int) with | some (n :: ns) => R.ok (PyData.int (minI n ns)) | _ => .bad) = _
  rw [asInts_map]
def qMax (ds : List D) : R D := pMax ds
@[simp] theorem qMax_2 {a b : Int} : qMax [.int a, .int b] = .ok (.int (if b > a then b else a)) := (rfl)
theorem qMax_l {a : Int} {bs : List Int} : qMax [.list ((a :: bs).map .int)] = .ok (.int (maxI a bs)) := by
  show (match asInts ((a :: bs).map .int) with | some (n :: ns) => R.ok (PyData.int (maxI n ns)) | _ => .bad) = _
  rw [asInts_map]
def qList (ds : List D) : R D := pList ds
@[simp] theorem qList_l : qList [.list ds] = .ok (.list ds) := (rfl)
@[simp] theorem qList_t : qList [.tuple ds] = .ok (.list ds) := (rfl)
def qTuple (ds : List D) : R D := pTuple ds
@[simp] theorem qTuple_l : qTuple [.list ds] = .ok (.tuple ds) := (rfl)
@[simp] theorem qTuple_t : qTuple [.tuple ds] = .ok (.tuple ds) := (rfl)
def qInt (ds : List D) : R D := pInt ds
@[simp] theorem qInt_i {a : Int} : qInt [.int a] = .ok (.int a) := (rfl)
@[simp] theorem qInt_b : qInt [.bool k] = .ok (.int (if k then 1 else 0)) := (rfl)
def qSorted (ds : List D) : R D := pSorted ds
theorem intsOf_map (bs : List Int) : intsOf (bs.map .int) = some bs := by
  induction bs with
  | nil => rfl
  | cons b bs ih =>
    show (intsOf (bs.map .int)).map (b :: ·) = _
    rw [ih]
    rfl
theorem qSorted_i {bs : List Int} : qSorted [.list (bs.map .int)] = .ok (.list ((sortI bs).map .int)) := by
  show (match intsOf (bs.map .int) with | some xs => R.ok (PyData.list ((sortI xs).map .int)) | none => .bad) = _
  rw [intsOf_map]
theorem qSorted_2 {a b : Int} : qSorted [.list [.int a, .int b]] = .ok (.list (if a ≤ b then [.int a, .int b] else [.int b, .int a])) := by
  rw [show ([.int a, .int b] : List D) = [a, b].map .int from rfl, qSorted_i]
  show R.ok (PyData.list ((if a ≤ b then [a, b] else [b, a]).map PyData.int)) = _
  split <;> rfl
def qMinD (ds : List D) : R D := pMinD ds
def qSortD (ds : List D) : R D := pSortD ds
def qLenSet (d : D) : R D := pLenSet d
def nLenSet (f : Rho → R D) : Rho → R D := rLenSet f
@[simp] theorem nLenSet_c : nLenSet f (x :: ρ) = kR (f (x :: ρ)) qLenSet := (rfl)
def qKGet (tab : List (Str × D)) (d : D) : R D := pKGet tab d
def nKGet (tab : List (Str × D)) (f : Rho → R D) : Rho → R D := rKGet tab f
@[simp] theorem nKGet_c {tab : List (Str × D)} : nKGet tab f (x :: ρ) = kR (f (x :: ρ)) (qKGet tab) := (rfl)
theorem qKGet_s {tab : List (Str × D)} {z : Str} (h : lookS tab z = some d) : qKGet tab (.str z) = .ok d := by
  show orBad (lookS tab z) = _
  rw [h]
def nDisp (fs : List (Str × (Rho → R D))) : Rho → R D := rDisp fs
def nGet2 (fm fk fd : Rho → R D) : Rho → R D := rGet2 fm fk fd
def nIndexF (fa fb : Rho → R D) : Rho → R D := rIndexF fa fb
def kIndexF (a b : R D) : R D := a.bind fun x => (asLs x).bind fun x => b.bind fun y => pIndex x y
@[simp] theorem nIndexF_c : nIndexF fa fb (x :: ρ) = kIndexF (fa (x :: ρ)) (fb (x :: ρ)) := (rfl)
def nTell (wd : Er → Str) (f : Rho → R D) : Rho → R D := rTell wd f
def kTell (wd : Er → Str) (r : R D) : R D := tellR wd r
@[simp] theorem nTell_c {wd : Er → Str} : nTell wd f (x :: ρ) = kTell wd (f (x :: ρ)) := (rfl)
@[simp] theorem kTell_ok {wd : Er → Str} : kTell wd (.ok d) = .ok d := (rfl)
@[simp] theorem kTell_err {wd : Er → Str} : kTell wd (.err c) = .ok (.str (wd c)) := (rfl)
def nRawIs (i : Nat) (v : V) (k : Bool) : Rho → R D := rRawIs i v k
@[simp] theorem nRawIs_c {v : V} : nRawIs 0 v k (.raw v :: ρ) = .ok (.bool k) := if_pos rfl

/-! loops -/
theorem forL_nil : forL ft gb [] ρ = .nx ρ := rfl
theorem forL_cons {bs : Bn} {ρ' : Rho} (e : ft d = some bs) (h : gb (nSets ρ bs) = .nx ρ') : forL ft gb (d :: ds) ρ = forL ft gb ds ρ' := by
  show oN (ft d) _ = _
  rw [e]
  show (match gb (nSets ρ bs) with
    | .nx ρ' => forL ft gb ds ρ'
    | .ct ρ' => forL ft gb ds ρ'
    | .brk ρ' => .nx ρ'
    | .ret d => .ret d
    | .err c => .err c
    | .bad => .bad) = _
  rw [h]
theorem forL_ct {bs : Bn} {ρ' : Rho} (e : ft d = some bs) (h : gb (nSets ρ bs) = .ct ρ') : forL ft gb (d :: ds) ρ = forL ft gb ds ρ' := by
  show oN (ft d) _ = _
  rw [e]
  show (match gb (nSets ρ bs) with
    | .nx ρ' => forL ft gb ds ρ'
    | .ct ρ' => forL ft gb ds ρ'
    | .brk ρ' => .nx ρ'
    | .ret d => .ret d
    | .err c => .err c
    | .bad => .bad) = _
  rw [h]
theorem forL_err {bs : Bn} (e : ft d = some bs) (h : gb (nSets ρ bs) = .err c) : forL ft gb (d :: ds) ρ = .err c := by
  show oN (ft d) _ = _
  rw [e]
  show (match gb (nSets ρ bs) with
    | .nx ρ' => forL ft gb ds ρ'
    | .ct ρ' => forL ft gb ds ρ'
    | .brk ρ' => .nx ρ'
    | .ret d => .ret d
    | .err c => .err c
    | .bad => .bad) = _
  rw [h]
theorem forL_ret {bs : Bn} {d' : D} (e : ft d = some bs) (h : gb (nSets ρ bs) = .ret d') : forL ft gb (d :: ds) ρ = .ret d' := by
  show oN (ft d) _ = _
  rw [e]
  show (match gb (nSets ρ bs) with
    | .nx ρ' => forL ft gb ds ρ'
    | .ct ρ' => forL ft gb ds ρ'
    | .brk ρ' => .nx ρ'
    | .ret d => .ret d
    | .err c => .err c
    | .bad => .bad) = _
  rw [h]
/-- a loop by what holds ahead of each turn -/
theorem forL_inv (I : Nat → Rho → Prop) (h0 : I 0 ρ) (hs : ∀ i d ρ, ds[i]? = some d → I i ρ → ∃ bs ρ', ft d = some bs ∧ gb (nSets ρ bs) = .nx ρ' ∧ I (i + 1) ρ') : ∃ ρ', forL ft gb ds ρ = .nx ρ' ∧ I ds.length ρ' := by
  have key : ∀ (ds : List D) (n : Nat) (ρ : Rho), I n ρ → (∀ i d ρ, ds[i]? = some d → I (n + i) ρ → ∃ bs ρ', ft d = some bs ∧ gb (nSets ρ bs) = .nx ρ' ∧ I (n + i + 1) ρ') → ∃ ρ', forL ft gb ds ρ = .nx ρ' ∧ I (n + ds.length) ρ' := by
    intro ds
    induction ds with
    | nil => exact fun n ρ h _ => ⟨ρ, rfl, h⟩
    | cons d ds ih =>
      intro n ρ h hs
      obtain ⟨bs, ρ', e1, e2, e3⟩ := hs 0 d ρ rfl h
      obtain ⟨ρ2, q1, q2⟩ := ih (n + 1) ρ' e3 fun i d ρ hd hI => by
        have z := hs (i + 1) d ρ (by simpa using hd) (by rw [show n + (i + 1) = n + 1 + i by omega]; exact hI)
        rw [show n + (i + 1) + 1 = n + 1 + i + 1 by omega] at z
        exact z
      refine ⟨ρ2, by rw [forL_cons e1 e2]; exact q1, ?_⟩
      rw [List.length_cons, show n + (ds.length + 1) = n + 1 + ds.length by omega]
      exact q2
  have z := key ds 0 ρ h0 fun i d ρ hd hI => by
    rw [Nat.zero_add] at hI ⊢
    exact hs i d ρ hd hI
  rw [Nat.zero_add] at z
  exact z
/-- the same, whatever the turn -/
theorem forL_all (I : Rho → Prop) (h0 : I ρ) (hs : ∀ d ∈ ds, ∀ ρ, I ρ → ∃ bs ρ', ft d = some bs ∧ gb (nSets ρ bs) = .nx ρ' ∧ I ρ') : ∃ ρ', forL ft gb ds ρ = .nx ρ' ∧ I ρ' :=
  forL_inv (fun _ => I) h0 fun i d ρ hd hI => hs d (List.mem_of_getElem? hd) ρ hI
/-- a loop that folds -/
theorem forL_fold {α γ : Type} (u : γ → D) (st : α → Rho) (step : α → γ → α) : ∀ (xs : List γ) (a : α), (∀ a, ∀ x ∈ xs, ∃ bs, ft (u x) = some bs ∧ gb (nSets (st a) bs) = .nx (st (step a x))) → forL ft gb (xs.map u) (st a) = .nx (st (xs.foldl step a))
  | [], a, _ => rfl
  | x :: xs, a, h => by
    obtain ⟨bs, e1, e2⟩ := h a x (List.mem_cons_self ..)
    rw [List.map_cons, forL_cons e1 e2, forL_fold u st step xs (step a x) fun a y hy => h a y (List.mem_cons_of_mem _ hy)]
    rfl
theorem lcL_map {γ : Type} {u : γ → D} {y : γ → D} : ∀ {xs : List γ}, (∀ z ∈ xs, ∃ bs, ft (u z) = some bs ∧ tt (nSets ρ bs) = .ok true ∧ fe (nSets ρ bs) = .ok (y z)) → lcL ft tt fe ρ (xs.map u) = .ok (xs.map y)
  | [], _ => rfl
  | z :: xs, H => by
    obtain ⟨bs, e1, e2, e3⟩ := H z (List.mem_cons_self ..)
    have ih := lcL_map (xs := xs) fun w hw => H w (List.mem_cons_of_mem _ hw)
    show (match ft (u z) with
      | none => R.bad
      | some bs => (noErr (tt (nSets ρ bs))).bind fun k => if k = true then (noErr (fe (nSets ρ bs))).bind fun y => (lcL ft tt fe ρ (xs.map u)).bind fun ys => .ok (y :: ys) else lcL ft tt fe ρ (xs.map u)) = _
    rw [e1]
    show ((noErr (tt (nSets ρ bs))).bind fun k => if k = true then (noErr (fe (nSets ρ bs))).bind fun y => (lcL ft tt fe ρ (xs.map u)).bind fun ys => .ok (y :: ys) else lcL ft tt fe ρ (xs.map u)) = _
    rw [e2, e3, ih]
    rfl
theorem lcL_filter {γ : Type} {u : γ → D} {y : γ → D} {p : γ → Bool} : ∀ {xs : List γ}, (∀ z ∈ xs, ∃ bs, ft (u z) = some bs ∧ tt (nSets ρ bs) = .ok (p z) ∧ (p z = true → fe (nSets ρ bs) = .ok (y z))) → lcL ft tt fe ρ (xs.map u) = .ok ((xs.filter p).map y)
  | [], _ => rfl
  | z :: xs, H => by
    obtain ⟨bs, e1, e2, e3⟩ := H z (List.mem_cons_self ..)
    have ih := lcL_filter (xs := xs) fun w hw => H w (List.mem_cons_of_mem _ hw)
    show (match ft (u z) with
      | none => R.bad
      | some bs => (noErr (tt (nSets ρ bs))).bind fun k => if k = true then (noErr (fe (nSets ρ bs))).bind fun y => (lcL ft tt fe ρ (xs.map u)).bind fun ys => .ok (y :: ys) else lcL ft tt fe ρ (xs.map u)) = _
    rw [e1]
    show ((noErr (tt (nSets ρ bs))).bind fun k => if k = true then (noErr (fe (nSets ρ bs))).bind fun y => (lcL ft tt fe ρ (xs.map u)).bind fun ys => .ok (y :: ys) else lcL ft tt fe ρ (xs.map u)) = _
    rw [e2]
    cases q : p z with
    | true =>
      rw [e3 q, ih, List.filter_cons_of_pos q]
      rfl
    | false =>
      rw [List.filter_cons_of_neg (by rw [q]; decide)]
      exact ih
/-! defs as values -/
def nForF (i : Nat) (bs : List (V × (Rho → O))) : Rho → O := gForF i bs
@[simp] theorem nForF_c {bs : List (V × (Rho → O))} : nForF i bs (x :: ρ) = if ((x :: ρ).all fun s => !s.isOwn) = true then forF i bs (x :: ρ) else .bad := (rfl)
theorem forF_cons {v : V} {bs : List (V × (Rho → O))} {ρ' : Rho} (h : gb (ρ.set i (.raw v)) = .nx ρ') : forF i ((v, gb) :: bs) ρ = forF i bs ρ' := by
  show (match gb (ρ.set i (.raw v)) with
    | .nx ρ' => forF i bs ρ'
    | .ct ρ' => forF i bs ρ'
    | .brk ρ' => .nx ρ'
    | .ret d => .ret d
    | .err c => .err c
    | .bad => .bad) = _
  rw [h]
theorem forF_nil : forF i [] ρ = .nx ρ := rfl
def nRaw (i : Nat) (ρ : Rho) : Option V := match ρ[i]? with
  | some (.raw u) => some u
  | _ => none
@[simp] theorem nRaw_s : nRaw (i + 1) (x :: ρ) = nRaw i ρ := (rfl)
@[simp] theorem nRaw_z {v : V} : nRaw 0 (.raw v :: ρ) = some v := (rfl)
def nRawF (i : Nat) (v : V) (fs : Rho → R (List D)) : Rho → R (List D) := rRawF i v fs
def kRawF (o : Option V) (v : V) (r : R (List D)) : R (List D) := match o with
  | some u => if u = v then r else .bad
  | none => .bad
@[simp] theorem nRawF_c {v : V} : nRawF i v fs (x :: ρ) = kRawF (nRaw i (x :: ρ)) v (fs (x :: ρ)) := by
  show (match (x :: ρ)[i]? with | some (.raw u) => if u = v then fs (x :: ρ) else .bad | _ => .bad) = _
  unfold kRawF nRaw
  cases (x :: ρ)[i]? with
  | none => rfl
  | some s => cases s <;> rfl
@[simp] theorem kRawF_ok {v : V} {r : R (List D)} : kRawF (some v) v r = r := if_pos rfl
@[simp] theorem own_no : Sl.isOwn .no = false := (rfl)
@[simp] theorem own_dat : Sl.isOwn (.dat d) = false := (rfl)
@[simp] theorem own_raw {v : V} : Sl.isOwn (.raw v) = false := (rfl)
/-! new lists -/
def nNewApp (fs : Rho → R (List D)) (n : Nat) (m : List D → R (List D)) (f : Rho → R D) : Rho → O := gNewApp fs n m f
def kNewApp (r : R (List D)) (n : Nat) (m : List D → R (List D)) (s : R D) (ρ : Rho) : O := oB r fun ds => if ds.length = n then oB (m ds) fun es => oB s fun _ => if es.length < maxL then .nx ρ else .bad else .bad
@[simp] theorem nNewApp_c {m : List D → R (List D)} : nNewApp fs n m f (x :: ρ) = kNewApp (fs (x :: ρ)) n m (f (x :: ρ)) (x :: ρ) := (rfl)
theorem kNewApp_ok {m : List D → R (List D)} (h : m ds = .ok es) (hl : ds.length = n) (h2 : es.length < 100000) : kNewApp (.ok ds) n m (.ok d) ρ = .nx ρ := by
  show (if ds.length = n then oB (m ds) fun es => if es.length < maxL then .nx ρ else .bad else .bad) = _
  rw [if_pos hl, h]
  exact if_pos h2
def nRunN (n : Nat) (g : Rho → O) (i : Nat) (ds : List D) : R (List D) := runN n g i ds
def kFinN (o : O) (i : Nat) : R (List D) := match o with
  | .nx ρ => getO ρ i
  | .err c => .err c
  | _ => .bad
theorem nRunN_eq : nRunN n g1 i ds = kFinN (g1 (ds.map Sl.dat ++ List.replicate (n - ds.length) .no)) i := rfl
@[simp] theorem kFinN_nx : kFinN (.nx ρ) i = nGetO i ρ := (rfl)
@[simp] theorem kFinN_err : kFinN (.err c) i = .err c := (rfl)
def qStr (ds : List D) : R D := pStr ds
@[simp] theorem qStr_b : qStr [.bool k] = .ok (.str (if k then "True" else "False")) := (rfl)
end
end Py

namespace Py
open PySem PySem.Spec PyProof.Rows L2 LamX
/-! ### kinds and rules -/
inductive Kd where
  | flat | each | base | frm | packs | gift | least | most | off
  deriving DecidableEq
def Kd.s : Kd → Str
  | .flat => "flat" | .each => "each" | .base => "base" | .frm => "from" | .packs => "packs" | .gift => "gift" | .least => "least" | .most => "most" | .off => "off"
def Kd.d (k : Kd) : D := .str k.s
def Kd.bs : Kd → List (Int × Int)
  | .flat => [(0, 9)] | .each => [(0, 9)] | .base => [(0, 9), (0, 9)] | .frm => [(0, 9), (1, 5), (0, 9)] | .packs => [(0, 9), (1, 5)] | .gift => [(0, 9), (1, 5)] | .least => [(0, 9), (0, 9)] | .most => [(0, 9), (0, 9)] | .off => [(0, 9), (1, 5), (0, 9)]
def boD (p : Int × Int) : D := .tuple [.int p.1, .int p.2]
def kdAll : List Kd := [.flat, .each, .base, .frm, .packs, .gift, .least, .most, .off]
theorem mem_kdAll (k : Kd) : k ∈ kdAll := by cases k <;> decide
inductive Ru where
  | flat (a : Int) | each (a : Int) | base (a b : Int) | frm (a n b : Int) | packs (a n : Int) | gift (a n : Int) | least (a b : Int) | most (a b : Int) | off (a n c : Int)
  deriving DecidableEq
def Ru.kd : Ru → Kd
  | .flat _ => .flat | .each _ => .each | .base _ _ => .base | .frm _ _ _ => .frm | .packs _ _ => .packs | .gift _ _ => .gift | .least _ _ => .least | .most _ _ => .most | .off _ _ _ => .off
def Ru.xs : Ru → List Int
  | .flat a => [a] | .each a => [a] | .base a b => [a, b] | .frm a n b => [a, n, b] | .packs a n => [a, n] | .gift a n => [a, n] | .least a b => [a, b] | .most a b => [a, b] | .off a n c => [a, n, c]
def Ru.d (r : Ru) : D := .tuple (.str r.kd.s :: r.xs.map .int)
def Ru.ok : Ru → Prop
  | .flat a => 0 ≤ a ∧ a ≤ 9 | .each a => 0 ≤ a ∧ a ≤ 9 | .base a b => (0 ≤ a ∧ a ≤ 9) ∧ (0 ≤ b ∧ b ≤ 9) | .frm a n b => (0 ≤ a ∧ a ≤ 9) ∧ (1 ≤ n ∧ n ≤ 5) ∧ (0 ≤ b ∧ b ≤ 9) | .packs a n => (0 ≤ a ∧ a ≤ 9) ∧ (1 ≤ n ∧ n ≤ 5) | .gift a n => (0 ≤ a ∧ a ≤ 9) ∧ (1 ≤ n ∧ n ≤ 5)
  | .least a b => (0 ≤ a ∧ a ≤ 9) ∧ (0 ≤ b ∧ b ≤ 9) | .most a b => (0 ≤ a ∧ a ≤ 9) ∧ (0 ≤ b ∧ b ≤ 9) | .off a n c => (0 ≤ a ∧ a ≤ 9) ∧ (1 ≤ n ∧ n ≤ 5) ∧ (0 ≤ c ∧ c ≤ 9)
/-- what so many cost -/
def Ru.price (q : Int) : Ru → Int
  | .flat a => a | .each a => a * q | .base a b => a + b * q | .frm a n b => a * (if n < q then n else q) + b * (if q - n > 0 then q - n else 0) | .packs a n => a * ((q + n - 1) / n) | .gift a n => a * (q - q / n)
  | .least a b => if b * q > a then b * q else a | .most a b => if b * q < a * 5 then b * q else a * 5 | .off a n c => if a * q - (if n ≤ q then c else 0) > 0 then a * q - (if n ≤ q then c else 0) else 0
def rg (lo hi : Int) : List Int := (List.range (hi + 1 - lo).toNat).map fun (i : Nat) => lo + i
theorem mem_rg {lo hi z : Int} : z ∈ rg lo hi ↔ lo ≤ z ∧ z ≤ hi := by
  unfold rg
  rw [List.mem_map]
  constructor
  · rintro ⟨i, h, rfl⟩
    rw [List.mem_range] at h
    omega
  · intro h
    exact ⟨(z - lo).toNat, List.mem_range.mpr (by omega), by omega⟩
theorem rng_rg {lo hi : Int} : rng lo (hi + 1) = (rg lo hi).map .int := by
  unfold rng rg
  rw [List.map_map]
  rfl
def Kd.rules : Kd → List Ru
  | .flat => (rg 0 9).map .flat
  | .each => (rg 0 9).map .each
  | .base => (rg 0 9).flatMap fun a => (rg 0 9).map fun b => .base a b
  | .frm => (rg 0 9).flatMap fun a => (rg 1 5).flatMap fun n => (rg 0 9).map fun b => .frm a n b
  | .packs => (rg 0 9).flatMap fun a => (rg 1 5).map fun b => .packs a b
  | .gift => (rg 0 9).flatMap fun a => (rg 1 5).map fun b => .gift a b
  | .least => (rg 0 9).flatMap fun a => (rg 0 9).map fun b => .least a b
  | .most => (rg 0 9).flatMap fun a => (rg 0 9).map fun b => .most a b
  | .off => (rg 0 9).flatMap fun a => (rg 1 5).flatMap fun n => (rg 0 9).map fun b => .off a n b
def allRules (ks : List Kd) : List Ru := ks.flatMap Kd.rules
theorem mem_rules {k : Kd} {r : Ru} : r ∈ k.rules ↔ r.kd = k ∧ r.ok := by
  cases k <;> cases r <;> simp [Kd.rules, Ru.kd, Ru.ok, mem_rg, List.mem_flatMap, List.mem_map]
  all_goals
    constructor
    · rintro ⟨a, h1, n, h2, b, h3, rfl, rfl, rfl⟩
      exact ⟨h1, h2, h3⟩
    · rintro ⟨h1, h2, h3⟩
      exact ⟨_, h1, _, h2, _, h3, rfl, rfl, rfl⟩
theorem mem_allRules {ks : List Kd} {r : Ru} : r ∈ allRules ks ↔ r.kd ∈ ks ∧ r.ok := by
  unfold allRules
  rw [List.mem_flatMap]
  constructor
  · rintro ⟨k, h1, h2⟩
    rw [mem_rules] at h2
    exact ⟨by rw [h2.1]; exact h1, h2.2⟩
  · rintro ⟨h1, h2⟩
    exact ⟨r.kd, h1, mem_rules.mpr ⟨rfl, h2⟩⟩
theorem rules_len (k : Kd) : k.rules.length ≤ 500 := by cases k <;> decide +kernel
theorem allRules_len (ks : List Kd) : (allRules ks).length ≤ 500 * ks.length := by
  unfold allRules
  induction ks with
  | nil => decide
  | cons k ks ih =>
    rw [List.flatMap_cons, List.length_append, List.length_cons]
    have := rules_len k
    omega
theorem rules_ne (k : Kd) : k.rules ≠ [] := by cases k <;> decide +kernel
theorem mulb {a x : Int} (ha : 0 ≤ a ∧ a ≤ 9) (hx : 0 ≤ x ∧ x ≤ 20) : 0 ≤ a * x ∧ a * x ≤ 180 :=
  ⟨Int.mul_nonneg ha.1 hx.1, by
    have h := Int.mul_le_mul ha.2 hx.2 hx.1 (by decide)
    omega⟩
theorem price_bd {r : Ru} (h : r.ok) {q : Int} (h0 : 0 ≤ q) (h1 : q ≤ 20) : 0 ≤ r.price q ∧ r.price q ≤ 400 := by
  cases r with
  | flat a =>
    simp only [Ru.price, Ru.ok] at h ⊢
    omega
  | each a =>
    have := mulb h ⟨h0, h1⟩
    simp only [Ru.price]
    omega
  | base a b =>
    have := mulb h.2 ⟨h0, h1⟩
    simp only [Ru.price, Ru.ok] at h ⊢
    omega
  | frm a n b =>
    have e1 := mulb (x := if n < q then n else q) h.1 (by have := h.2.1; split <;> omega)
    have e2 := mulb (x := if q - n > 0 then q - n else 0) h.2.2 (by have := h.2.1; split <;> omega)
    simp only [Ru.price]
    omega
  | packs a n =>
    have e1 := mulb (x := (q + n - 1) / n) h.1 (by
      have : n = 1 ∨ n = 2 ∨ n = 3 ∨ n = 4 ∨ n = 5 := by have := h.2; omega
      rcases this with rfl | rfl | rfl | rfl | rfl <;> omega)
    simp only [Ru.price]
    omega
  | gift a n =>
    have e1 := mulb (x := q - q / n) h.1 (by
      have : n = 1 ∨ n = 2 ∨ n = 3 ∨ n = 4 ∨ n = 5 := by have := h.2; omega
      rcases this with rfl | rfl | rfl | rfl | rfl <;> omega)
    simp only [Ru.price]
    omega
  | least a b =>
    have := mulb h.2 ⟨h0, h1⟩
    simp only [Ru.price, Ru.ok] at h ⊢
    split <;> omega
  | most a b =>
    have := mulb h.2 ⟨h0, h1⟩
    simp only [Ru.price, Ru.ok] at h ⊢
    split <;> omega
  | off a n c =>
    have := mulb h.1 ⟨h0, h1⟩
    simp only [Ru.price, Ru.ok] at h ⊢
    split <;> split <;> omega
/-! ### numbers -/
theorem okMul_l {i j : Int} (h : -1000000 ≤ i ∧ i ≤ 1000000) : okMul i j = true := by
  have : i.natAbs < 2 ^ 64 := by omega
  unfold okMul
  rw [decide_eq_true this]
  rfl
theorem okMul_r {i j : Int} (h : -1000000 ≤ j ∧ j ≤ 1000000) : okMul i j = true := by
  have : j.natAbs < 2 ^ 64 := by omega
  unfold okMul
  rw [decide_eq_true this, Bool.true_or, Bool.or_true]
theorem okMul_r64 {i j : Int} (h : j.natAbs < 2 ^ 64) : okMul i j = true := by
  unfold okMul
  rw [decide_eq_true h, Bool.true_or, Bool.or_true]
theorem okMul_w {i j : Int} (h : i.natAbs < 2 ^ 400) (h2 : j.natAbs < 2 ^ 400) : okMul i j = true := by
  unfold okMul
  rw [decide_eq_true h, decide_eq_true h2, Bool.true_and, Bool.or_true, Bool.or_true]
theorem qMul_l' {a b : Int} (h : -1000000 ≤ a ∧ a ≤ 1000000) : qMul (.int a) (.int b) = .ok (.int (a * b)) := qMul_i (okMul_l h)
theorem qMul_r' {a b : Int} (h : -1000000 ≤ b ∧ b ≤ 1000000) : qMul (.int a) (.int b) = .ok (.int (a * b)) := qMul_i (okMul_r h)
/-! ### texts held against each other -/
@[simp] theorem eq_flat_flat : qEq (.str "flat") (.str "flat") = .ok (.bool true) := by kernel_rfl
@[simp] theorem eq_flat_each : qEq (.str "flat") (.str "each") = .ok (.bool false) := by kernel_rfl
@[simp] theorem eq_flat_base : qEq (.str "flat") (.str "base") = .ok (.bool false) := by kernel_rfl
@[simp] theorem eq_flat_from : qEq (.str "flat") (.str "from") = .ok (.bool false) := by kernel_rfl
@[simp] theorem eq_flat_packs : qEq (.str "flat") (.str "packs") = .ok (.bool false) := by kernel_rfl
@[simp] theorem eq_flat_gift : qEq (.str "flat") (.str "gift") = .ok (.bool false) := by kernel_rfl
@[simp] theorem eq_flat_least : qEq (.str "flat") (.str "least") = .ok (.bool false) := by kernel_rfl
@[simp] theorem eq_flat_most : qEq (.str "flat") (.str "most") = .ok (.bool false) := by kernel_rfl
@[simp] theorem eq_flat_off : qEq (.str "flat") (.str "off") = .ok (.bool false) := by kernel_rfl
@[simp] theorem eq_each_flat : qEq (.str "each") (.str "flat") = .ok (.bool false) := by kernel_rfl
@[simp] theorem eq_each_each : qEq (.str "each") (.str "each") = .ok (.bool true) := by kernel_rfl
@[simp] theorem eq_each_base : qEq (.str "each") (.str "base") = .ok (.bool false) := by kernel_rfl
@[simp] theorem eq_each_from : qEq (.str "each") (.str "from") = .ok (.bool false) := by kernel_rfl
@[simp] theorem eq_each_packs : qEq (.str "each") (.str "packs") = .ok (.bool false) := by kernel_rfl
@[simp] theorem eq_each_gift : qEq (.str "each") (.str "gift") = .ok (.bool false) := by kernel_rfl
@[simp] theorem eq_each_least : qEq (.str "each") (.str "least") = .ok (.bool false) := by kernel_rfl
@[simp] theorem eq_each_most : qEq (.str "each") (.str "most") = .ok (.bool false) := by kernel_rfl
@[simp] theorem eq_each_off : qEq (.str "each") (.str "off") = .ok (.bool false) := by kernel_rfl
@[simp] theorem eq_base_flat : qEq (.str "base") (.str "flat") = .ok (.bool false) := by kernel_rfl
@[simp] theorem eq_base_each : qEq (.str "base") (.str "each") = .ok (.bool false) := by kernel_rfl
@[simp] theorem eq_base_base : qEq (.str "base") (.str "base") = .ok (.bool true) := by kernel_rfl
@[simp] theorem eq_base_from : qEq (.str "base") (.str "from") = .ok (.bool false) := by kernel_rfl
@[simp] theorem eq_base_packs : qEq (.str "base") (.str "packs") = .ok (.bool false) := by kernel_rfl
@[simp] theorem eq_base_gift : qEq (.str "base") (.str "gift") = .ok (.bool false) := by kernel_rfl
@[simp] theorem eq_base_least : qEq (.str "base") (.str "least") = .ok (.bool false) := by kernel_rfl
@[simp] theorem eq_base_most : qEq (.str "base") (.str "most") = .ok (.bool false) := by kernel_rfl
@[simp] theorem eq_base_off : qEq (.str "base") (.str "off") = .ok (.bool false) := by kernel_rfl
@[simp] theorem eq_from_flat : qEq (.str "from") (.str "flat") = .ok (.bool false) := by kernel_rfl
@[simp] theorem eq_from_each : qEq (.str "from") (.str "each") = .ok (.bool false) := by kernel_rfl
@[simp] theorem eq_from_base : qEq (.str "from") (.str "base") = .ok (.bool false) := by kernel_rfl
@[simp] theorem eq_from_from : qEq (.str "from") (.str "from") = .ok (.bool true) := by kernel_rfl
@[simp] theorem eq_from_packs : qEq (.str "from") (.str "packs") = .ok (.bool false) := by kernel_rfl
@[simp] theorem eq_from_gift : qEq (.str "from") (.str "gift") = .ok (.bool false) := by kernel_rfl
@[simp] theorem eq_from_least : qEq (.str "from") (.str "least") = .ok (.bool false) := by kernel_rfl
@[simp] theorem eq_from_most : qEq (.str "from") (.str "most") = .ok (.bool false) := by kernel_rfl
@[simp] theorem eq_from_off : qEq (.str "from") (.str "off") = .ok (.bool false) := by kernel_rfl
@[simp] theorem eq_packs_flat : qEq (.str "packs") (.str "flat") = .ok (.bool false) := by kernel_rfl
@[simp] theorem eq_packs_each : qEq (.str "packs") (.str "each") = .ok (.bool false) := by kernel_rfl
@[simp] theorem eq_packs_base : qEq (.str "packs") (.str "base") = .ok (.bool false) := by kernel_rfl
@[simp] theorem eq_packs_from : qEq (.str "packs") (.str "from") = .ok (.bool false) := by kernel_rfl
@[simp] theorem eq_packs_packs : qEq (.str "packs") (.str "packs") = .ok (.bool true) := by kernel_rfl
@[simp] theorem eq_packs_gift : qEq (.str "packs") (.str "gift") = .ok (.bool false) := by kernel_rfl
@[simp] theorem eq_packs_least : qEq (.str "packs") (.str "least") = .ok (.bool false) := by kernel_rfl
@[simp] theorem eq_packs_most : qEq (.str "packs") (.str "most") = .ok (.bool false) := by kernel_rfl
@[simp] theorem eq_packs_off : qEq (.str "packs") (.str "off") = .ok (.bool false) := by kernel_rfl
@[simp] theorem eq_gift_flat : qEq (.str "gift") (.str "flat") = .ok (.bool false) := by kernel_rfl
@[simp] theorem eq_gift_each : qEq (.str "gift") (.str "each") = .ok (.bool false) := by kernel_rfl
@[simp] theorem eq_gift_base : qEq (.str "gift") (.str "base") = .ok (.bool false) := by kernel_rfl
@[simp] theorem eq_gift_from : qEq (.str "gift") (.str "from") = .ok (.bool false) := by kernel_rfl
@[simp] theorem eq_gift_packs : qEq (.str "gift") (.str "packs") = .ok (.bool false) := by kernel_rfl
@[simp] theorem eq_gift_gift : qEq (.str "gift") (.str "gift") = .ok (.bool true) := by kernel_rfl
@[simp] theorem eq_gift_least : qEq (.str "gift") (.str "least") = .ok (.bool false) := by kernel_rfl
@[simp] theorem eq_gift_most : qEq (.str "gift") (.str "most") = .ok (.bool false) := by kernel_rfl
@[simp] theorem eq_gift_off : qEq (.str "gift") (.str "off") = .ok (.bool false) := by kernel_rfl
@[simp] theorem eq_least_flat : qEq (.str "least") (.str "flat") = .ok (.bool false) := by kernel_rfl
@[simp] theorem eq_least_each : qEq (.str "least") (.str "each") = .ok (.bool false) := by kernel_rfl
@[simp] theorem eq_least_base : qEq (.str "least") (.str "base") = .ok (.bool false) := by kernel_rfl
@[simp] theorem eq_least_from : qEq (.str "least") (.str "from") = .ok (.bool false) := by kernel_rfl
@[simp] theorem eq_least_packs : qEq (.str "least") (.str "packs") = .ok (.bool false) := by kernel_rfl
@[simp] theorem eq_least_gift : qEq (.str "least") (.str "gift") = .ok (.bool false) := by kernel_rfl
@[simp] theorem eq_least_least : qEq (.str "least") (.str "least") = .ok (.bool true) := by kernel_rfl
@[simp] theorem eq_least_most : qEq (.str "least") (.str "most") = .ok (.bool false) := by kernel_rfl
@[simp] theorem eq_least_off : qEq (.str "least") (.str "off") = .ok (.bool false) := by kernel_rfl
@[simp] theorem eq_most_flat : qEq (.str "most") (.str "flat") = .ok (.bool false) := by kernel_rfl
@[simp] theorem eq_most_each : qEq (.str "most") (.str "each") = .ok (.bool false) := by kernel_rfl
@[simp] theorem eq_most_base : qEq (.str "most") (.str "base") = .ok (.bool false) := by kernel_rfl
@[simp] theorem eq_most_from : qEq (.str "most") (.str "from") = .ok (.bool false) := by kernel_rfl
@[simp] theorem eq_most_packs : qEq (.str "most") (.str "packs") = .ok (.bool false) := by kernel_rfl
@[simp] theorem eq_most_gift : qEq (.str "most") (.str "gift") = .ok (.bool false) := by kernel_rfl
@[simp] theorem eq_most_least : qEq (.str "most") (.str "least") = .ok (.bool false) := by kernel_rfl
@[simp] theorem eq_most_most : qEq (.str "most") (.str "most") = .ok (.bool true) := by kernel_rfl
@[simp] theorem eq_most_off : qEq (.str "most") (.str "off") = .ok (.bool false) := by kernel_rfl
@[simp] theorem eq_off_flat : qEq (.str "off") (.str "flat") = .ok (.bool false) := by kernel_rfl
@[simp] theorem eq_off_each : qEq (.str "off") (.str "each") = .ok (.bool false) := by kernel_rfl
@[simp] theorem eq_off_base : qEq (.str "off") (.str "base") = .ok (.bool false) := by kernel_rfl
@[simp] theorem eq_off_from : qEq (.str "off") (.str "from") = .ok (.bool false) := by kernel_rfl
@[simp] theorem eq_off_packs : qEq (.str "off") (.str "packs") = .ok (.bool false) := by kernel_rfl
@[simp] theorem eq_off_gift : qEq (.str "off") (.str "gift") = .ok (.bool false) := by kernel_rfl
@[simp] theorem eq_off_least : qEq (.str "off") (.str "least") = .ok (.bool false) := by kernel_rfl
@[simp] theorem eq_off_most : qEq (.str "off") (.str "most") = .ok (.bool false) := by kernel_rfl
@[simp] theorem eq_off_off : qEq (.str "off") (.str "off") = .ok (.bool true) := by kernel_rfl
end Py

namespace Py
open PySem PySem.Spec PyProof.Rows L2 LamX
/-! ### what is a rule -/
def isCnt (d : D) (lo hi : Int) : Bool := match d with
  | .int i => decide (lo ≤ i) && decide (i ≤ hi)
  | _ => false
def kindOf (s : Str) : Option Kd := kdAll.find? fun k => k.s == s
def isRule : D → Bool
  | .tuple (.str s :: xs) => match kindOf s with
    | some k => decide (xs.length = k.bs.length) && (xs.zip k.bs).all fun p => isCnt p.1 p.2.1 p.2.2
    | none => false
  | _ => false
theorem kindOf_s (k : Kd) : kindOf k.s = some k := by cases k <;> kernel_rfl
theorem kindOf_some {s : Str} {k : Kd} (h : kindOf s = some k) : s = k.s := by
  have := List.find?_some h
  exact (beq_iff_eq.mp this).symm
theorem nCut_1 {α : Type} {x : α} {xs : List α} : nCut (x :: xs) (some 1) none = xs := by
  unfold nCut cut
  rw [HT.sIx_none, show (some (1 : Int)) = some ((1 : Nat) : Int) from rfl, HT.sIx_nat]
  simp
theorem nCut_lo {α : Type} {xs : List α} {i : Nat} : nCut xs (some (i : Int)) none = xs.drop i := by
  unfold nCut cut
  rw [HT.sIx_none, HT.sIx_nat]
  by_cases h : i ≤ xs.length
  · rw [Nat.min_eq_left h, List.take_of_length_le (by rw [List.length_drop]; omega)]
  · rw [Nat.min_eq_right (by omega), List.drop_eq_nil_of_le (Nat.le_refl _), List.drop_eq_nil_of_le (by omega), List.take_nil]
theorem nCut_hi {α : Type} {xs : List α} {i : Nat} : nCut xs none (some (i : Int)) = xs.take i := by
  unfold nCut cut
  rw [HT.sIx_none, HT.sIx_nat]
  by_cases h : i ≤ xs.length
  · simp [h]
  · rw [Nat.min_eq_right (by omega), Nat.sub_zero, List.drop_zero, List.take_of_length_le (by omega), List.take_of_length_le (by omega)]
theorem nCut_m1 {α : Type} {xs : List α} : nCut xs none (some (-1)) = xs.dropLast := by
  unfold nCut cut
  rw [HT.sIx_none]
  have : HT.sIx xs.length xs.length (some (-1)) = xs.length - 1 := by
    show (if (-1 : Int) < 0 then ((-1 : Int) + (xs.length : Int)).toNat else min (-1 : Int).toNat xs.length) = _
    rw [if_pos (by decide)]
    omega
  rw [this, List.drop_zero, Nat.sub_zero, List.dropLast_eq_take]
theorem zipD_map (xs : List D) (bs : List (Int × Int)) : zipD xs (bs.map boD) = (xs.zip bs).map fun p => .tuple [p.1, boD p.2] := by
  unfold zipD
  rw [List.zip_map_right, List.map_map]
  rfl
def kindsD : List D := kdAll.map Kd.d
theorem notIn_kinds {s : Str} : qNotIn (.str s) (.tuple [.str "flat", .str "each", .str "base", .str "from", .str "packs", .str "gift", .str "least", .str "most", .str "off"]) = .ok (.bool (kindOf s).isNone) := by
  show R.ok (PyData.bool (!(kindsD.any fun z => PyData.eqv z (.str s)))) = _
  have : ∀ ks : List Kd, ((ks.map Kd.d).any fun z => PyData.eqv z (.str s)) = (ks.find? fun k => k.s == s).isSome := by
    intro ks
    induction ks with
    | nil => rfl
    | cons k ks ih =>
      rw [List.map_cons, List.any_cons, ih, List.find?_cons]
      have e : PyData.eqv k.d (.str s) = (k.s == s) := by
        unfold Kd.d
        simp only [PyData.eqv]
      rw [e]
      cases q : (k.s == s) <;> simp
  unfold kindsD kindOf
  rw [this, Option.not_isSome]
/-! ### shapes -/
def Sh (n : Nat) (d : D) : Prop := d.canLay0 = true ∧ d.depth ≤ n
theorem Sh.mono {n m : Nat} {d : D} (h : Sh n d) (e : n ≤ m) : Sh m d := ⟨h.1, Nat.le_trans h.2 e⟩
theorem sh_none {n : Nat} : Sh n .none := ⟨by simp [PyData.canLay0], by simp [PyData.depth]⟩
theorem sh_bool {n : Nat} {k : Bool} : Sh n (.bool k) := ⟨by simp [PyData.canLay0], by simp [PyData.depth]⟩
theorem sh_int {n : Nat} {i : Int} : Sh n (.int i) := ⟨by simp [PyData.canLay0], by simp [PyData.depth]⟩
theorem sh_str {n : Nat} {z : Str} (h : PyData.strOk z = true) : Sh n (.str z) := ⟨by simp [PyData.canLay0, h], by simp [PyData.depth]⟩
theorem shs {n : Nat} : ∀ {ds : List D}, (∀ d ∈ ds, Sh n d) → PyData.canLayAll0 ds = true ∧ PyData.depthAll ds ≤ n
  | [], _ => ⟨rfl, Nat.zero_le _⟩
  | d :: ds, h => by
    obtain ⟨h1, h2⟩ := h d (List.mem_cons_self ..)
    obtain ⟨h3, h4⟩ := shs (ds := ds) fun e he => h e (List.mem_cons_of_mem _ he)
    simp only [PyData.canLayAll0, PyData.depthAll, h1, h3]
    exact ⟨rfl, Nat.max_le.mpr ⟨h2, h4⟩⟩
theorem sh_list {n : Nat} {ds : List D} (h : ∀ d ∈ ds, Sh n d) : Sh (n + 1) (.list ds) := by
  obtain ⟨h1, h2⟩ := shs h
  exact ⟨by simp only [PyData.canLay0, h1], by simp only [PyData.depth]; omega⟩
theorem sh_tup {n : Nat} {ds : List D} (h : ∀ d ∈ ds, Sh n d) : Sh (n + 1) (.tuple ds) := by
  obtain ⟨h1, h2⟩ := shs h
  exact ⟨by simp only [PyData.canLay0, h1], by simp only [PyData.depth]; omega⟩
theorem Sh.shaped {n : Nat} {d : D} (h : Sh n d) (e : n ≤ 64 := by decide) : SeqAt.shaped d = true := by
  unfold SeqAt.shaped
  rw [h.1, decide_eq_true (Nat.le_trans h.2 e)]
  rfl
theorem Sh.noDict {n : Nat} {d : D} (h : Sh n d) : unscr d = d := by
  cases d with
  | dict kv => simp [Sh, PyData.canLay0] at h
  | _ => rfl
theorem Sh.eq {n : Nat} {d e : D} (h : Sh n d) (h2 : Sh n e) (b : n ≤ 64 := by decide) : qEq d e = .ok (.bool (PyData.eqv d e)) := by
  rw [qEq_ok (by rw [h.noDict]; exact h.shaped b) (by rw [h2.noDict]; exact h2.shaped b), h.noDict, h2.noDict]
theorem Sh.ne {n : Nat} {d e : D} (h : Sh n d) (h2 : Sh n e) (b : n ≤ 64 := by decide) : qNe d e = .ok (.bool (!PyData.eqv d e)) := by
  rw [qNe_ok (by rw [h.noDict]; exact h.shaped b) (by rw [h2.noDict]; exact h2.shaped b), h.noDict, h2.noDict]
theorem Sh.eqv {n : Nat} {d : D} (h : Sh n d) : PyData.eqv d d = true := SeqAt.eqv_refl d h.1
theorem Sh.eqR {n : Nat} {d : D} (h : Sh n d) (b : n ≤ 64 := by decide) : qEq d d = .ok (.bool true) := by rw [h.eq h b, h.eqv]
theorem Sh.neR {n : Nat} {d : D} (h : Sh n d) (b : n ≤ 64 := by decide) : qNe d d = .ok (.bool false) := by rw [h.ne h b, h.eqv]; rfl
@[simp] theorem qEq_ii {a b : Int} : qEq (.int a) (.int b) = .ok (.bool (decide (a = b))) := by
  rw [(sh_int (n := 0)).eq sh_int]
  simp only [PyData.eqv]
  rfl
@[simp] theorem qNe_ii {a b : Int} : qNe (.int a) (.int b) = .ok (.bool (!decide (a = b))) := by
  rw [(sh_int (n := 0)).ne sh_int]
  simp only [PyData.eqv]
  rfl
@[simp] theorem qNe_nn : qNe .none .none = .ok (.bool false) := rfl
@[simp] theorem qNe_ni {a : Int} : qNe .none (.int a) = .ok (.bool true) := rfl
@[simp] theorem qNe_in {a : Int} : qNe (.int a) .none = .ok (.bool true) := rfl
@[simp] theorem qNe_bb {a b : Bool} : qNe (.bool a) (.bool b) = .ok (.bool (!decide (a = b))) := by cases a <;> cases b <;> rfl
@[simp] theorem qEq_bb {a b : Bool} : qEq (.bool a) (.bool b) = .ok (.bool (decide (a = b))) := by cases a <;> cases b <;> rfl
theorem kd_ok (k : Kd) : PyData.strOk k.s = true := by cases k <;> kernel_rfl
theorem sh_kd {n : Nat} {k : Kd} : Sh n k.d := sh_str (kd_ok k)
theorem sh_rule {r : Ru} : Sh 1 r.d := sh_tup fun d hd => by
  rcases List.mem_cons.mp hd with rfl | h
  · exact sh_str (kd_ok _)
  · obtain ⟨i, _, rfl⟩ := List.mem_map.mp h
    exact sh_int
theorem notIn_kindsL {s : Str} (h : PyData.strOk s = true) : qNotIn (.str s) (.list (kdAll.map Kd.d)) = .ok (.bool (kindOf s).isNone) := by
  have e := notIn_kinds (s := s)
  have c : (SeqAt.shaped (.str s) && SeqAt.shaped (.list (kdAll.map Kd.d))) = true := by
    rw [(sh_str (n := 0) h).shaped, (sh_list (n := 0) (ds := kdAll.map Kd.d) fun d hd => by
      obtain ⟨k, _, rfl⟩ := List.mem_map.mp hd
      exact sh_kd).shaped]
    rfl
  have e2 : qNotIn (.str s) (.list (kdAll.map Kd.d)) = R.ok (PyData.bool (!(kindsD.any fun z => PyData.eqv z (.str s)))) := by
    show R.bind (if (SeqAt.shaped (.str s) && SeqAt.shaped (.list (kdAll.map Kd.d))) = true then .ok ((kdAll.map Kd.d).any fun z => PyData.eqv z (.str s)) else .bad) (fun k => R.ok (PyData.bool (!k))) = _
    rw [if_pos c]
    rfl
  rw [e2]
  exact e
/-- plain parts -/
def flatNB : D → Bool
  | .none | .bool _ | .int _ => true
  | .str s => PyData.strOk s
  | _ => false
theorem sh_flat {n : Nat} {d : D} (h : flatNB d = true) : Sh n d := by
  cases d with
  | none => exact sh_none
  | bool b => exact sh_bool
  | int i => exact sh_int
  | str s => exact sh_str h
  | _ => cases h
theorem isCnt_iff {d : D} {lo hi : Int} : isCnt d lo hi = true ↔ ∃ i, d = .int i ∧ lo ≤ i ∧ i ≤ hi := by
  cases d <;> simp [isCnt]
/-- a rule, just if it is -/
theorem isRule_d {r : Ru} (h : r.ok) : isRule r.d = true := by
  unfold Ru.d isRule
  simp only [kindOf_s]
  cases r <;> simp [Ru.ok] at h <;> simp [Ru.kd, Ru.xs, Kd.bs, isCnt] <;> omega
theorem isRule_len {r : Ru} {xs : List D} (h : xs.length ≠ r.xs.length) : isRule (.tuple (.str r.kd.s :: xs)) = false := by
  unfold isRule
  simp only [kindOf_s]
  rw [decide_eq_false (by
    have : r.kd.bs.length = r.xs.length := by cases r <;> rfl
    rw [this]
    exact h), Bool.false_and]
/-! ### sets of kinds -/
theorem setStep_in {α : Type} [DecidableEq α] {acc : List α} {x : α} (h : x ∈ acc) : setStep acc x = acc := if_pos h
theorem setL_fold {α : Type} [DecidableEq α] : ∀ (xs acc : List α), (acc ++ xs).Nodup → xs.foldl setStep acc = acc ++ xs
  | [], acc, _ => by rw [List.append_nil]; rfl
  | x :: xs, acc, h => by
    have hx : x ∉ acc := fun z => (List.nodup_append.mp h).2.2 x z x (List.mem_cons_self ..) rfl
    rw [List.foldl_cons, show setStep acc x = acc ++ [x] from if_neg hx, setL_fold xs (acc ++ [x]) (by rw [List.append_assoc]; exact h), List.append_assoc]
    rfl
theorem setL_nodup {α : Type} [DecidableEq α] {xs : List α} (h : xs.Nodup) : setL xs = xs := setL_fold xs [] h
theorem setStep_nd {α : Type} [DecidableEq α] {acc : List α} (x : α) (h : acc.Nodup) : (setStep acc x).Nodup := by
  unfold setStep
  split
  · exact h
  · rename_i q
    exact List.nodup_append.mpr ⟨h, by simp, fun a ha b hb => by rw [List.mem_singleton.mp hb]; exact fun z => q (by rw [← z]; exact ha)⟩
theorem mem_setStep {α : Type} [DecidableEq α] {acc : List α} {x y : α} : y ∈ setStep acc x ↔ y ∈ acc ∨ y = x := by
  unfold setStep
  split
  · rename_i q
    exact ⟨.inl, fun z => z.elim id fun e => by rw [e]; exact q⟩
  · rw [List.mem_append, List.mem_singleton]
theorem setL_nd' {α : Type} [DecidableEq α] : ∀ (xs acc : List α), acc.Nodup → (xs.foldl setStep acc).Nodup
  | [], _, h => h
  | x :: xs, acc, h => setL_nd' xs _ (setStep_nd x h)
theorem setL_nd {α : Type} [DecidableEq α] (xs : List α) : (setL xs).Nodup := setL_nd' xs [] List.nodup_nil
theorem mem_setL' {α : Type} [DecidableEq α] {y : α} : ∀ (xs acc : List α), y ∈ xs.foldl setStep acc ↔ y ∈ acc ∨ y ∈ xs
  | [], acc => by simp
  | x :: xs, acc => by
    rw [List.foldl_cons, mem_setL' xs, mem_setStep, List.mem_cons, or_assoc]
theorem mem_setL {α : Type} [DecidableEq α] {y : α} {xs : List α} : y ∈ setL xs ↔ y ∈ xs := by
  unfold setL
  rw [mem_setL']
  simp
theorem setL_dup {α : Type} [DecidableEq α] {xs : List α} (h : ¬ xs.Nodup) : (setL xs).length ≠ xs.length := by
  intro e
  apply h
  have key : ∀ (xs acc : List α), (xs.foldl setStep acc).length = acc.length + xs.length → acc.Nodup → (acc ++ xs).Nodup := by
    intro xs
    induction xs with
    | nil =>
      intro acc _ h
      rw [List.append_nil]
      exact h
    | cons x xs ih =>
      intro acc e h
      rw [List.foldl_cons] at e
      have l1 := setL_len_aux xs (setStep acc x)
      have l2 := setStep_len acc x
      rw [List.length_cons] at e
      have l3 : (setStep acc x).length = acc.length + 1 := by omega
      have hx : x ∉ acc := fun z => by
        rw [setStep_in z] at l3
        omega
      have e2 : setStep acc x = acc ++ [x] := if_neg hx
      have := ih (setStep acc x) (by omega) (setStep_nd x h)
      rw [e2, List.append_assoc] at this
      exact this
  have := key xs [] (by simpa [setL] using e) List.nodup_nil
  simpa using this
theorem strsOf_map (bs : List Str) : strsOf (bs.map .str) = some bs := by
  induction bs with
  | nil => rfl
  | cons b bs ih =>
    show (strsOf (bs.map .str)).map (b :: ·) = _
    rw [ih]
    rfl
theorem kd_inj {a b : Kd} (h : a.s = b.s) : a = b := by
  have := kindOf_s a
  rw [h, kindOf_s] at this
  exact (Option.some.inj this).symm
theorem nodup_kds {ks : List Kd} : (ks.map Kd.s).Nodup ↔ ks.Nodup := by
  constructor
  · intro h
    induction ks with
    | nil => exact List.nodup_nil
    | cons k ks ih =>
      rw [List.map_cons, List.nodup_cons] at h
      exact List.nodup_cons.mpr ⟨fun z => h.1 (List.mem_map_of_mem z), ih h.2⟩
  · intro h
    induction ks with
    | nil => exact List.nodup_nil
    | cons k ks ih =>
      rw [List.nodup_cons] at h
      rw [List.map_cons, List.nodup_cons]
      exact ⟨fun z => by
        obtain ⟨j, hj, e⟩ := List.mem_map.mp z
        rw [kd_inj e] at hj
        exact h.1 hj, ih h.2⟩
theorem lenSet_kds {ks : List Kd} (h : ks.length < 4000) : qLenSet (.list (ks.map Kd.d)) = .ok (.int ((setL (ks.map Kd.s)).length : Nat)) := by
  show (if (ks.map Kd.d).length < 4000 then _ else _) = _
  rw [if_pos (by rw [List.length_map]; exact h)]
  have e : ks.map Kd.d = (ks.map Kd.s).map .str := by
    rw [List.map_map]
    rfl
  rw [e, strsOf_map]
theorem sh_kds {ks : List Kd} : Sh 1 (.list (ks.map Kd.d)) := sh_list fun d hd => by
  obtain ⟨k, _, rfl⟩ := List.mem_map.mp hd
  exact sh_kd
theorem sh_rules {rs : List Ru} : Sh 2 (.list (rs.map Ru.d)) := sh_list fun d hd => by
  obtain ⟨k, _, rfl⟩ := List.mem_map.mp hd
  exact sh_rule
theorem eq_nil {ds : List D} {n : Nat} (h : Sh (n + 1) (.list ds)) (b : n + 1 ≤ 64 := by decide) : qEq (.list ds) (.list []) = .ok (.bool ds.isEmpty) := by
  rw [h.eq (sh_list fun e he => by cases he) b]
  cases ds <;> simp [PyData.eqv, PyData.eqvAll]
theorem ne_nil {ds : List D} {n : Nat} (h : Sh (n + 1) (.list ds)) (b : n + 1 ≤ 64 := by decide) : qNe (.list ds) (.list []) = .ok (.bool (!ds.isEmpty)) := by
  rw [h.ne (sh_list fun e he => by cases he) b]
  cases ds <;> simp [PyData.eqv, PyData.eqvAll]
/-! ### drawn numbers -/
def drawn (c k : Int) : Int :=
  let m := (c * 6364136223846793005 + (k + 1) * 1442695040888963407) % 340282366920938463463374607431768211507
  let m := m * m % 340282366920938463463374607431768211297
  let m := (m % 18446744073709551557 + 1) * (m / 18446744073709551557 + 1) * m
  m % 340282366920938463463374607431768211507
theorem drawn_nn (c k : Int) : 0 ≤ drawn c k := Int.emod_nonneg _ (by decide)
theorem drawn_lt (c k : Int) : drawn c k < 340282366920938463463374607431768211507 := Int.emod_lt_of_pos _ (by decide)
def okD : D → Bool
  | .none | .bool _ | .int _ | .str _ => true
  | .tuple ds => ds.all flatNB
  | .list _ => true
  | .dict _ => false
theorem okD_r (r : Ru) : okD r.d = true := by
  show (flatNB (.str r.kd.s) && (r.xs.map PyData.int).all flatNB) = true
  show (PyData.strOk r.kd.s && _) = true
  rw [kd_ok, Bool.true_and, List.all_map]
  exact List.all_eq_true.mpr fun _ _ => rfl
/-- a cell -/
def cell (ns : List Int) (k : Nat) : Int := if ns = [] then k * 7919 else ns.getD (k % ns.length) 0 + (k / ns.length : Nat) * 104729
/-- the rule that a number tells -/
def Kd.ru (m : Int) : Kd → Ru
  | .flat => .flat (drawn m 0 % 10) | .each => .each (drawn m 0 % 10) | .base => .base (drawn m 0 % 10) (drawn m 1 % 10) | .frm => .frm (drawn m 0 % 10) (1 + drawn m 1 % 5) (drawn m 2 % 10) | .packs => .packs (drawn m 0 % 10) (1 + drawn m 1 % 5)
  | .gift => .gift (drawn m 0 % 10) (1 + drawn m 1 % 5) | .least => .least (drawn m 0 % 10) (drawn m 1 % 10) | .most => .most (drawn m 0 % 10) (drawn m 1 % 10) | .off => .off (drawn m 0 % 10) (1 + drawn m 1 % 5) (drawn m 2 % 10)
theorem ru_ok (m : Int) (k : Kd) : (k.ru m).ok := by
  cases k <;> simp only [Kd.ru, Ru.ok] <;> omega
theorem ru_kd (m : Int) (k : Kd) : (k.ru m).kd = k := by cases k <;> rfl
def kdAt (m : Int) : Kd := kdAll.getD (m % 9).toNat .flat
theorem kix_kinds (m : Int) : kIx (kdAll.map Kd.d) (m % 9) = .ok (kdAt m).d := by
  have h : 0 ≤ m % 9 ∧ m % 9 < 9 := by omega
  have e : m % 9 = ((m % 9).toNat : Int) := by omega
  have hi : (m % 9).toNat < kdAll.length := by show _ < 9; omega
  rw [e, kIx_nat (a := (kdAt m).d) (by
    rw [List.getElem?_map]
    unfold kdAt
    rw [List.getD_eq_getElem?_getD, List.getElem?_eq_getElem hi]
    rfl)]
theorem for_sum {gb : Rho → O} {rd qd kd : D} {S : Nat → Int} {q : Nat} (h0 : S 0 = 0)
    (hb : ∀ i : Nat, i < q → gb [.dat rd, .dat qd, .dat kd, .dat (.int (S i)), .dat (.int (1 + i))] = .nx [.dat rd, .dat qd, .dat kd, .dat (.int (S (i + 1))), .dat (.int (1 + i))]) :
    ∃ s, forL (bName 4) gb (rng 1 ((q : Int) + 1)) [.dat rd, .dat qd, .dat kd, .dat (.int 0), .no] = .nx [.dat rd, .dat qd, .dat kd, .dat (.int (S q)), s] := by
  have hl : (rng 1 ((q : Int) + 1)).length = q := by
    unfold rng
    rw [List.length_map, List.length_range]
    omega
  obtain ⟨ρ', e, s, h⟩ := forL_inv (ft := bName 4) (gb := gb) (ds := rng 1 ((q : Int) + 1)) (ρ := [.dat rd, .dat qd, .dat kd, .dat (.int 0), .no]) (fun i ρ => ∃ s, ρ = [.dat rd, .dat qd, .dat kd, .dat (.int (S i)), s]) ⟨.no, by rw [h0]⟩ fun i d ρ hd ⟨s, hρ⟩ => by
    have hi : i < q := by rw [← hl]; exact (List.getElem?_eq_some_iff.mp hd).1
    have ed : d = .int (1 + (i : Nat)) := by
      unfold rng at hd
      rw [List.getElem?_map, List.getElem?_range (by omega)] at hd
      exact (Option.some.inj hd).symm
    subst ed hρ
    exact ⟨[(4, .int (1 + (i : Nat)))], _, rfl, hb i hi, _, rfl⟩
  rw [hl] at h
  exact ⟨s, by rw [e, h]⟩
theorem if_or_lt {a b : Int} : sortI [a, b] = if a ≤ b then [a, b] else [b, a] := rfl
/-- what 0 to 20 cost -/
def Ru.row (r : Ru) : List Int := (List.range 21).map fun (q : Nat) => r.price q
theorem rng21 : rng 0 21 = (List.range 21).map fun (i : Nat) => (.int i : D) := by
  unfold rng
  simp
def slot (o : O) (i : Nat) : Sl := match o with
  | .nx ρ => ρ.getD i .no
  | _ => .no
/-- some kinds -/
def some1 (m : Int) : List Kd := (kdAll.zipIdx.filter fun p => drawn m p.2 % 3 == 0).map (·.1)
def some2 (m : Int) : List Kd := if m % 5 > 0 then (some1 m).filter fun k => k != .frm && k != .off else some1 m
def someK (m : Int) : List Kd := if some2 m ≠ [] then (some2 m).reverse else [kdAt (m / 8)]
theorem notIn_fo (k : Kd) : qNotIn k.d (.tuple [.str "from", .str "off"]) = .ok (.bool (k != .frm && k != .off)) := by cases k <;> kernel_rfl
theorem law_isr_loop : ∀ (ps : List (D × (Int × Int))) (a b s2 s3 s4 : Sl), (∀ p ∈ ps, flatNB p.1 = true) →
    (ps.all (fun p => isCnt p.1 p.2.1 p.2.2) = true → ∃ t2 t3 t4, forL (bTup [(bName 2), (bTup [(bName 3), (bName 4)])]) (nIf (nOr (nNot (nTru (nIsI "int" (nGet 2)))) (nOr (nTru (nIsI "bool" (nGet 2))) (nOr (nB (n2 (nGet 2) (nGet 3) qLt)) (nB (n2 (nGet 2) (nGet 4) qGt))))) (nRet (nC (.bool false))) nNx) (ps.map fun p => .tuple [p.1, boD p.2]) [a, b, s2, s3, s4] = .nx [a, b, t2, t3, t4]) ∧
    (ps.all (fun p => isCnt p.1 p.2.1 p.2.2) = false → forL (bTup [(bName 2), (bTup [(bName 3), (bName 4)])]) (nIf (nOr (nNot (nTru (nIsI "int" (nGet 2)))) (nOr (nTru (nIsI "bool" (nGet 2))) (nOr (nB (n2 (nGet 2) (nGet 3) qLt)) (nB (n2 (nGet 2) (nGet 4) qGt))))) (nRet (nC (.bool false))) nNx) (ps.map fun p => .tuple [p.1, boD p.2]) [a, b, s2, s3, s4] = .ret (.bool false))
  | [], a, b, s2, s3, s4, _ => ⟨fun _ => ⟨s2, s3, s4, rfl⟩, fun h => by cases h⟩
  | p :: ps, a, b, s2, s3, s4, h => by
    obtain ⟨i1, i2⟩ := law_isr_loop ps a b (.dat p.1) (.dat (.int p.2.1)) (.dat (.int p.2.2)) fun q hq => h q (List.mem_cons_of_mem _ hq)
    have hp := h p (List.mem_cons_self ..)
    have hstep : (nIf (nOr (nNot (nTru (nIsI "int" (nGet 2)))) (nOr (nTru (nIsI "bool" (nGet 2))) (nOr (nB (n2 (nGet 2) (nGet 3) qLt)) (nB (n2 (nGet 2) (nGet 4) qGt))))) (nRet (nC (.bool false))) nNx) [a, b, .dat p.1, .dat (.int p.2.1), .dat (.int p.2.2)] = if isCnt p.1 p.2.1 p.2.2 = true then .nx [a, b, .dat p.1, .dat (.int p.2.1), .dat (.int p.2.2)] else .ret (.bool false) := by
      obtain ⟨d, lo, hi⟩ := p
      cases d with
      | none => simp [isCnt]
      | bool k => simp [isCnt]
      | str s => simp [isCnt]
      | int i =>
        by_cases h1 : i < lo
        · have : ¬ lo ≤ i := by omega
          simp [isCnt, h1, this]
        · by_cases h2 : hi < i
          · have : ¬ i ≤ hi := by omega
            simp [isCnt, h1, h2, this]
          · have h3 : lo ≤ i := by omega
            have h4 : i ≤ hi := by omega
            simp [isCnt, h1, h2, h3, h4]
      | _ => cases hp
    cases q : isCnt p.1 p.2.1 p.2.2 with
    | true =>
      rw [q, if_pos rfl] at hstep
      refine ⟨fun ha => ?_, fun ha => ?_⟩
      · rw [List.all_cons, q, Bool.true_and] at ha
        obtain ⟨t2, t3, t4, e⟩ := i1 ha
        exact ⟨t2, t3, t4, by rw [List.map_cons, forL_cons (bs := [(2, p.1), (3, .int p.2.1), (4, .int p.2.2)]) rfl hstep, e]⟩
      · rw [List.all_cons, q, Bool.true_and] at ha
        rw [List.map_cons, forL_cons (bs := [(2, p.1), (3, .int p.2.1), (4, .int p.2.2)]) rfl hstep, i2 ha]
    | false =>
      rw [q, if_neg (by decide)] at hstep
      refine ⟨fun ha => ?_, fun _ => ?_⟩
      · rw [List.all_cons, q, Bool.false_and] at ha
        cases ha
      · rw [List.map_cons, forL_ret (bs := [(2, p.1), (3, .int p.2.1), (4, .int p.2.2)]) rfl hstep]
@[simp] theorem neBR : qNe (.str "BadRule") (.str "BadRule") = .ok (.bool false) := by kernel_rfl
@[simp] theorem neBB : qNe (.str "BadBill") (.str "BadBill") = .ok (.bool false) := by kernel_rfl
theorem nCut_lo1 {α : Type} {xs : List α} {i : Nat} : nCut xs (some ((i : Int) + 1)) none = xs.drop (i + 1) := nCut_lo (i := i + 1)
theorem some1_nd (m : Int) : (some1 m).Nodup := by
  have h : (some1 m).Sublist kdAll := by
    have e : kdAll = kdAll.zipIdx.map (·.1) := by decide
    unfold some1
    conv => rhs; rw [e]
    exact List.Sublist.map _ List.filter_sublist
  exact h.nodup (by decide)
theorem someK_ok (m : Int) : someK m ≠ [] ∧ (someK m).Nodup ∧ (someK m).length ≤ 9 := by
  have n1 := some1_nd m
  have n2 : (some2 m).Nodup := by
    unfold some2
    split
    · exact n1.sublist List.filter_sublist
    · exact n1
  have l1 : (some1 m).length ≤ 9 := by
    unfold some1
    rw [List.length_map]
    exact List.length_filter_le _ _
  have l2 : (some2 m).length ≤ 9 := by
    unfold some2
    split
    · exact Nat.le_trans (List.length_filter_le _ _) l1
    · exact l1
  unfold someK
  split
  · rename_i h
    exact ⟨by simpa using h, (List.reverse_perm _).nodup_iff.mpr n2, by rw [List.length_reverse]; exact l2⟩
  · exact ⟨by simp, by simp, by simp⟩

end Py

namespace Py
open PySem PySem.Spec PyProof.Rows L2 LamX
section
variable {ft : D → Option Bn} {gb : Rho → O} {ρ : Rho}
/-- a loop that may return -/
theorem forL_some {γ : Type} {u : γ → D} (f : γ → Option D) (I : Rho → Prop) : ∀ {xs : List γ} {ρ : Rho}, (∀ x ∈ xs, ∀ ρ, I ρ → ∃ bs, ft (u x) = some bs ∧ ((∃ d, f x = some d ∧ gb (nSets ρ bs) = .ret d) ∨ (f x = none ∧ ∃ ρ', gb (nSets ρ bs) = .nx ρ' ∧ I ρ'))) → I ρ →
    (∃ d, xs.findSome? f = some d ∧ forL ft gb (xs.map u) ρ = .ret d) ∨ (xs.findSome? f = none ∧ ∃ ρ', forL ft gb (xs.map u) ρ = .nx ρ' ∧ I ρ')
  | [], ρ, _, h0 => .inr ⟨rfl, ρ, rfl, h0⟩
  | x :: xs, ρ, h, h0 => by
    obtain ⟨bs, e, q⟩ := h x (List.mem_cons_self ..) ρ h0
    rcases q with ⟨d, q1, q2⟩ | ⟨q1, ρ', q2, q3⟩
    · exact .inl ⟨d, by rw [List.findSome?_cons, q1], by rw [List.map_cons, forL_ret e q2]⟩
    · have ih := forL_some f I (xs := xs) (fun y hy => h y (List.mem_cons_of_mem _ hy)) q3
      rw [List.findSome?_cons, q1, List.map_cons, forL_cons e q2]
      exact ih
end
theorem qAll_map {γ : Type} {xs : List γ} {p : γ → Bool} : qAll [.list (xs.map fun x => .bool (p x))] = .ok (.bool (xs.all p)) := by
  have := qAll_ok (bs := xs.map p)
  rw [List.map_map, List.all_map] at this
  exact this
theorem qAny_map {γ : Type} {xs : List γ} {p : γ → Bool} : qAny [.list (xs.map fun x => .bool (p x))] = .ok (.bool (xs.any p)) := by
  have := qAny_ok (bs := xs.map p)
  rw [List.map_map, List.any_map] at this
  exact this
theorem filter_isEmpty {γ : Type} {p : γ → Bool} : ∀ xs : List γ, (xs.filter p).isEmpty = xs.all fun x => !p x
  | [] => rfl
  | x :: xs => by
    have ih := filter_isEmpty (p := p) xs
    cases q : p x with
    | true =>
      rw [List.filter_cons_of_pos q, List.all_cons, q]
      rfl
    | false =>
      rw [List.filter_cons_of_neg (by rw [q]; decide), List.all_cons, q, ih]
      rfl
theorem ones_isEmpty {γ : Type} {xs : List γ} : Sh 1 (.list (xs.map fun _ => .int 1)) := sh_list fun d hd => by
  obtain ⟨_, _, rfl⟩ := List.mem_map.mp hd
  exact sh_int
/-! ### bills -/
abbrev Bl := Int × Int
def blOk (p : Bl) : Prop := (0 ≤ p.1 ∧ p.1 ≤ 20) ∧ (0 ≤ p.2 ∧ p.2 ≤ 999)
def blsOk (bs : List Bl) : Prop := bs.length ≤ 8 ∧ ∀ p ∈ bs, blOk p
def Ru.fit (r : Ru) (bs : List Bl) : Bool := bs.all fun p => decide (r.price p.1 = p.2)
def fitR (ks : List Kd) (bs : List Bl) : List Ru := (allRules ks).filter fun r => r.fit bs
theorem sh_bo {n : Nat} {p : Int × Int} : Sh (n + 1) (boD p) := sh_tup fun d hd => by
  rcases List.mem_cons.mp hd with rfl | hd
  · exact sh_int
  · rw [List.mem_singleton.mp hd]
    exact sh_int
theorem sh_bos {bs : List Bl} : Sh 2 (.list (bs.map boD)) := sh_list fun d hd => by
  obtain ⟨p, _, rfl⟩ := List.mem_map.mp hd
  exact sh_bo
theorem sh_ints {ns : List Int} : Sh 1 (.list (ns.map .int)) := sh_list fun d hd => by
  obtain ⟨p, _, rfl⟩ := List.mem_map.mp hd
  exact sh_int
/-- places -/
def rowD (row : List Nat) : D := .list (row.map fun (a : Nat) => .int a)
theorem rowD_ints (row : List Nat) : rowD row = .list ((row.map fun (a : Nat) => (a : Int)).map .int) := by
  unfold rowD
  rw [List.map_map]
  rfl
theorem sh_row {row : List Nat} : Sh 1 (rowD row) := by
  rw [rowD_ints]
  exact sh_ints
def sel (bs : List Bl) (row : List Nat) : List Bl := row.map fun a => bs.getD a (0, 0)
theorem sel_ok {bs : List Bl} (h : blsOk bs) {row : List Nat} (hr : ∀ a ∈ row, a < bs.length) : ∀ p ∈ sel bs row, blOk p := fun p hp => by
  obtain ⟨a, ha, rfl⟩ := List.mem_map.mp hp
  rw [List.getD_eq_getElem?_getD, List.getElem?_eq_getElem (hr a ha)]
  exact h.2 _ (List.getElem_mem _)
theorem lenSet_ints {ns : List Int} (h : ns.length < 4000) : qLenSet (.list (ns.map .int)) = .ok (.int ((setL ns).length : Nat)) := by
  cases ns with
  | nil => rfl
  | cons n ns =>
    show (if ((n :: ns).map PyData.int).length < 4000 then _ else _) = _
    rw [if_pos (by rw [List.length_map]; exact h), intsOf_map]
theorem nodup_cast {row : List Nat} : (row.map fun (a : Nat) => (a : Int)).Nodup ↔ row.Nodup := by
  constructor
  · intro h
    induction row with
    | nil => exact List.nodup_nil
    | cons k ks ih =>
      rw [List.map_cons, List.nodup_cons] at h
      exact List.nodup_cons.mpr ⟨fun z => h.1 (List.mem_map_of_mem z), ih h.2⟩
  · intro h
    induction row with
    | nil => exact List.nodup_nil
    | cons k ks ih =>
      rw [List.nodup_cons] at h
      rw [List.map_cons, List.nodup_cons]
      exact ⟨fun z => by
        obtain ⟨j, hj, e⟩ := List.mem_map.mp z
        rw [Int.ofNat_inj.mp e] at hj
        exact h.1 hj, ih h.2⟩
theorem lenSet_row {row : List Nat} (h : row.length < 4000) : ∃ n : Nat, (match rowD row with | .list ds => qLenSet (.list ds) | _ => .bad) = .ok (.int n) ∧ (n = row.length ↔ row.Nodup) := by
  refine ⟨(setL (row.map fun (a : Nat) => (a : Int))).length, ?_, ?_⟩
  · rw [rowD_ints]
    exact lenSet_ints (by rw [List.length_map]; exact h)
  · rw [← nodup_cast]
    constructor
    · intro e
      by_cases q : (row.map fun (a : Nat) => (a : Int)).Nodup
      · exact q
      · exact (setL_dup q (by rw [List.length_map]; exact e)).elim
    · intro q
      rw [setL_nodup q, List.length_map]
/-- the rising lists of so many places below n -/
def start (row : List Nat) : Nat := match row.getLast? with
  | none => 0
  | some l => l + 1
def chs (n : Nat) : Nat → List (List Nat)
  | 0 => [[]]
  | s + 1 => (chs n s).flatMap fun row => ((List.range n).drop (start row)).map fun a => row ++ [a]
theorem chs_mem {n : Nat} : ∀ {s : Nat} {row : List Nat}, row ∈ chs n s → row.length = s ∧ (∀ a ∈ row, a < n) ∧ row.Pairwise (· < ·)
  | 0, row, h => by
    rw [List.mem_singleton.mp h]
    exact ⟨rfl, fun a ha => (List.not_mem_nil ha).elim, List.Pairwise.nil⟩
  | s + 1, row, h => by
    obtain ⟨r, h1, h2⟩ := List.mem_flatMap.mp h
    obtain ⟨a, h3, rfl⟩ := List.mem_map.mp h2
    obtain ⟨i1, i2, i3⟩ := chs_mem h1
    have ha : start r ≤ a ∧ a < n := by
      obtain ⟨i, hi, e⟩ := List.mem_iff_getElem.mp h3
      rw [List.getElem_drop, List.getElem_range] at e
      rw [List.length_drop, List.length_range] at hi
      omega
    refine ⟨by rw [List.length_append, i1]; rfl, fun b hb => ?_, ?_⟩
    · rcases List.mem_append.mp hb with hb | hb
      · exact i2 b hb
      · rw [List.mem_singleton.mp hb]
        exact ha.2
    · refine List.pairwise_append.mpr ⟨i3, List.pairwise_singleton _ _, fun b hb c hc => ?_⟩
      rw [List.mem_singleton.mp hc]
      have : b < start r := by
        unfold start
        cases q : r.getLast? with
        | none =>
          rw [List.getLast?_eq_none_iff] at q
          rw [q] at hb
          cases hb
        | some l =>
          obtain ⟨r0, e⟩ := List.getLast?_eq_some_iff.mp q
          rw [e] at hb i3
          rcases List.mem_append.mp hb with hb | hb
          · have := (List.pairwise_append.mp i3).2.2 b hb l (List.mem_singleton.mpr rfl)
            show b < l + 1
            omega
          · rw [List.mem_singleton.mp hb]
            exact Nat.lt_succ_self _
      omega
theorem chs_all {n : Nat} : ∀ {s : Nat} {row : List Nat}, row.length = s → (∀ a ∈ row, a < n) → row.Pairwise (· < ·) → row ∈ chs n s
  | 0, row, h, _, _ => by
    rw [List.length_eq_zero_iff.mp h]
    exact List.mem_singleton.mpr rfl
  | s + 1, row, h, h2, h3 => by
    have hne : row ≠ [] := fun z => by rw [z] at h; cases h
    have e := (List.dropLast_concat_getLast hne).symm
    generalize row.dropLast = r at e
    generalize row.getLast hne = a at e
    subst e
    rw [List.length_append] at h
    have hp := List.pairwise_append.mp h3
    have ih := chs_all (n := n) (s := s) (row := r) (Nat.succ.inj h) (fun b hb => h2 b (List.mem_append_left _ hb)) hp.1
    refine List.mem_flatMap.mpr ⟨r, ih, List.mem_map.mpr ⟨a, ?_, rfl⟩⟩
    have ha := h2 a (List.mem_append_right _ (List.mem_singleton.mpr rfl))
    have hs : start r ≤ a := by
      unfold start
      cases q : r.getLast? with
      | none => exact Nat.zero_le _
      | some l =>
        have hl : l ∈ r := by
          obtain ⟨r0, e⟩ := List.getLast?_eq_some_iff.mp q
          rw [e]
          exact List.mem_append_right _ (List.mem_singleton.mpr rfl)
        have := hp.2.2 l hl a (List.mem_singleton.mpr rfl)
        show l + 1 ≤ a
        omega
    have : a = ((List.range n).drop (start r))[a - start r]'(by rw [List.length_drop, List.length_range]; omega) := by
      rw [List.getElem_drop, List.getElem_range]
      omega
    rw [this]
    exact List.getElem_mem _
theorem chs_len {n : Nat} : ∀ s, (chs n s).length ≤ n ^ s
  | 0 => Nat.le_refl _
  | s + 1 => by
    have ih := chs_len (n := n) s
    have key : ∀ rows : List (List Nat), (rows.flatMap fun row => ((List.range n).drop (start row)).map fun a => row ++ [a]).length ≤ rows.length * n := by
      intro rows
      induction rows with
      | nil => exact Nat.zero_le _
      | cons r rs ih =>
        rw [List.flatMap_cons, List.length_append, List.length_map, List.length_drop, List.length_range, List.length_cons, Nat.succ_mul]
        omega
    rw [Nat.pow_succ]
    exact Nat.le_trans (key _) (Nat.mul_le_mul_right _ ih)
/-- what bars -/
def miss (bs : List Bl) (r : Ru) : List Nat := (bs.zipIdx.filter fun p => !r.fit [p.1]).map (·.2)
def bars (ks : List Kd) (bs : List Bl) (row : List Nat) : Bool := (allRules ks).all fun r => (miss bs r).any fun a => decide (a ∈ row)
def barS (ks : List Kd) (bs : List Bl) : Option (List Nat) := if (fitR ks bs).isEmpty then (List.range bs.length).findSome? fun s => (chs bs.length (s + 1)).find? (bars ks bs) else none
def isBarN (ks : List Kd) (bs : List Bl) (row : List Nat) : Bool := decide row.Nodup && ((fitR ks (sel bs row)).isEmpty && row.all fun gone => !(fitR ks (sel bs (row.filter fun a => a != gone))).isEmpty)
theorem kIx_map {γ : Type} {u : γ → D} {xs : List γ} {i : Int} (h0 : 0 ≤ i) (h1 : i < xs.length) : ∃ x ∈ xs, kIx (xs.map u) i = .ok (u x) := by
  obtain ⟨n, rfl⟩ := Int.eq_ofNat_of_zero_le h0
  have hn : n < xs.length := by omega
  exact ⟨xs[n], List.getElem_mem hn, kIx_nat (by rw [List.getElem?_map, List.getElem?_eq_getElem hn]; rfl)⟩
theorem allRules_pos {ks : List Kd} (h : ks ≠ []) : (0 : Int) < (allRules ks).length := by
  cases ks with
  | nil => exact (h rfl).elim
  | cons k ks =>
    have : (allRules (k :: ks)).length ≠ 0 := fun z => by
      have := List.length_eq_zero_iff.mp z
      unfold allRules at this
      rw [List.flatMap_cons] at this
      exact rules_ne k (List.append_eq_nil_iff.mp this).1
    omega
theorem kIx_rules {ks : List Kd} (h : ks ≠ []) (z : Int) : ∃ r ∈ allRules ks, kIx ((allRules ks).map Ru.d) (z % (allRules ks).length) = .ok r.d :=
  kIx_map (Int.emod_nonneg _ (by have := allRules_pos h; omega)) (Int.emod_lt_of_pos _ (allRules_pos h))
theorem kIx_m1 {α : Type} {xs : List α} {x : α} (h : xs.getLast? = some x) : kIx xs (-1) = .ok x := by
  obtain ⟨ys, rfl⟩ := List.getLast?_eq_some_iff.mp h
  unfold kIx atI ixN
  rw [if_neg (by decide), if_pos (by simp; omega)]
  show orBad ((ys ++ [x])[(-1 + ((ys ++ [x]).length : Int)).toNat]?) = _
  rw [show (-1 + ((ys ++ [x]).length : Int)).toNat = ys.length by simp; omega, List.getElem?_append_right (Nat.le_refl _), Nat.sub_self]
  rfl
theorem rng_nat (s n : Nat) : rng s n = ((List.range n).drop s).map fun (a : Nat) => (.int a : D) := by
  unfold rng
  apply List.ext_getElem?
  intro i
  rw [List.getElem?_map, List.getElem?_map, List.getElem?_drop]
  by_cases h : i < n - s
  · rw [List.getElem?_range (by omega), List.getElem?_range (by omega)]
    simp
  · rw [List.getElem?_eq_none (by rw [List.length_range]; omega), List.getElem?_eq_none (by rw [List.length_range]; omega)]
    rfl
def stp (n : Nat) (row : List Nat) : List (List Nat) := ((List.range n).drop (start row)).map fun a => row ++ [a]
theorem chs_s (n s : Nat) : chs n (s + 1) = (chs n s).flatMap (stp n) := rfl
theorem chs_len8 : ∀ n, n < 9 → ∀ s, s < 10 → (chs n s).length ≤ 100 := by decide +kernel
theorem chs_len21 : ∀ s, s < 4 → (chs 21 s).length ≤ 2000 := by decide +kernel
theorem start_le {n : Nat} {row : List Nat} (h : ∀ a ∈ row, a < n) : start row ≤ n := by
  unfold start
  cases q : row.getLast? with
  | none => exact Nat.zero_le _
  | some l =>
    have hl : l ∈ row := by
      obtain ⟨r0, e⟩ := List.getLast?_eq_some_iff.mp q
      rw [e]
      exact List.mem_append_right _ (List.mem_singleton.mpr rfl)
    exact h l hl
theorem in_row {a : Nat} {row : List Nat} : qIn (.int a) (.list (row.map fun (a : Nat) => .int a)) = .ok (.bool (decide (a ∈ row))) := by
  have c : (SeqAt.shaped (.int a) && SeqAt.shaped (.list (row.map fun (a : Nat) => .int a))) = true := by
    rw [(sh_int (n := 0)).shaped, show SeqAt.shaped (.list (row.map fun (a : Nat) => .int a)) = true from (sh_row (row := row)).shaped]
    rfl
  show R.bind (if (SeqAt.shaped (.int a) && SeqAt.shaped (.list (row.map fun (a : Nat) => .int a))) = true then .ok ((row.map fun (a : Nat) => (.int a : D)).any fun z => PyData.eqv z (.int a)) else .bad) (fun k => R.ok (PyData.bool k)) = _
  rw [if_pos c, List.any_map]
  show R.ok (PyData.bool (row.any _)) = _
  congr 2
  rw [← List.contains_eq_mem, List.contains_eq_any_beq]
  congr 1
  funext b
  simp only [Function.comp, PyData.eqv]
  by_cases h : b = a
  · subst h
    rw [beq_self_eq_true, beq_self_eq_true]
  · have h2 : ¬ a = b := fun z => h z.symm
    have h3 : ¬ ((b : Int) = (a : Int)) := by omega
    rw [beq_eq_false_iff_ne.mpr h2, beq_eq_false_iff_ne.mpr h3]
theorem zipIdx_enum {γ : Type} (u : γ → D) (xs : List γ) : enumD (xs.map u) = xs.zipIdx.map fun p => .tuple [.int (p.2 : Nat), u p.1] := by
  unfold enumD
  rw [List.zipIdx_map, List.map_map]
  rfl
theorem miss_lt {bs : List Bl} {r : Ru} {a : Nat} (h : a ∈ miss bs r) : a < bs.length := by
  unfold miss at h
  obtain ⟨p, hp, rfl⟩ := List.mem_map.mp h
  have := List.mem_zipIdx (List.mem_filter.mp hp).1
  omega
theorem fit_miss {bs : List Bl} {r : Ru} (h : r.fit bs = false) : miss bs r ≠ [] := by
  intro z
  unfold miss at z
  have z2 : (bs.zipIdx.filter fun p => !r.fit [p.1]) = [] := List.map_eq_nil_iff.mp z
  rw [List.filter_eq_nil_iff] at z2
  have : r.fit bs = true := by
    unfold Ru.fit
    rw [List.all_eq_true]
    intro p hp
    obtain ⟨i, hi, e⟩ := List.mem_iff_getElem.mp hp
    have hm : (p, i) ∈ bs.zipIdx := by
      rw [List.mem_zipIdx_iff_getElem?]
      rw [← e]
      exact List.getElem?_eq_getElem hi
    have := z2 (p, i) hm
    simpa [Ru.fit] using this
  rw [this] at h
  cases h
/-- if none fits, there is a bar -/
theorem barS_some {ks : List Kd} {bs : List Bl} (hk : ks ≠ []) (h : (fitR ks bs).isEmpty = true) : ∃ row, ((List.range bs.length).findSome? fun s => (chs bs.length (s + 1)).find? (bars ks bs)) = some row ∧ bars ks bs row = true ∧ row ≠ [] ∧ row.length ≤ bs.length ∧ (∀ a ∈ row, a < bs.length) ∧ row.Pairwise (· < ·) := by
  have hnf : ∀ r ∈ allRules ks, r.fit bs = false := fun r hr => by
    unfold fitR at h
    rw [filter_isEmpty, List.all_eq_true] at h
    simpa using h r hr
  have hb : bs ≠ [] := fun z => by
    have hp := allRules_pos hk
    obtain ⟨r, hr⟩ := List.exists_mem_of_length_pos (l := allRules ks) (by omega)
    have := hnf r hr
    rw [z] at this
    cases this
  have hfull : bars ks bs (List.range bs.length) = true := by
    unfold bars
    rw [List.all_eq_true]
    intro r hr
    have hm := fit_miss (hnf r hr)
    obtain ⟨a, ha⟩ := List.exists_mem_of_ne_nil _ hm
    exact List.any_eq_true.mpr ⟨a, ha, by simpa using miss_lt ha⟩
  have hmem : List.range bs.length ∈ chs bs.length bs.length := chs_all (List.length_range ..) (fun a ha => List.mem_range.mp ha) List.pairwise_lt_range
  cases q : (List.range bs.length).findSome? fun s => (chs bs.length (s + 1)).find? (bars ks bs) with
  | none =>
    rw [List.findSome?_eq_none_iff] at q
    have hl : bs.length ≠ 0 := by simpa using hb
    have := q (bs.length - 1) (List.mem_range.mpr (by omega))
    rw [show bs.length - 1 + 1 = bs.length by omega, List.find?_eq_none] at this
    exact (this _ hmem hfull).elim
  | some row =>
    obtain ⟨s, hs, e⟩ := List.exists_of_findSome?_eq_some q
    have h1 := List.find?_some e
    have h2 := List.mem_of_find?_eq_some e
    obtain ⟨i1, i2, i3⟩ := chs_mem h2
    have := List.mem_range.mp hs
    have hne : row ≠ [] := fun z => by
      rw [z] at i1
      cases i1
    exact ⟨row, rfl, h1, hne, by omega, i2, i3⟩
def optR : Option (List Nat) → D
  | none => .none
  | some t => rowD t
@[simp] theorem optR_none : optR none = .none := rfl
@[simp] theorem optR_some {t : List Nat} : optR (some t) = rowD t := rfl
end Py

namespace Py
open PySem PySem.Spec PyProof.Rows L2 LamX
/-! ### parts -/
abbrev Tri := Int × Int × List (Int × Int)
def triD (t : Tri) : D := .tuple [.int t.1, .int t.2.1, .list (t.2.2.map boD)]
def prLe (a b : Int × Int) : Bool := !decide (b.1 < a.1 ∨ (b.1 = a.1 ∧ b.2 < a.2))
def sortPr (row : List (Int × Int)) : List (Int × Int) := row.mergeSort prLe
theorem sortD_bo (row : List (Int × Int)) : sortD (row.map boD) = (sortPr row).map boD :=
  (List.map_mergeSort fun a _ b _ => by
    unfold boD
    rw [PySem.W.dataLt_ii]
    rfl).symm
theorem alike_bo (a b : Int × Int) : PySem.W.alike (boD a) (boD b) = true := by
  unfold boD
  simp [PySem.W.alike, PySem.W.alikeAll]
theorem alike_bos : ∀ xs ys : List (Int × Int), PySem.W.alikeAll (xs.map boD) (ys.map boD) = true
  | [], _ => by simp [PySem.W.alikeAll]
  | _ :: _, [] => by simp [PySem.W.alikeAll]
  | x :: xs, y :: ys => by
    rw [List.map_cons, List.map_cons]
    simp only [PySem.W.alikeAll, alike_bo, alike_bos xs ys, Bool.and_self]
theorem lay_bos (row : List (Int × Int)) : PyData.canLayAll0 (row.map boD) = true := (shs (n := 1) fun d hd => by
  obtain ⟨p, _, rfl⟩ := List.mem_map.mp hd
  exact sh_bo).1
theorem qSortD_bo {row : List (Int × Int)} : qSortD [.list (row.map boD)] = .ok (.list ((sortPr row).map boD)) := by
  show (if _ then R.ok (PyData.list (sortD (row.map boD))) else .bad) = _
  rw [if_pos, sortD_bo]
  rw [lay_bos, Bool.true_and, Bool.and_eq_true, Bool.and_eq_true]
  refine ⟨⟨?_, ?_⟩, ?_⟩
  · exact List.all_eq_true.mpr fun x hx => List.all_eq_true.mpr fun y hy => by
      obtain ⟨p, _, rfl⟩ := List.mem_map.mp hx
      obtain ⟨q, _, rfl⟩ := List.mem_map.mp hy
      exact alike_bo p q
  · refine Bool.or_eq_true_iff.mpr (.inl (List.all_eq_true.mpr fun x hx => ?_))
    obtain ⟨p, _, rfl⟩ := List.mem_map.mp hx
    rfl
  · exact List.all_eq_true.mpr fun x hx => by
      obtain ⟨p, _, rfl⟩ := List.mem_map.mp hx
      exact decide_eq_true (Nat.le_trans (sh_bo (n := 0) (p := p)).2 (by decide))
def triLt (a b : Tri) : Bool := PySem.W.dataLt (triD a) (triD b)
def minT (t : Tri) (ts : List Tri) : Tri := ts.foldl (fun a y => if triLt y a then y else a) t
theorem minD_tri : ∀ (ts : List Tri) (t : Tri), PySem.W.minD (triD t) (ts.map triD) = triD (minT t ts)
  | [], _ => rfl
  | y :: ts, t => by
    unfold PySem.W.minD minT
    rw [List.map_cons, List.foldl_cons, List.foldl_cons]
    have e : (if PySem.W.dataLt (triD y) (triD t) = true then triD y else triD t) = triD (if triLt y t = true then y else t) := by
      unfold triLt
      split <;> rfl
    rw [e]
    exact minD_tri ts _
theorem sh_tri {t : Tri} : Sh 3 (triD t) := sh_tup fun d hd => by
  rcases List.mem_cons.mp hd with rfl | hd
  · exact sh_int
  rcases List.mem_cons.mp hd with rfl | hd
  · exact sh_int
  rw [List.mem_singleton.mp hd]
  exact sh_bos
theorem alike_tri (a b : Tri) : PySem.W.alike (triD a) (triD b) = true := by
  unfold triD
  simp [PySem.W.alike, PySem.W.alikeAll, alike_bos]
theorem qMinD_tri {t : Tri} {ts : List Tri} : qMinD [.list ((t :: ts).map triD)] = .ok (triD (minT t ts)) := by
  show (if (alikeB ((t :: ts).map triD) && (PyData.canLayAll0 ((t :: ts).map triD) && decide (PyData.depthAll ((t :: ts).map triD) ≤ 60))) = true then R.ok (PySem.W.minD (triD t) (ts.map triD)) else .bad) = _
  have hs := shs (n := 3) (ds := (t :: ts).map triD) fun d hd => by
    obtain ⟨p, _, rfl⟩ := List.mem_map.mp hd
    exact sh_tri
  rw [if_pos, minD_tri]
  rw [hs.1, decide_eq_true (Nat.le_trans hs.2 (by decide)), Bool.and_self, Bool.and_true]
  unfold alikeB
  rw [Bool.and_eq_true]
  constructor
  · exact List.all_eq_true.mpr fun x hx => List.all_eq_true.mpr fun y hy => by
      obtain ⟨p, _, rfl⟩ := List.mem_map.mp hx
      obtain ⟨q, _, rfl⟩ := List.mem_map.mp hy
      exact alike_tri p q
  · exact List.all_eq_true.mpr fun x hx => by
      obtain ⟨p, _, rfl⟩ := List.mem_map.mp hx
      rfl
def cand (found : List Tri) (many : Nat) (r : Ru) (pl i : Nat) : Tri :=
  let t := found.getD (many - (i + 1)) (0, 0, [])
  (t.1 + r.price ((i : Int) + 1), t.2.1 + 1, sortPr (t.2.2 ++ [((pl : Int), (i : Int) + 1)]))
def cands (rs : List Ru) (found : List Tri) (many : Nat) : List Tri := rs.zipIdx.flatMap fun p => (List.range many).map fun i => cand found many p.1 p.2 i
def minL : List Tri → Tri
  | [] => (0, 0, [])
  | t :: ts => minT t ts
def least (rs : List Ru) : Nat → List Tri
  | 0 => [(0, 0, [])]
  | n + 1 => least rs n ++ [minL (cands rs (least rs n) (n + 1))]
theorem least_len (rs : List Ru) : ∀ n, (least rs n).length = n + 1
  | 0 => rfl
  | n + 1 => by
    show (least rs n ++ _).length = _
    rw [List.length_append, least_len rs n]
    rfl
theorem minT_mem : ∀ (ts : List Tri) (t : Tri), minT t ts ∈ t :: ts
  | [], t => List.mem_singleton.mpr rfl
  | y :: ts, t => by
    unfold minT
    rw [List.foldl_cons]
    have := minT_mem ts (if triLt y t = true then y else t)
    unfold minT at this
    rcases List.mem_cons.mp this with e | h
    · rw [e]
      split
      · exact List.mem_cons_of_mem _ (List.mem_cons_self ..)
      · exact List.mem_cons_self ..
    · exact List.mem_cons_of_mem _ (List.mem_cons_of_mem _ h)
theorem minL_mem {ts : List Tri} (h : ts ≠ []) : minL ts ∈ ts := by
  cases ts with
  | nil => exact (h rfl).elim
  | cons t ts => exact minT_mem ts t
theorem cands_ne {rs : List Ru} (h : rs ≠ []) {found : List Tri} {n : Nat} : cands rs found (n + 1) ≠ [] := by
  cases rs with
  | nil => exact (h rfl).elim
  | cons r rs =>
    intro z
    have z2 : ((List.range (n + 1)).map fun i => cand found (n + 1) r 0 i) = [] := by
      unfold cands at z
      rw [List.zipIdx_cons, List.flatMap_cons] at z
      exact (List.append_eq_nil_iff.mp z).1
    rw [List.map_eq_nil_iff, List.range_eq_nil] at z2
    cases z2
theorem cands_len (rs : List Ru) (found : List Tri) (many : Nat) : (cands rs found many).length = rs.length * many := by
  unfold cands
  rw [List.length_flatMap]
  simp only [List.length_map, List.length_range]
  rw [List.map_const', List.sum_replicate_nat, List.length_zipIdx]
theorem least_row (rs : List Ru) (hr : rs ≠ []) : ∀ n, ∀ t ∈ least rs n, t.2.2.length ≤ n
  | 0, t, h => by
    rw [List.mem_singleton.mp h]
    exact Nat.le_refl _
  | n + 1, t, h => by
    rcases List.mem_append.mp h with h | h
    · exact Nat.le_succ_of_le (least_row rs hr n t h)
    · rw [List.mem_singleton.mp h]
      have hm := minL_mem (cands_ne hr (found := least rs n) (n := n))
      unfold cands at hm
      obtain ⟨p, _, hm⟩ := List.mem_flatMap.mp hm
      obtain ⟨i, hi, e⟩ := List.mem_map.mp hm
      have hi := List.mem_range.mp hi
      unfold cands
      rw [← e]
      unfold cand
      simp only []
      rw [show ∀ l : List (Int × Int), (sortPr l).length = l.length from fun l => (List.mergeSort_perm _ _).length_eq, List.length_append]
      have hlt : n + 1 - (i + 1) < (least rs n).length := by rw [least_len]; omega
      rw [List.getD_eq_getElem?_getD, List.getElem?_eq_getElem hlt]
      have := least_row rs hr n _ (List.getElem_mem hlt)
      simp only [Option.getD_some, List.length_cons, List.length_nil]
      omega
/-- the first place of the least -/
def firstMin (cs : List Int) : Nat := match cs with
  | [] => 0
  | c :: cs => (c :: cs).findIdx (· == minI c cs)
theorem findD_ints (m : Int) : ∀ (cs : List Int) (i : Nat), (∃ c ∈ cs, c = m) → findD (.int m) (cs.map .int) i = some (i + cs.findIdx (· == m))
  | [], i, ⟨c, h, _⟩ => (List.not_mem_nil h).elim
  | c :: cs, i, h => by
    show (if PyData.eqv (.int c) (.int m) = true then some i else findD (.int m) (cs.map .int) (i + 1)) = _
    have e : PyData.eqv (.int c) (.int m) = (c == m) := by simp only [PyData.eqv]
    rw [e, List.findIdx_cons]
    cases q : (c == m) with
    | true =>
      rw [if_pos rfl]
      rfl
    | false =>
      rw [if_neg (by decide)]
      have hn : c ≠ m := beq_eq_false_iff_ne.mp q
      have h' : ∃ c ∈ cs, c = m := by
        obtain ⟨x, hx, ex⟩ := h
        rcases List.mem_cons.mp hx with rfl | hx
        · exact (hn ex).elim
        · exact ⟨x, hx, ex⟩
      rw [findD_ints m cs (i + 1) h']
      simp only [cond_false]
      congr 1
      omega
theorem index_min (c : Int) (cs : List Int) : kIndexF (.ok (.list ((c :: cs).map .int))) (.ok (.int (minI c cs))) = .ok (.int (firstMin (c :: cs))) := by
  have hm := (minI_spec cs c).1
  have hex : ∃ x ∈ c :: cs, x = minI c cs := by
    rcases hm with e | e
    · exact ⟨c, List.mem_cons_self .., e.symm⟩
    · exact ⟨_, List.mem_cons_of_mem _ e, rfl⟩
  have hsh : (SeqAt.shaped (.list ((c :: cs).map .int)) && SeqAt.shaped (.int (minI c cs))) = true := by
    rw [(sh_ints (ns := c :: cs)).shaped, (sh_int (n := 0)).shaped]
    rfl
  show (if (SeqAt.shaped (.list ((c :: cs).map .int)) && SeqAt.shaped (.int (minI c cs))) = true then (match findD (.int (minI c cs)) ((c :: cs).map .int) 0 with | some j => R.ok (PyData.int (j : Nat)) | none => .bad) else .bad) = _
  rw [if_pos hsh, findD_ints _ _ 0 hex, Nat.zero_add]
  rfl
theorem least_get (rs : List Ru) {q : Nat} : ∀ n, q ≤ n → (least rs n).getD q (0, 0, []) = (least rs q).getD q (0, 0, [])
  | 0, h => by rw [Nat.le_zero.mp h]
  | n + 1, h => by
    by_cases e : q = n + 1
    · rw [e]
    · have hq : q ≤ n := by omega
      rw [← least_get rs n hq]
      show (least rs n ++ _).getD q _ = _
      rw [List.getD_eq_getElem?_getD, List.getElem?_append_left (by rw [least_len]; omega), ← List.getD_eq_getElem?_getD]
/-- one number of a rule is none -/
theorem isRule_bent {r : Ru} {j : Nat} (hj : j < r.xs.length) {d : D} (hd : ∀ p ∈ r.kd.bs, isCnt d p.1 p.2 = false) : isRule (.tuple (.str r.kd.s :: ((r.xs.map .int).take j ++ d :: (r.xs.map .int).drop (j + 1)))) = false := by
  unfold isRule
  simp only [kindOf_s]
  have hb : r.kd.bs.length = r.xs.length := by cases r <;> rfl
  have hall : (((r.xs.map PyData.int).take j ++ d :: (r.xs.map PyData.int).drop (j + 1)).zip r.kd.bs).all (fun p => isCnt p.1 p.2.1 p.2.2) = false := by
    rw [List.all_eq_false]
    have hjb : j < r.kd.bs.length := by omega
    refine ⟨(d, r.kd.bs[j]), ?_, by rw [hd _ (List.getElem_mem hjb)]; decide⟩
    apply List.mem_of_getElem? (i := j)
    rw [List.getElem?_zip_eq_some]
    refine ⟨?_, List.getElem?_eq_getElem hjb⟩
    rw [List.getElem?_append_right (by rw [List.length_take]; omega), List.length_take, List.length_map, Nat.min_eq_left (by omega), Nat.sub_self]
    rfl
  rw [hall, Bool.and_false]
theorem worse_bad {d : D} (h : d ∈ ([.int (-1), .int 10, .none, .bool true, .str "1"] : List D)) (k : Kd) : ∀ p ∈ k.bs, isCnt d p.1 p.2 = false := by
  have : ∀ d ∈ ([.int (-1), .int 10, .none, .bool true, .str "1"] : List D), isCnt d 0 9 = false ∧ isCnt d 1 5 = false := fun d h => by
    rcases List.mem_cons.mp h with rfl | h
    · exact ⟨rfl, rfl⟩
    rcases List.mem_cons.mp h with rfl | h
    · exact ⟨rfl, rfl⟩
    rcases List.mem_cons.mp h with rfl | h
    · exact ⟨rfl, rfl⟩
    rcases List.mem_cons.mp h with rfl | h
    · exact ⟨rfl, rfl⟩
    rw [List.mem_singleton.mp h]
    exact ⟨rfl, rfl⟩
  obtain ⟨h1, h2⟩ := this d h
  intro p hp
  have : p = (0, 9) ∨ p = (1, 5) := by
    revert p
    cases k <;> decide
  rcases this with rfl | rfl
  · exact h1
  · exact h2
theorem minI_const (c : Int) : ∀ n : Nat, minI c (List.replicate n c) = c
  | 0 => rfl
  | n + 1 => by
    rw [List.replicate_succ]
    show minI (if c < c then c else c) (List.replicate n c) = c
    rw [if_neg (by omega)]
    exact minI_const c n
theorem firstMin_const (c : Int) (n : Nat) : firstMin (c :: List.replicate n c) = 0 := by
  show (c :: List.replicate n c).findIdx (· == minI c (List.replicate n c)) = 0
  rw [minI_const, List.findIdx_cons, beq_self_eq_true]
  rfl
end Py

namespace Py
open PySem PySem.Spec PyProof.Rows L2 LamX
section
variable {x : Sl} {ρ : Rho} {f : Rho → R D} {ds : List D} {k k1 : Bool}
def qSortSetI (d : D) : R D := pSortSetI d
def nSortSetI (f : Rho → R D) : Rho → R D := rSortSetI f
@[simp] theorem nSortSetI_c : nSortSetI f (x :: ρ) = kR (f (x :: ρ)) qSortSetI := (rfl)
def qSortSetT (d : D) : R D := pSortSetT d
def nSortSetT (f : Rho → R D) : Rho → R D := rSortSetT f
@[simp] theorem nSortSetT_c : nSortSetT f (x :: ρ) = kR (f (x :: ρ)) qSortSetT := (rfl)
def qLenSetT (d : D) : R D := pLenSetT d
def nLenSetT (f : Rho → R D) : Rho → R D := rLenSetT f
@[simp] theorem nLenSetT_c : nLenSetT f (x :: ρ) = kR (f (x :: ρ)) qLenSetT := (rfl)
theorem tupsOf_map : ∀ ks : List (List Int), tupsOf (ks.map tupD) = some ks
  | [] => rfl
  | k :: ks => by
    show (intsOf (k.map .int)).bind (fun k => (tupsOf (ks.map tupD)).map (k :: ·)) = _
    rw [tupsOf_map ks, intsOf_map]
    rfl
theorem qSortSetI_ok {xs : List Int} (h : xs.length < 2000) : qSortSetI (.list (xs.map .int)) = .ok (.list ((sortI (setL xs)).map .int)) := by
  unfold qSortSetI pSortSetI
  dsimp only
  rw [if_pos (by rw [List.length_map]; exact h), intsOf_map]
theorem qSortSetT_ok {ks : List (List Int)} (h : ks.length ≤ 2000) : qSortSetT (.list (ks.map tupD)) = .ok (.list ((sortT (setL ks)).map tupD)) := by
  unfold qSortSetT pSortSetT
  dsimp only
  rw [if_pos (by rw [List.length_map]; exact h), tupsOf_map]
theorem qLenSetT_ok {ks : List (List Int)} (h : ks.length ≤ 2000) : qLenSetT (.list (ks.map tupD)) = .ok (.int ((setL ks).length : Nat)) := by
  unfold qLenSetT pLenSetT
  dsimp only
  rw [if_pos (by rw [List.length_map]; exact h), tupsOf_map]
def qIsB (a b : D) : R D := pIsB a b
@[simp] theorem qIsB_b : qIsB (.bool k) (.bool k1) = .ok (.bool (decide (k = k1))) := (rfl)
def qIsNotB (a b : D) : R D := pIsNotB a b
@[simp] theorem qIsNotB_b : qIsNotB (.bool k) (.bool k1) = .ok (.bool (!decide (k = k1))) := (rfl)
end
end Py

namespace Py
open PySem PySem.Spec PyProof.Rows L2 LamX
/-! ### plain: rules that fit, what they cost -/
theorem sum_sub {α : Type} [DecidableEq α] (f : α → Nat) : ∀ (xs l : List α), xs.Nodup → (∀ x ∈ xs, x ∈ l) → (xs.map f).sum ≤ (l.map f).sum
  | [], _, _, _ => Nat.zero_le _
  | x :: xs, l, hn, hs => by
    obtain ⟨h1, h2⟩ := List.nodup_cons.mp hn
    have hx := hs x (List.mem_cons_self ..)
    have ih := sum_sub f xs (l.erase x) h2 fun y hy => (List.mem_erase_of_ne (fun (z : y = x) => h1 (by rw [← z]; exact hy))).mpr (hs y (List.mem_cons_of_mem _ hy))
    have e := ((List.perm_cons_erase hx).map f).sum_nat
    rw [List.map_cons, List.sum_cons] at e ⊢
    omega
theorem allRules_le {ks : List Kd} (h : ks.Nodup) : (allRules ks).length ≤ 1420 := by
  have e : (allRules ks).length = (ks.map fun k => k.rules.length).sum := by
    unfold allRules
    rw [List.length_flatMap]
  rw [e]
  refine Nat.le_trans (sum_sub _ ks kdAll h fun k _ => mem_kdAll k) ?_
  decide +kernel
theorem fitR_le {ks : List Kd} (h : ks.Nodup) (bs : List Bl) : (fitR ks bs).length ≤ 1420 := Nat.le_trans (List.length_filter_le _ _) (allRules_le h)
theorem fitR_ok {ks : List Kd} {bs : List Bl} {r : Ru} (h : r ∈ fitR ks bs) : r.ok := (mem_allRules.mp (List.mem_filter.mp h).1).2
def costsAt (ks : List Kd) (bs : List Bl) (q : Nat) : List Int := sortI (setL ((fitR ks bs).map fun r => r.price q))
def oneD (xs : List Int) : D := if (xs.length : Int) = 1 then .int (xs.getD 0 0) else .none
def sureAt (ks : List Kd) (bs : List Bl) : List D := (List.range 21).map fun q => oneD (costsAt ks bs q)
theorem costs_len (ks : List Kd) (bs : List Bl) (q : Nat) : (costsAt ks bs q).length = (setL ((fitR ks bs).map fun r => r.price q)).length := (sortI_perm _).length_eq
theorem in_list {n : Nat} {d : D} {ds : List D} (h1 : Sh n d) (h2 : Sh n (.list ds)) (b : n ≤ 64 := by decide) : qIn d (.list ds) = .ok (.bool (ds.any fun z => PyData.eqv z d)) := by
  have c : (SeqAt.shaped d && SeqAt.shaped (.list ds)) = true := by
    rw [h1.shaped b, h2.shaped b]
    rfl
  unfold qIn pIn inD
  dsimp only
  first | rw [if_pos c] | simp [c]
theorem notIn_list {n : Nat} {d : D} {ds : List D} (h1 : Sh n d) (h2 : Sh n (.list ds)) (b : n ≤ 64 := by decide) : qNotIn d (.list ds) = .ok (.bool (!ds.any fun z => PyData.eqv z d)) := by
  have c : (SeqAt.shaped d && SeqAt.shaped (.list ds)) = true := by
    rw [h1.shaped b, h2.shaped b]
    rfl
  unfold qNotIn pNotIn inD
  dsimp only
  first | rw [if_pos c] | simp [c]
theorem eqv_ints : ∀ xs ys : List Int, PyData.eqvAll (xs.map .int) (ys.map .int) = decide (xs = ys)
  | [], [] => by simp [PyData.eqvAll]
  | [], _ :: _ => by simp [PyData.eqvAll]
  | _ :: _, [] => by simp [PyData.eqvAll]
  | x :: xs, y :: ys => by
    rw [List.map_cons, List.map_cons, PyData.eqvAll, eqv_ints xs ys, PyData.eqv]
    by_cases h1 : x = y <;> by_cases h2 : xs = ys <;> simp [h1, h2]
theorem eqv_kd (k k' : Kd) : PyData.eqv k.d k'.d = decide (k = k') := by
  show PyData.eqv (.str k.s) (.str k'.s) = _
  rw [PyData.eqv]
  by_cases h : k = k'
  · simp [h]
  · have : k.s ≠ k'.s := fun z => h (kd_inj z)
    simp [h, this]
theorem ru_inj {r r' : Ru} (h1 : r.kd = r'.kd) (h2 : r.xs = r'.xs) : r = r' := by
  cases r <;> cases r' <;> simp [Ru.kd, Ru.xs] at h1 h2 ⊢ <;> first | exact h2 | (exfalso; exact h1.elim)
theorem eqv_ru (r r' : Ru) : PyData.eqv r.d r'.d = decide (r = r') := by
  show PyData.eqv (.tuple _) (.tuple _) = _
  rw [PyData.eqv, PyData.eqvAll, eqv_ints]
  have e : PyData.eqv (.str r.kd.s) (.str r'.kd.s) = decide (r.kd = r'.kd) := eqv_kd _ _
  rw [e]
  by_cases h : r = r'
  · simp [h]
  · by_cases h1 : r.kd = r'.kd
    · by_cases h2 : r.xs = r'.xs
      · exact (h (ru_inj h1 h2)).elim
      · simp [h, h2]
    · simp [h, h1]
/-- which are alike -/
theorem ru_in {rs : List Ru} {r : Ru} : qIn r.d (.list (rs.map Ru.d)) = .ok (.bool (decide (r ∈ rs))) := by
  rw [in_list (n := 2) (sh_rule.mono (by decide)) sh_rules, List.any_map]
  congr 2
  rw [Bool.eq_iff_iff, List.any_eq_true]
  simp only [Function.comp, eqv_ru, decide_eq_true_eq]
  constructor
  · rintro ⟨x, h1, rfl⟩
    exact h1
  · intro h
    exact ⟨r, h, rfl⟩
theorem kd_in {ks : List Kd} {k : Kd} : qIn k.d (.list (ks.map Kd.d)) = .ok (.bool (decide (k ∈ ks))) := by
  rw [in_list (n := 1) (sh_kd) sh_kds, List.any_map]
  congr 2
  rw [Bool.eq_iff_iff, List.any_eq_true]
  simp only [Function.comp, eqv_kd, decide_eq_true_eq]
  constructor
  · rintro ⟨x, h1, rfl⟩
    exact h1
  · intro h
    exact ⟨k, h, rfl⟩
theorem fitR_kd {ks : List Kd} {bs : List Bl} {k : Kd} (h : k ∈ ks) : (!(fitR [k] bs).isEmpty) = decide (k ∈ (fitR ks bs).map Ru.kd) := by
  rw [Bool.eq_iff_iff, decide_eq_true_eq, Bool.not_eq_true', List.isEmpty_eq_false_iff_exists_mem]
  unfold fitR
  simp only [List.mem_map, List.mem_filter, mem_allRules, List.mem_singleton]
  constructor
  · rintro ⟨r, ⟨h1, h2⟩, h3⟩
    exact ⟨r, ⟨⟨by rw [h1]; exact h, h2⟩, h3⟩, h1⟩
  · rintro ⟨r, ⟨⟨h1, h2⟩, h3⟩, rfl⟩
    exact ⟨r, ⟨rfl, h2⟩, h3⟩
def setd (ks : List Kd) (bs : List Bl) : Bool := !(fitR ks bs).isEmpty && (List.range 21).all fun q => decide (((costsAt ks bs q).length : Int) = 1)
theorem sh_one {xs : List Int} : Sh 0 (oneD xs) := by
  unfold oneD
  split
  · exact sh_int
  · exact sh_none
theorem sh_sure {ks : List Kd} {bs : List Bl} : Sh 1 (.list (sureAt ks bs)) := sh_list fun d hd => by
  unfold sureAt at hd
  obtain ⟨q, _, rfl⟩ := List.mem_map.mp hd
  exact sh_one
theorem none_in_sure {ks : List Kd} {bs : List Bl} : qNotIn .none (.list (sureAt ks bs)) = .ok (.bool ((List.range 21).all fun q => decide (((costsAt ks bs q).length : Int) = 1))) := by
  rw [notIn_list (n := 1) sh_none sh_sure]
  congr 2
  unfold sureAt
  rw [List.any_map, List.not_any_eq_all_not]
  congr 1
  funext q
  simp only [Function.comp, oneD]
  split <;> rename_i h
  · simp [PyData.eqv, h]
  · simp [PyData.eqv, h]
/-- one alone, set by set -/
theorem set_one {α : Type} [DecidableEq α] {xs : List α} (h : xs ≠ []) : (setL xs).length = 1 ↔ ∀ a ∈ xs, ∀ b ∈ xs, a = b := by
  constructor
  · intro h1 a ha b hb
    have ha' := setS_mem.mpr ha
    have hb' := setS_mem.mpr hb
    match hs : setL xs, h1 with
    | [x], _ =>
      rw [hs] at ha' hb'
      rw [List.mem_singleton.mp ha', List.mem_singleton.mp hb']
  · intro h1
    obtain ⟨x, hx⟩ := List.exists_mem_of_ne_nil _ h
    have p : (setL xs).Perm [x] := perm_of_mem (setS_nd xs) (by simp : [x].Nodup) fun k => by
      rw [setS_mem, List.mem_singleton]
      exact ⟨fun hk => h1 k hk x hx, fun hk => hk ▸ hx⟩
    rw [p.length_eq]
    rfl
theorem settled_rows {rs : List Ru} (h : rs ≠ []) : ((List.range 21).all fun q => decide (((setL (rs.map fun r => r.price (q : Nat))).length : Int) = 1)) = decide (((setL (rs.map Ru.row)).length : Int) = 1) := by
  rw [Bool.eq_iff_iff, List.all_eq_true, decide_eq_true_eq]
  have e1 : (((setL (rs.map Ru.row)).length : Int) = 1) ↔ (setL (rs.map Ru.row)).length = 1 := by omega
  rw [e1, set_one (by simpa using h)]
  constructor
  · intro h1 a ha b hb
    obtain ⟨r, hr, rfl⟩ := List.mem_map.mp ha
    obtain ⟨r', hr', rfl⟩ := List.mem_map.mp hb
    unfold Ru.row
    refine List.map_congr_left fun q hq => ?_
    have h2 := h1 q hq
    rw [decide_eq_true_eq] at h2
    have h3 : (setL (rs.map fun r => r.price (q : Nat))).length = 1 := by omega
    exact (set_one (by simpa using h)).mp h3 _ (List.mem_map.mpr ⟨r, hr, rfl⟩) _ (List.mem_map.mpr ⟨r', hr', rfl⟩)
  · intro h1 q hq
    rw [decide_eq_true_eq]
    have h3 : (setL (rs.map fun r => r.price (q : Nat))).length = 1 := by
      refine (set_one (by simpa using h)).mpr fun a ha b hb => ?_
      obtain ⟨r, hr, rfl⟩ := List.mem_map.mp ha
      obtain ⟨r', hr', rfl⟩ := List.mem_map.mp hb
      have h2 := h1 _ (List.mem_map.mpr ⟨r, hr, rfl⟩) _ (List.mem_map.mpr ⟨r', hr', rfl⟩)
      unfold Ru.row at h2
      have h4 := List.map_inj_left.mp h2 q hq
      exact h4
    omega
end Py

namespace Py
open PySem PySem.Spec PyProof.Rows L2 LamX
/-! ### plain: bars, nearest, closest -/
def minN (xs : List Int) : Int := match xs with
  | [] => 0
  | a :: bs => minI a bs
theorem qMin_ints {xs : List Int} (h : xs ≠ []) : qMin [.list (xs.map .int)] = .ok (.int (minN xs)) := by
  cases xs with
  | nil => exact (h rfl).elim
  | cons a bs => exact qMin_l
def bestR (rs : List Ru) (f : Ru → Int) : List Ru := rs.filter fun r => decide (f r = minN (rs.map f))
def absI (a : Int) : Int := if a < 0 then -a else a
def offR (bs : List Bl) (r : Ru) : Int := (bs.map fun p => absI (r.price p.1 - p.2)).sum
theorem zipD_maps {γ : Type} (u v : γ → D) : ∀ xs : List γ, zipD (xs.map u) (xs.map v) = xs.map fun x => .tuple [u x, v x]
  | [] => rfl
  | x :: xs => by
    have ih := zipD_maps u v xs
    unfold zipD at ih ⊢
    rw [List.map_cons, List.map_cons, List.zip_cons_cons, List.map_cons, ih]
    rfl
theorem miss_len (bs : List Bl) (r : Ru) : (miss bs r).length = (bs.filter fun p => !decide (r.price p.1 = p.2)).length := by
  unfold miss
  rw [List.length_map]
  have e : (fun p : Bl × Nat => !r.fit [p.1]) = (fun p : Bl => !decide (r.price p.1 = p.2)) ∘ Prod.fst := by
    funext p
    simp [Ru.fit]
  rw [e, ← List.length_map (f := Prod.fst), ← List.filter_map]
  rw [List.zipIdx_map_fst]
def castR (k : List Nat) : List Int := k.map fun (a : Nat) => (a : Int)
theorem castR_inj : ∀ {k k' : List Nat}, castR k = castR k' → k = k'
  | [], [], _ => rfl
  | [], _ :: _, h => by cases h
  | _ :: _, [], h => by cases h
  | a :: k, b :: k', h => by
    unfold castR at h
    rw [List.map_cons, List.map_cons] at h
    obtain ⟨h1, h2⟩ := List.cons.inj h
    rw [castR_inj (show castR k = castR k' from h2), show a = b by omega]
theorem of_casts : ∀ {xs : List (List Int)}, (∀ x ∈ xs, ∃ k, x = castR k) → ∃ L : List (List Nat), xs = L.map castR
  | [], _ => ⟨[], rfl⟩
  | x :: xs, h => by
    obtain ⟨k, rfl⟩ := h x (List.mem_cons_self ..)
    obtain ⟨L, rfl⟩ := of_casts (xs := xs) fun y hy => h y (List.mem_cons_of_mem _ hy)
    exact ⟨k :: L, rfl⟩
theorem tupD_cast (k : List Nat) : tupD (castR k) = .tuple (k.map fun (a : Nat) => .int a) := by
  unfold tupD castR
  rw [List.map_map]
  rfl
theorem kept_of (ks : List Kd) (bs : List Bl) : ∃ L : List (List Nat), sortT (setL ((allRules ks).map fun r => castR (miss bs r))) = L.map castR ∧ ∀ k, k ∈ L ↔ ∃ r ∈ allRules ks, miss bs r = k := by
  have hm : ∀ x, x ∈ sortT (setL ((allRules ks).map fun r => castR (miss bs r))) ↔ ∃ r ∈ allRules ks, castR (miss bs r) = x := fun x => by
    rw [(sortT_perm _).mem_iff, setS_mem, List.mem_map]
  obtain ⟨L, hL⟩ := of_casts fun x hx => by
    obtain ⟨r, _, h⟩ := (hm x).mp hx
    exact ⟨_, h.symm⟩
  refine ⟨L, hL, fun k => ?_⟩
  rw [hL] at hm
  constructor
  · intro hk
    obtain ⟨r, hr, h⟩ := (hm (castR k)).mp (List.mem_map.mpr ⟨k, hk, rfl⟩)
    exact ⟨r, hr, castR_inj h⟩
  · rintro ⟨r, hr, rfl⟩
    obtain ⟨k', hk', h⟩ := List.mem_map.mp ((hm (castR (miss bs r))).mpr ⟨r, hr, rfl⟩)
    rw [← castR_inj h]
    exact hk'
theorem fit_nil {bs : List Bl} {r : Ru} : r.fit bs = true ↔ miss bs r = [] := by
  constructor
  · intro h
    have e := miss_len bs r
    have e2 : (bs.filter fun p => !decide (r.price p.1 = p.2)) = [] := by
      rw [List.filter_eq_nil_iff]
      intro p hp
      have := List.all_eq_true.mp h p hp
      simpa using this
    rw [e2] at e
    exact List.length_eq_zero_iff.mp e
  · intro h
    cases q : r.fit bs with
    | true => rfl
    | false => exact (fit_miss q h).elim
def firstBar (ks : List Kd) (bs : List Bl) : Option (List Nat) := (List.range bs.length).findSome? fun s => (chs bs.length (s + 1)).find? (bars ks bs)
theorem firstBar_eq {ks : List Kd} {bs : List Bl} : firstBar ks bs = barS ks bs := by
  unfold barS firstBar
  cases h : (fitR ks bs).isEmpty with
  | true => rfl
  | false =>
    obtain ⟨r, hr⟩ := List.isEmpty_eq_false_iff_exists_mem.mp h
    obtain ⟨h1, h2⟩ := List.mem_filter.mp hr
    rw [if_neg (by decide), List.findSome?_eq_none_iff]
    intro s _
    rw [List.find?_eq_none]
    intro row _ hb
    have := List.all_eq_true.mp hb r h1
    rw [fit_nil.mp h2] at this
    cases this
theorem barS_none {ks : List Kd} {bs : List Bl} (hk0 : ks ≠ []) : barS ks bs = none ↔ ∃ r ∈ allRules ks, miss bs r = [] := by
  constructor
  · intro h
    unfold barS at h
    cases q : (fitR ks bs).isEmpty with
    | true =>
      rw [q, if_pos rfl] at h
      obtain ⟨row, e, _⟩ := barS_some hk0 q
      rw [e] at h
      cases h
    | false =>
      obtain ⟨r, hr⟩ := List.isEmpty_eq_false_iff_exists_mem.mp q
      obtain ⟨h1, h2⟩ := List.mem_filter.mp hr
      exact ⟨r, h1, fit_nil.mp h2⟩
  · rintro ⟨r, h1, h2⟩
    unfold barS
    have : (fitR ks bs).isEmpty = false := List.isEmpty_eq_false_iff_exists_mem.mpr ⟨r, List.mem_filter.mpr ⟨h1, fit_nil.mpr h2⟩⟩
    rw [this]
    rfl
/-- a rule fits the bills of a row just if it misses none of them -/
theorem fit_sel {bs : List Bl} {r : Ru} {row : List Nat} (hr : ∀ a ∈ row, a < bs.length) : r.fit (sel bs row) = true ↔ ∀ a ∈ row, a ∉ miss bs r := by
  unfold Ru.fit sel
  rw [List.all_map, List.all_eq_true]
  have key : ∀ a, a < bs.length → (a ∈ miss bs r ↔ ¬ r.price (bs.getD a (0, 0)).1 = (bs.getD a (0, 0)).2) := fun a ha => by
    unfold miss
    rw [List.mem_map]
    have e : bs.getD a (0, 0) = bs[a] := by simp [List.getD, List.getElem?_eq_getElem ha]
    constructor
    · rintro ⟨p, hp, rfl⟩
      obtain ⟨h1, h2⟩ := List.mem_filter.mp hp
      have h3 := List.mem_zipIdx_iff_getElem?.mp h1
      rw [List.getElem?_eq_getElem ha] at h3
      rw [e, Option.some.inj h3]
      simpa [Ru.fit] using h2
    · intro h
      refine ⟨(bs[a], a), List.mem_filter.mpr ⟨?_, ?_⟩, rfl⟩
      · rw [List.mem_zipIdx_iff_getElem?]
        exact List.getElem?_eq_getElem ha
      · rw [e] at h
        simpa [Ru.fit] using h
  constructor
  · intro h a ha hm
    have h1 := h a ha
    simp only [Function.comp, decide_eq_true_eq] at h1
    exact ((key a (hr a ha)).mp hm) h1
  · intro h a ha
    simp only [Function.comp, decide_eq_true_eq]
    exact Classical.byContradiction fun z => h a ha ((key a (hr a ha)).mpr z)
theorem bars_iff {ks : List Kd} {bs : List Bl} {row : List Nat} (hr : ∀ a ∈ row, a < bs.length) : bars ks bs row = (fitR ks (sel bs row)).isEmpty := by
  rw [Bool.eq_iff_iff]
  unfold bars fitR
  rw [List.all_eq_true, List.isEmpty_iff, List.filter_eq_nil_iff]
  constructor
  · intro h r hm hf
    obtain ⟨a, h1, h2⟩ := List.any_eq_true.mp (h r hm)
    exact (fit_sel hr).mp hf a (of_decide_eq_true h2) h1
  · intro h r hm
    rw [List.any_eq_true]
    refine Classical.byContradiction fun z => h r hm ((fit_sel hr).mpr fun a ha hb => z ⟨a, hb, decide_eq_true ha⟩)
theorem isBar_first {ks : List Kd} (hk0 : ks ≠ []) {bs : List Bl} {row : List Nat} (h : barS ks bs = some row) : isBarN ks bs row = true ∧ (∀ a ∈ row, a < bs.length) ∧ row.length ≤ bs.length := by
  rw [← firstBar_eq] at h
  unfold firstBar at h
  obtain ⟨l1, s, l2, e1, e2, e3⟩ := List.findSome?_eq_some_iff.mp h
  have hb : bars ks bs row = true := List.find?_some e2
  obtain ⟨hl, hlt, hris⟩ := chs_mem (List.mem_of_find?_eq_some e2)
  have hs : s < bs.length := by
    have : s ∈ List.range bs.length := by rw [e1]; simp
    exact List.mem_range.mp this
  have hsmall : ∀ s', s' < s → ∀ row' ∈ chs bs.length (s' + 1), bars ks bs row' = false := fun s' hs' row' hm => by
    have hmem : s' ∈ l1 := by
      have e4 : l1 = List.range s := by
        have hlen : l1.length = s := by
          have h5 := congrArg (fun l => l[l1.length]?) e1
          simp only [List.getElem?_append_right (Nat.le_refl _), Nat.sub_self, List.getElem?_cons_zero] at h5
          have h6 : l1.length < bs.length := by
            have := congrArg List.length e1
            simp at this
            omega
          rw [List.getElem?_range h6] at h5
          exact Option.some.inj h5
        have h7 := congrArg (List.take s) e1
        rw [List.take_range, Nat.min_eq_left (Nat.le_of_lt hs)] at h7
        rw [h7, ← hlen, List.take_left']
        rfl
      rw [e4]
      exact List.mem_range.mpr hs'
    have h8 := e3 s' hmem
    have h9 := List.find?_eq_none.mp h8 row' hm
    simpa using h9
  refine ⟨?_, hlt, by omega⟩
  unfold isBarN
  have hnd : row.Nodup := hris.imp fun h => Nat.ne_of_lt h
  rw [decide_eq_true hnd, ← bars_iff hlt, hb, Bool.true_and, Bool.true_and, List.all_eq_true]
  intro gone hg
  have hlt' : ∀ a ∈ row.filter (fun a => a != gone), a < bs.length := fun a ha => hlt a (List.mem_filter.mp ha).1
  rw [← bars_iff hlt', Bool.not_eq_true']
  have hlen : (row.filter fun a => a != gone).length = s := by
    have e5 : (row.filter fun a => a != gone) = row.erase gone := by
      rw [hnd.erase_eq_filter]
    rw [e5, List.length_erase_of_mem hg, hl]
    rfl
  cases s with
  | zero =>
    rw [List.length_eq_zero_iff.mp hlen]
    unfold bars
    obtain ⟨r, hr⟩ : ∃ r, r ∈ allRules ks := List.exists_mem_of_ne_nil _ (by
      intro z
      have := allRules_pos hk0
      rw [z] at this
      exact absurd this (by decide))
    rw [List.all_eq_false]
    exact ⟨r, hr, by simp⟩
  | succ s => exact hsmall s (Nat.lt_succ_self s) _ (chs_all hlen hlt' (hris.filter _))
/-- what the law's loop finds: the first row that bars -/
theorem idle_bars {ks : List Kd} {bs : List Bl} {L : List (List Nat)} (hL : ∀ k, k ∈ L ↔ ∃ r ∈ allRules ks, miss bs r = k) (row : List Nat) : (L.filter fun k => (k.filter fun a => decide (a ∈ row)).isEmpty).isEmpty = bars ks bs row := by
  rw [Bool.eq_iff_iff, List.isEmpty_iff, List.filter_eq_nil_iff]
  unfold bars
  rw [List.all_eq_true]
  constructor
  · intro h r hr
    have h1 := h (miss bs r) ((hL _).mpr ⟨r, hr, rfl⟩)
    rw [List.any_eq_true]
    have h2 : ((miss bs r).filter fun a => decide (a ∈ row)).isEmpty = false := by simpa using h1
    obtain ⟨a, ha⟩ := List.isEmpty_eq_false_iff_exists_mem.mp h2
    obtain ⟨h3, h4⟩ := List.mem_filter.mp ha
    exact ⟨a, h3, h4⟩
  · intro h k hk z
    obtain ⟨r, hr, rfl⟩ := (hL k).mp hk
    obtain ⟨a, h1, h2⟩ := List.any_eq_true.mp (h r hr)
    rw [List.isEmpty_iff, List.filter_eq_nil_iff] at z
    exact z a h1 h2
theorem row_sh {row : List Nat} : Sh 1 (.tuple (row.map fun (a : Nat) => .int a)) := sh_tup fun d hd => by
  obtain ⟨a, _, rfl⟩ := List.mem_map.mp hd
  exact sh_int
theorem nil_in {L : List (List Nat)} : qIn (.tuple []) (.list (L.map fun k => .tuple (k.map fun (a : Nat) => .int a))) = .ok (.bool (decide ([] ∈ L))) := by
  rw [in_list (n := 2) (sh_tup (n := 1) fun d hd => by cases hd) (sh_list fun d hd => by
    obtain ⟨k, _, rfl⟩ := List.mem_map.mp hd
    exact row_sh), List.any_map]
  congr 2
  rw [Bool.eq_iff_iff, List.any_eq_true, decide_eq_true_eq]
  constructor
  · rintro ⟨k, hk, h⟩
    cases k with
    | nil => exact hk
    | cons a k =>
      simp only [Function.comp, List.map_cons, PyData.eqv, PyData.eqvAll] at h
      cases h
  · intro h
    exact ⟨[], h, by simp [Function.comp, PyData.eqv, PyData.eqvAll]⟩
theorem sum_absI {bs : List Bl} {r : Ru} : qSum [.list (bs.map fun p => .int (absI (r.price p.1 - p.2)))] = .ok (.int (offR bs r)) := by
  have h := qSum_ok (bs := bs.map fun p => absI (r.price p.1 - p.2))
  rw [List.map_map] at h
  exact h
end Py

namespace Py
open PySem PySem.Spec PyProof.Rows L2 LamX
section
variable {x : Sl} {ρ : Rho} {f : Rho → R D} {i j : Nat} {d : D} {ds es : List D} {k : Int} {js : List Nat}
def nParL (i j : Nat) (f : Rho → R D) : Rho → O := gParL i j f
def kParL (r : R D) (i j : Nat) (ρ : Rho) : O := oB r fun d => oB (asL d) fun ds => .nx ((ρ.set i (.own ds)).set j (.own []))
@[simp] theorem nParL_c : nParL i j f (x :: ρ) = kParL (f (x :: ρ)) i j (x :: ρ) := (rfl)
@[simp] theorem kParL_ok : kParL (.ok (.list ds)) i j ρ = .nx ((ρ.set i (.own ds)).set j (.own [])) := (rfl)
def nTmp (js : List Nat) (f : Rho → R D) : Rho → R D := rTmp js f
def kTmp (r : R D) : R D := r.bind ckLf
theorem nTmp_eq : nTmp js f ρ = kTmp (f (fzs js ρ)) := rfl
@[simp] theorem kTmp_int : kTmp (.ok (.int k)) = .ok (.int k) := (rfl)
def nAppPop (i j : Nat) (f : Rho → R D) : Rho → O := gAppPop i j f
theorem nAppPop_eq {dk : D} (h1 : ρ[i]? = some (.own ds)) (h2 : ρ[j]? = some (.own es)) (hf : f ρ = .ok (.int k)) (h0 : 0 ≤ k ∧ k < 1000000) (he : es[k.toNat]? = some d) (hl : ds.length < 100000) : nAppPop i j f ρ = .nx ((ρ.set j (.own (es.eraseIdx k.toNat))).set i (.own (ds ++ [d]))) := by
  show oB (getO ρ i) (fun ds => oB (getO ρ j) fun es => oB (f ρ) fun k => popK i j ρ ds es k) = _
  have g1 : getO ρ i = .ok ds := by unfold getO; rw [h1]
  have g2 : getO ρ j = .ok es := by unfold getO; rw [h2]
  rw [g1, g2, hf]
  show (if 0 ≤ k ∧ k < 1000000 then (match es[k.toNat]? with
    | some d => if ds.length < maxL then .nx ((ρ.set j (.own (es.eraseIdx k.toNat))).set i (.own (ds ++ [d]))) else .bad
    | none => .bad) else .bad : O) = _
  rw [if_pos h0, he]
  show (if ds.length < maxL then O.nx _ else .bad) = _
  rw [if_pos (show ds.length < maxL from hl)]
end
end Py

namespace Py
open PySem PySem.Spec PyProof.Rows L2 LamX
section
variable {x : Sl} {ρ : Rho} {f : Rho → R D} {ds : List D} {n : Nat}
def nTupL (f : Rho → R D) : Rho → R D := rTupL f
def kTupL (r : R D) : R D := r.bind fun d => (asL d).bind fun ds => .ok (.tuple ds)
@[simp] theorem nTupL_c : nTupL f (x :: ρ) = kTupL (f (x :: ρ)) := (rfl)
@[simp] theorem kTupL_ok : kTupL (.ok (.list ds)) = .ok (.tuple ds) := (rfl)
def nRunP (n : Nat) (g : Rho → R D) (ds : List D) : R D := runP n g ds
theorem nRunP_eq : nRunP n f ds = f (ds.map .dat ++ List.replicate (n - ds.length) .no) := rfl
end
end Py

namespace Py
open PySem PySem.Spec PyProof.Rows L2 LamX
/-! ### lots of rules that are alike -/
abbrev Lt := List (List Int × List Ru)
def lotP (acc : Lt) (r : Ru) : Lt := if (acc.any fun p => decide (p.1 = r.row)) = true then acc.map (fun p => if p.1 = r.row then (p.1, p.2 ++ [r]) else p) else acc ++ [(r.row, [r])]
def lots (rs : List Ru) : Lt := rs.foldl lotP []
def rowK (row : List Int) : List Key := row.map .inl
def lotsD (acc : Lt) : Lots := acc.map fun p => (rowK p.1, p.2.map Ru.d)
theorem rowK_inj {a b : List Int} (h : rowK a = rowK b) : a = b := by
  unfold rowK at h
  exact List.map_inj_right (fun x y e => Sum.inl.inj e) |>.mp h
theorem tupK_row (row : List Int) : tupK (row.map PyData.int) = some (rowK row) := by
  induction row with
  | nil => rfl
  | cons x row ih =>
    show (tupK (row.map PyData.int)).map (Sum.inl x :: ·) = _
    rw [ih]
    rfl
theorem any_lots (acc : Lt) (row : List Int) : ((lotsD acc).any fun p => decide (p.1 = rowK row)) = acc.any fun p => decide (p.1 = row) := by
  unfold lotsD
  rw [List.any_map]
  congr 1
  funext p
  show decide (rowK p.1 = rowK row) = decide (p.1 = row)
  rw [Bool.eq_iff_iff, decide_eq_true_eq, decide_eq_true_eq]
  exact ⟨rowK_inj, fun h => by rw [h]⟩
structure LtOk (rs : List Ru) (acc : Lt) : Prop where
  nd : (acc.map (·.1)).Nodup
  fst : ∀ p ∈ acc, ∃ r t, p.2 = r :: t
  mem : ∀ p ∈ acc, ∀ r ∈ p.2, r.row = p.1 ∧ r ∈ rs
  all : ∀ r ∈ rs, ∃ p ∈ acc, p.1 = r.row
theorem keys_lotP (acc : Lt) (r : Ru) : (lotP acc r).map (·.1) = if r.row ∈ acc.map (·.1) then acc.map (·.1) else acc.map (·.1) ++ [r.row] := by
  unfold lotP
  have hq : (acc.any fun p => decide (p.1 = r.row)) = decide (r.row ∈ acc.map (·.1)) := by
    rw [Bool.eq_iff_iff, List.any_eq_true, decide_eq_true_eq, List.mem_map]
    constructor
    · rintro ⟨p, h1, h2⟩
      exact ⟨p, h1, of_decide_eq_true h2⟩
    · rintro ⟨p, h1, h2⟩
      exact ⟨p, h1, decide_eq_true h2⟩
  rw [hq]
  by_cases h : r.row ∈ acc.map (·.1)
  · rw [if_pos (decide_eq_true h), if_pos h, List.map_map]
    refine List.map_congr_left fun p _ => ?_
    by_cases e : p.1 = r.row <;> simp [e]
  · rw [if_neg (by simp [h]), if_neg h, List.map_append]
    rfl
theorem LtOk.step {rs : List Ru} {acc : Lt} (h : LtOk rs acc) (r : Ru) : LtOk (rs ++ [r]) (lotP acc r) := by
  have hm : ∀ p ∈ lotP acc r, (∃ q ∈ acc, p.1 = q.1 ∧ (p.2 = q.2 ∨ (q.1 = r.row ∧ p.2 = q.2 ++ [r]))) ∨ p = (r.row, [r]) := fun p hp => by
    unfold lotP at hp
    split at hp
    · obtain ⟨q, hq, rfl⟩ := List.mem_map.mp hp
      by_cases e : q.1 = r.row
      · rw [if_pos e]
        exact .inl ⟨q, hq, rfl, .inr ⟨e, rfl⟩⟩
      · rw [if_neg e]
        exact .inl ⟨q, hq, rfl, .inl rfl⟩
    · rcases List.mem_append.mp hp with hp | hp
      · exact .inl ⟨p, hp, rfl, .inl rfl⟩
      · exact .inr (List.mem_singleton.mp hp)
  refine ⟨?_, fun p hp => ?_, fun p hp s hs => ?_, fun s hs => ?_⟩
  · rw [keys_lotP]
    split
    · exact h.nd
    · rename_i hn
      refine List.nodup_append.mpr ⟨h.nd, by simp, fun a ha b hb e => ?_⟩
      rw [List.mem_singleton] at hb
      exact hn (hb ▸ e ▸ ha)
  · rcases hm p hp with ⟨q, hq, _, e | ⟨_, e⟩⟩ | rfl
    · obtain ⟨r0, t, e2⟩ := h.fst q hq
      exact ⟨r0, t, by rw [e, e2]⟩
    · obtain ⟨r0, t, e2⟩ := h.fst q hq
      exact ⟨r0, t ++ [r], by rw [e, e2]; rfl⟩
    · exact ⟨r, [], rfl⟩
  · rcases hm p hp with ⟨q, hq, e1, e | ⟨e3, e⟩⟩ | rfl
    · rw [e] at hs
      obtain ⟨h1, h2⟩ := h.mem q hq s hs
      exact ⟨by rw [e1]; exact h1, List.mem_append_left _ h2⟩
    · rw [e] at hs
      rcases List.mem_append.mp hs with hs | hs
      · obtain ⟨h1, h2⟩ := h.mem q hq s hs
        exact ⟨by rw [e1]; exact h1, List.mem_append_left _ h2⟩
      · rw [List.mem_singleton.mp hs]
        exact ⟨by rw [e1, e3], List.mem_append_right _ (List.mem_singleton.mpr rfl)⟩
    · rw [List.mem_singleton.mp hs]
      exact ⟨rfl, List.mem_append_right _ (List.mem_singleton.mpr rfl)⟩
  · have key : s.row ∈ (lotP acc r).map (·.1) := by
      rw [keys_lotP]
      rcases List.mem_append.mp hs with hs | hs
      · obtain ⟨p, h1, h2⟩ := h.all s hs
        have : s.row ∈ acc.map (·.1) := by
          rw [← h2]
          exact List.mem_map_of_mem h1
        split
        · exact this
        · exact List.mem_append_left _ this
      · rw [List.mem_singleton.mp hs]
        split
        · rename_i z
          exact z
        · exact List.mem_append_right _ (List.mem_singleton.mpr rfl)
    obtain ⟨p, h1, h2⟩ := List.mem_map.mp key
    exact ⟨p, h1, h2⟩
theorem lots_fold : ∀ (rs pre : List Ru) (acc : Lt), LtOk pre acc → LtOk (pre ++ rs) (rs.foldl lotP acc)
  | [], pre, acc, h => by
    rw [List.append_nil]
    exact h
  | r :: rs, pre, acc, h => by
    have := lots_fold rs (pre ++ [r]) (lotP acc r) (h.step r)
    rw [List.append_assoc] at this
    exact this
theorem lots_ok (rs : List Ru) : LtOk rs (lots rs) := by
  have := lots_fold rs [] [] ⟨List.nodup_nil, fun p hp => by simp at hp, fun p hp => by simp at hp, fun r hr => by simp at hr⟩
  rw [List.nil_append] at this
  exact this
theorem lotP_len (acc : Lt) (r : Ru) : (lotP acc r).length ≤ acc.length + 1 := by
  unfold lotP
  split <;> simp
theorem lotP_in {acc : Lt} {r : Ru} {n : Nat} (h : ∀ p ∈ acc, p.2.length ≤ n) : ∀ p ∈ lotP acc r, p.2.length ≤ n + 1 := fun p hp => by
  unfold lotP at hp
  split at hp
  · obtain ⟨q, hq, rfl⟩ := List.mem_map.mp hp
    have := h q hq
    by_cases e : q.1 = r.row
    · rw [if_pos e, List.length_append]
      show q.2.length + 1 ≤ _
      omega
    · rw [if_neg e]
      omega
  · rcases List.mem_append.mp hp with hp | hp
    · have := h p hp
      omega
    · rw [List.mem_singleton.mp hp]
      show 1 ≤ n + 1
      omega
theorem lots_len : ∀ (rs : List Ru) (acc : Lt), (rs.foldl lotP acc).length ≤ acc.length + rs.length
  | [], acc => Nat.le_refl _
  | r :: rs, acc => by
    have h1 := lots_len rs (lotP acc r)
    have h2 := lotP_len acc r
    rw [List.foldl_cons, List.length_cons]
    omega
theorem val_lots (acc : Lt) (row : List Int) : valG (lotsD acc) (rowK row) = (acc.find? fun p => decide (p.1 = row)).map fun p => p.2.map Ru.d := by
  unfold valG lotsD
  rw [List.find?_map]
  have : ((fun p : List Key × List D => decide (p.1 = rowK row)) ∘ fun p : List Int × List Ru => (rowK p.1, p.2.map Ru.d)) = fun p => decide (p.1 = row) := by
    funext p
    show decide (rowK p.1 = rowK row) = decide (p.1 = row)
    rw [Bool.eq_iff_iff, decide_eq_true_eq, decide_eq_true_eq]
    exact ⟨rowK_inj, fun h => by rw [h]⟩
  rw [this, Option.map_map]
  rfl
theorem put_lots {acc : Lt} (nd : (acc.map (·.1)).Nodup) (r : Ru) : putG (lotsD acc) (rowK r.row) ((valG (lotsD acc) (rowK r.row)).getD [] ++ [r.d]) = lotsD (lotP acc r) := by
  rw [val_lots]
  unfold putG
  rw [any_lots]
  unfold lotP
  by_cases h : (acc.any fun p => decide (p.1 = r.row)) = true
  · rw [if_pos h, if_pos h]
    unfold lotsD
    rw [List.map_map, List.map_map]
    refine List.map_congr_left fun p hp => ?_
    show (if rowK p.1 = rowK r.row then (rowK p.1, _) else (rowK p.1, p.2.map Ru.d)) = (rowK (if p.1 = r.row then (p.1, p.2 ++ [r]) else p).1, (if p.1 = r.row then (p.1, p.2 ++ [r]) else p).2.map Ru.d)
    by_cases e : p.1 = r.row
    · rw [if_pos (by rw [e]), if_pos e]
      have hf : acc.find? (fun q => decide (q.1 = r.row)) = some p := by
        clear h
        induction acc with
        | nil => simp at hp
        | cons q acc ih =>
          rw [List.map_cons, List.nodup_cons] at nd
          rcases List.mem_cons.mp hp with rfl | hp
          · rw [List.find?_cons_of_pos (by simp [e])]
          · have hq : ¬ q.1 = r.row := fun z => nd.1 (by
              rw [z, ← e]
              exact List.mem_map_of_mem hp)
            rw [List.find?_cons_of_neg (by simp [hq])]
            exact ih nd.2 hp
      rw [hf, List.map_append]
      rfl
    · rw [if_neg (fun z => e (rowK_inj z)), if_neg e]
  · rw [if_neg h, if_neg h]
    have hf : acc.find? (fun q => decide (q.1 = r.row)) = none := by
      rw [List.find?_eq_none]
      intro p hp z
      exact h (List.any_eq_true.mpr ⟨p, hp, z⟩)
    rw [hf]
    unfold lotsD
    rw [List.map_append]
    rfl
theorem grp_lots {m : List D → R D} : ∀ (rs : List Ru) (acc : Lt) (n : Nat), (∀ r ∈ rs, m [r.d] = .ok (.tuple (r.row.map .int))) → (acc.map (·.1)).Nodup → (∀ p ∈ acc, p.2.length ≤ n) → acc.length + rs.length ≤ 50000 → n + rs.length ≤ 50000 → grpL m (rs.map Ru.d) (lotsD acc) = .ok (lotsD (rs.foldl lotP acc))
  | [], acc, n, _, _, _, _, _ => rfl
  | r :: rs, acc, n, h, nd, hn, l1, l2 => by
    rw [List.length_cons] at l1 l2
    have hm := h r List.mem_cons_self
    have hk : keyT (.tuple (r.row.map .int)) = some (rowK r.row) := tupK_row r.row
    have hlen : (lotsD acc).length < maxL ∧ ((valG (lotsD acc) (rowK r.row)).getD []).length < maxL := by
      constructor
      · unfold lotsD
        rw [List.length_map]
        show acc.length < 100000
        omega
      · rw [val_lots]
        show _ < 100000
        cases q : acc.find? fun p => decide (p.1 = r.row) with
        | none => exact Nat.zero_lt_succ _
        | some p =>
          show (p.2.map Ru.d).length < _
          rw [List.length_map]
          have := hn p (List.mem_of_find?_eq_some q)
          omega
    show (m [r.d]).bind (fun x => match keyT x with
      | some k => if (lotsD acc).length < maxL ∧ ((valG (lotsD acc) k).getD []).length < maxL then grpL m (rs.map Ru.d) (putG (lotsD acc) k ((valG (lotsD acc) k).getD [] ++ [r.d])) else .bad
      | none => .bad) = _
    rw [hm]
    show (match keyT (.tuple (r.row.map .int)) with
      | some k => if (lotsD acc).length < maxL ∧ ((valG (lotsD acc) k).getD []).length < maxL then grpL m (rs.map Ru.d) (putG (lotsD acc) k ((valG (lotsD acc) k).getD [] ++ [r.d])) else .bad
      | none => .bad) = _
    rw [hk]
    show (if (lotsD acc).length < maxL ∧ ((valG (lotsD acc) (rowK r.row)).getD []).length < maxL then grpL m (rs.map Ru.d) (putG (lotsD acc) (rowK r.row) ((valG (lotsD acc) (rowK r.row)).getD [] ++ [r.d])) else .bad) = _
    rw [if_pos hlen, put_lots nd]
    have hnd : ((lotP acc r).map (·.1)).Nodup := by
      rw [keys_lotP]
      split
      · exact nd
      · rename_i hn
        refine List.nodup_append.mpr ⟨nd, by simp, fun a ha b hb e => ?_⟩
        rw [List.mem_singleton] at hb
        exact hn (hb ▸ e ▸ ha)
    have hl := lotP_len acc r
    exact grp_lots rs (lotP acc r) (n + 1) (fun s hs => h s (List.mem_cons_of_mem _ hs)) hnd (lotP_in hn) (by omega) (by omega)
/-! ### what settles -/
def difs (a b : List Int) : List Nat := (List.range 21).filter fun q => !decide (a.getD q 0 = b.getD q 0)
def hits (P : List (List Nat)) (row : List Nat) : Bool := P.all fun own => own.any fun a => decide (a ∈ row)
theorem row_getD (r : Ru) {q : Nat} (hq : q < 21) : r.row.getD q 0 = r.price q := by
  unfold Ru.row
  rw [List.getD_eq_getElem?_getD, List.getElem?_map, List.getElem?_range hq]
  rfl
theorem difs_nil {r s : Ru} : difs r.row s.row = [] ↔ r.row = s.row := by
  unfold difs
  rw [List.filter_eq_nil_iff]
  constructor
  · intro h
    unfold Ru.row
    refine List.map_congr_left fun q hq => ?_
    have hq' := List.mem_range.mp hq
    have := h q hq
    rw [row_getD r hq', row_getD s hq'] at this
    simpa using this
  · intro h q hq
    rw [h]
    simp
theorem hits_congr {P P' : List (List Nat)} (h : ∀ k, k ∈ P ↔ k ∈ P') (row : List Nat) : hits P row = hits P' row := by
  unfold hits
  rw [Bool.eq_iff_iff, List.all_eq_true, List.all_eq_true]
  exact ⟨fun g k hk => g k ((h k).mpr hk), fun g k hk => g k ((h k).mp hk)⟩
def settS (P : List (List Nat)) : Option (List Nat) := (List.range 4).findSome? fun s => (chs 21 s).find? (hits P)
theorem settS_congr {P P' : List (List Nat)} (h : ∀ k, k ∈ P ↔ k ∈ P') : settS P = settS P' := by
  unfold settS
  have : hits P = hits P' := by
    funext row
    exact hits_congr h row
  rw [this]
theorem settS_some {P : List (List Nat)} {row : List Nat} (h : settS P = some row) : hits P row = true ∧ row.length ≤ 3 ∧ ∀ a ∈ row, a < 21 := by
  unfold settS at h
  obtain ⟨s, hs, h2⟩ := List.exists_of_findSome?_eq_some h
  have hs := List.mem_range.mp hs
  have h3 := List.find?_some h2
  obtain ⟨l1, l2, _⟩ := chs_mem (List.mem_of_find?_eq_some h2)
  exact ⟨h3, by omega, l2⟩
theorem idle_hits {L : List (List Nat)} (row : List Nat) : (L.filter fun k => (k.filter fun a => decide (a ∈ row)).isEmpty).isEmpty = hits L row := by
  rw [filter_isEmpty]
  unfold hits
  congr 1
  funext k
  rw [filter_isEmpty, Bool.eq_iff_iff]
  simp
end Py

namespace Py
open PySem PySem.Spec PyProof.Rows L2 LamX
section
variable {x : Sl} {ρ : Rho} {fs : Rho → R (List D)} {f : Rho → R D} {i : Nat} {ds es : List D} {d v : D} {t : List (List Key × D)} {k : List Key}
def qEz (ds : List D) : R (List D) := asEz ds
@[simp] theorem qEz_t : qEz [.tuple ds, .tuple es] = .ok (ezD ds es) := (rfl)
def nEz (fs : Rho → R (List D)) : Rho → R (List D) := rEz fs
@[simp] theorem nEz_c : nEz fs (x :: ρ) = kR (fs (x :: ρ)) qEz := (rfl)
def nTab [Hs] (i : Nat) (fs : Rho → R (List D)) : Rho → O := gTab i fs
theorem nTab_ok [Hs] (hf : fs ρ = .ok [.list ds]) (ht : pairsT ds = some t) : nTab i fs ρ = .nx (ρ.set i (.tab Hs.hs (mkT [] t))) := by
  show oB (fs ρ) (fun ds => oB (asPT ds) fun t => .nx (ρ.set i (.tab Hs.hs (mkT [] t)))) = _
  rw [hf]
  show oB (asPT [.list ds]) (fun t => .nx (ρ.set i (.tab Hs.hs (mkT [] t)))) = _
  show oB (match pairsT ds with | some t => R.ok t | none => R.bad) (fun t => .nx (ρ.set i (.tab Hs.hs (mkT [] t)))) = _
  rw [ht]
def nTabE [Hs] (i : Nat) (f : Rho → R D) : Rho → R D := rTab i f
theorem nTabE_ok [Hs] (h : ρ[i]? = some (.tab Hs.hs t)) (hf : f ρ = .ok d) (hk : keyT d = some k) (hv : valT t k = some v) : nTabE i f ρ = .ok v := by
  show tabAt ρ i (fun t => (f ρ).bind fun d => ixT t d) = _
  unfold tabAt
  rw [h]
  show (if Hs.hs = Hs.hs then (f ρ).bind (fun d => ixT t d) else .bad) = _
  rw [if_pos rfl, hf]
  show ixT t d = _
  unfold ixT
  rw [hk]
  show (match valT t k with | some v => R.ok v | none => .bad) = _
  rw [hv]
end
end Py

namespace Py
open PySem PySem.Spec PyProof.Rows L2 LamX

def ng_is_count : Rho → O := (nRet (nAndV (nIsI "int" (nGet 0)) (nAndV (nNotV (nIsI "bool" (nGet 0))) (nChain qLe qLe (nGet 1) (nGet 0) (nGet 2)))))
theorem n_is_count : w_is_count = nRun 3 (ng_is_count) := by kernel_rfl
def ng_need_kind : Rho → O := (nIf (nOr (nNot (nTru (nIsI "str" (nGet 0)))) (nB (n2 (nGet 0) (nC (.tuple [.str "flat", .str "each", .str "base", .str "from", .str "packs", .str "gift", .str "least", .str "most", .str "off"])) qNotIn))) (nErr .BadRule) nNx)
theorem n_need_kind : w_need_kind = nRun 1 (ng_need_kind) := by kernel_rfl
def ngs_is_rule_0 : Rho → O := (nIf (nOr (nNot (nTru (nIsI "tuple" (nGet 0)))) (nOr (nB (n2 (nGet 0) (nTup nNil) qEq)) (nOr (nNot (nTru (nIsI "str" (n2 (nGet 0) (nC (.int 0)) qIx)))) (nB (n2 (n2 (nGet 0) (nC (.int 0)) qIx) (nC (.tuple [.str "flat", .str "each", .str "base", .str "from", .str "packs", .str "gift", .str "least", .str "most", .str "off"])) qNotIn))))) (nRet (nC (.bool false))) nNx)
theorem ngs_is_rule_0_eq : gs_is_rule_0 = ngs_is_rule_0 := by kernel_rfl
def ngs_is_rule_1 : Rho → O := (nRet (nCall (nCons (nLc [2, 3, 4] (nZip (nCons (nSlice (nGet 0) (nPart (nC (.int 1))) nON) (nCons (nGet 1) nNil))) (bTup [(bName 2), (bTup [(bName 3), (bName 4)])]) nYes (nCall (nArgs 3 (nCons (nGet 2) (nCons (nGet 3) (nCons (nGet 4) nNil)))) w_is_count)) nNil) qAll))
theorem ngs_is_rule_1_eq : gs_is_rule_1 = ngs_is_rule_1 := by kernel_rfl
def ng_is_rule : Rho → O := (nSeq ngs_is_rule_0 (nSeq (nSet 1 (nKGet T_BOUNDS (n2 (nGet 0) (nC (.int 0)) qIx))) (nSeq (nIf (nB (n2 (nCall (nCons (nGet 0) nNil) qLen) (n2 (nCall (nCons (nGet 1) nNil) qLen) (nC (.int 1)) qAdd) qNe)) (nRet (nC (.bool false))) nNx) ngs_is_rule_1)))
theorem n_is_rule : w_is_rule = nRun 5 (ng_is_rule) := by kernel_rfl
def ng_need_rule : Rho → O := (nIf (nNot (nTru (nCall (nArgs 1 (nCons (nGet 0) nNil)) w_is_rule))) (nErr .BadRule) nNx)
theorem n_need_rule : w_need_rule = nRun 1 (ng_need_rule) := by kernel_rfl
def ng_price : Rho → O := (nSeq (nPar 2 3 (nCons (n2 (nGet 0) (nC (.int 0)) qIx) (nCons (n2 (nGet 0) (nC (.int 1)) qIx) nNil))) (nSeq (nIf (nB (n2 (nGet 2) (nC (.str "flat")) qEq)) (nRet (nGet 3)) nNx) (nSeq (nIf (nB (n2 (nGet 2) (nC (.str "each")) qEq)) (nRet (n2 (nGet 3) (nGet 1) qMul)) nNx) (nSeq (nIf (nB (n2 (nGet 2) (nC (.str "base")) qEq)) (nRet (n2 (nGet 3) (n2 (n2 (nGet 0) (nC (.int 2)) qIx) (nGet 1) qMul) qAdd)) nNx) (nSeq (nIf (nB (n2 (nGet 2) (nC (.str "from")) qEq)) (nRet (n2 (n2 (nGet 3) (nCall (nCons (nGet 1) (nCons (n2 (nGet 0) (nC (.int 2)) qIx) nNil)) qMin) qMul) (n2 (n2 (nGet 0) (nC (.int 3)) qIx) (nCall (nCons (nC (.int 0)) (nCons (n2 (nGet 1) (n2 (nGet 0) (nC (.int 2)) qIx) qSub) nNil)) qMax) qMul) qAdd)) nNx) (nSeq (nIf (nB (n2 (nGet 2) (nC (.str "packs")) qEq)) (nRet (n2 (nGet 3) (n2 (n2 (n2 (nGet 1) (n2 (nGet 0) (nC (.int 2)) qIx) qAdd) (nC (.int 1)) qSub) (n2 (nGet 0) (nC (.int 2)) qIx) qDiv) qMul)) nNx) (nSeq (nIf (nB (n2 (nGet 2) (nC (.str "gift")) qEq)) (nRet (n2 (nGet 3) (n2 (nGet 1) (n2 (nGet 1) (n2 (nGet 0) (nC (.int 2)) qIx) qDiv) qSub) qMul)) nNx) (nSeq (nIf (nB (n2 (nGet 2) (nC (.str "least")) qEq)) (nRet (nCall (nCons (nGet 3) (nCons (n2 (n2 (nGet 0) (nC (.int 2)) qIx) (nGet 1) qMul) nNil)) qMax)) nNx) (nSeq (nIf (nB (n2 (nGet 2) (nC (.str "most")) qEq)) (nRet (nCall (nCons (n2 (nGet 3) (nC (.int 5)) qMul) (nCons (n2 (n2 (nGet 0) (nC (.int 2)) qIx) (nGet 1) qMul) nNil)) qMin)) nNx) (nRet (nCall (nCons (nC (.int 0)) (nCons (n2 (n2 (nGet 3) (nGet 1) qMul) (nIfE (nB (n2 (nGet 1) (n2 (nGet 0) (nC (.int 2)) qIx) qGe)) (n2 (nGet 0) (nC (.int 3)) qIx) (nC (.int 0))) qSub) nNil)) qMax)))))))))))
theorem n_price : w_price = nRun 4 (ng_price) := by kernel_rfl
def ngs_rules_of_0 : Rho → O := (nExt 4 (nLc [6] (nR2 (nCons (nGet 2) (nCons (n2 (nGet 3) (nC (.int 1)) qAdd) nNil))) (bName 6) nYes (n2 (nGet 5) (nTup (nCons (nGet 6) nNil)) qAdd)))
theorem ngs_rules_of_0_eq : gs_rules_of_0 = ngs_rules_of_0 := by kernel_rfl
def ng_rules_of : Rho → O := (nSeq (nSet 1 (nLst (nCons (nTup (nCons (nGet 0) nNil)) nNil))) (nSeq (nFor (nSeqI (nKGet T_BOUNDS (nGet 0))) (bTup [(bName 2), (bName 3)]) (nSeq (nOwn 4 nNil) (nSeq (nFor (nSeqI (nGet 1)) (bName 5) ngs_rules_of_0) (nFz [4] (nSet 1 (nGet 4)))))) (nRet (nGet 1))))
theorem n_rules_of : w_rules_of = nRun 7 (ng_rules_of) := by kernel_rfl
def ng_all_rules : Rho → O := (nSeq (nOwn 1 nNil) (nSeq (nFor (nSeqI (nGet 0)) (bName 2) (nExt 1 (nCall (nArgs 1 (nCons (nGet 2) nNil)) w_rules_of))) (nFz [1] (nRet (nGet 1)))))
theorem n_all_rules : w_all_rules = nRun 3 (ng_all_rules) := by kernel_rfl
def ng_need_kinds : Rho → O := (nSeq (nIf (nOr (nNot (nTru (nIsI "list" (nGet 0)))) (nB (n2 (nGet 0) (nLst nNil) qEq))) (nErr .BadRule) nNx) (nSeq (nFor (nSeqI (nGet 0)) (bName 1) (nDrop (nCall (nArgs 1 (nCons (nGet 1) nNil)) w_need_kind))) (nIf (nB (n2 (nLenSet (nGet 0)) (nCall (nCons (nGet 0) nNil) qLen) qNe)) (nErr .BadRule) nNx)))
theorem n_need_kinds : w_need_kinds = nRun 2 (ng_need_kinds) := by kernel_rfl
def ngs_row_of_0 : Rho → O := (nRet (nCall (nCons (nLc [1] (nR1 (nCons (n2 (nC (.int 20)) (nC (.int 1)) qAdd) nNil)) (bName 1) nYes (nCall (nArgs 2 (nCons (nGet 0) (nCons (nGet 1) nNil))) w_price)) nNil) qTuple))
theorem ngs_row_of_0_eq : gs_row_of_0 = ngs_row_of_0 := by kernel_rfl
def ng_row_of : Rho → O := ngs_row_of_0
theorem n_row_of : w_row_of = nRun 2 (ng_row_of) := by kernel_rfl
def ngs_parting_0 : Rho → O := (nFor (nEz (nCons (nCall (nArgs 1 (nCons (nGet 0) nNil)) w_row_of) (nCons (nCall (nArgs 1 (nCons (nGet 1) nNil)) w_row_of) nNil))) (bTup [(bName 2), (bTup [(bName 3), (bName 4)])]) (nIf (nB (n2 (nGet 3) (nGet 4) qNe)) (nRet (nGet 2)) nNx))
theorem ngs_parting_0_eq : gs_parting_0 = ngs_parting_0 := by kernel_rfl
def ng_parting : Rho → O := (nSeq (nDrop (nCall (nArgs 1 (nCons (nGet 0) nNil)) w_need_rule)) (nSeq (nDrop (nCall (nArgs 1 (nCons (nGet 1) nNil)) w_need_rule)) (nSeq ngs_parting_0 (nRet (nC .none)))))
theorem n_parting : w_parting = nRun 5 (ng_parting) := by kernel_rfl
def ng_is_alike : Rho → O := (nRet (n2 (nCall (nArgs 2 (nCons (nGet 0) (nCons (nGet 1) nNil))) w_parting) (nC .none) qIs))
theorem n_is_alike : w_is_alike = nRun 2 (ng_is_alike) := by kernel_rfl
def ngP_row_of : Rho → R D := nTupL (nLc [1] (nR1 (nCons (n2 (nC (.int 20)) (nC (.int 1)) qAdd) nNil)) (bName 1) nYes (nCall (nArgs 2 (nCons (nGet 0) (nCons (nGet 1) nNil))) w_price))
theorem nP_row_of : wP_row_of = nRunP 2 ngP_row_of := by kernel_rfl
def ng_alike_ones : Rho → O := (nSeq (nDrop (nCall (nArgs 1 (nCons (nGet 0) nNil)) w_need_kinds)) (nSeq (nDrop (nCall (nArgs 1 (nCons (nGet 1) nNil)) w_need_rule)) (nSeq (nSet 2 (nCall (nArgs 1 (nCons (nGet 1) nNil)) w_row_of)) (nRet (nLc [3] (nSeqI (nCall (nArgs 1 (nCons (nGet 0) nNil)) w_all_rules)) (bName 3) (nB (n2 (nCall (nArgs 1 (nCons (nGet 3) nNil)) w_row_of) (nGet 2) qEq)) (nGet 3))))))
theorem n_alike_ones : w_alike_ones = nRun 4 (ng_alike_ones) := by kernel_rfl
def ng_many_unlike : Rho → O := (nSeq (nDrop (nCall (nArgs 1 (nCons (nGet 0) nNil)) w_need_kinds)) (nRet (nCall (nCons (nCall (nArgs 1 (nCons (nCall (nArgs 1 (nCons (nGet 0) nNil)) w_all_rules) nNil)) w_groups) nNil) qLen)))
theorem n_many_unlike : w_many_unlike = nRun 1 (ng_many_unlike) := by kernel_rfl
def ng__law_cell : Rho → O := (nSeq (nIf (nB (n2 (nGet 0) (nLst nNil) qEq)) (nRet (n2 (nGet 1) (nC (.int 7919)) qMul)) nNx) (nRet (n2 (n2 (nGet 0) (n2 (nGet 1) (nCall (nCons (nGet 0) nNil) qLen) qMod) qIx) (n2 (n2 (nGet 1) (nCall (nCons (nGet 0) nNil) qLen) qDiv) (nC (.int 104729)) qMul) qAdd)))
theorem n__law_cell : w__law_cell = nRun 2 (ng__law_cell) := by kernel_rfl
def ng__law_drawn : Rho → O := (nSeq (nSet 2 (n2 (n2 (n2 (nGet 0) (nC (.int 6364136223846793005)) qMul) (n2 (n2 (nGet 1) (nC (.int 1)) qAdd) (nC (.int 1442695040888963407)) qMul) qAdd) (nC (.int 340282366920938463463374607431768211507)) qMod)) (nSeq (nSet 2 (n2 (n2 (nGet 2) (nGet 2) qMul) (nC (.int 340282366920938463463374607431768211297)) qMod)) (nSeq (nSet 2 (n2 (n2 (n2 (n2 (nGet 2) (nC (.int 18446744073709551557)) qMod) (nC (.int 1)) qAdd) (n2 (n2 (nGet 2) (nC (.int 18446744073709551557)) qDiv) (nC (.int 1)) qAdd) qMul) (nGet 2) qMul)) (nRet (n2 (nGet 2) (nC (.int 340282366920938463463374607431768211507)) qMod)))))
theorem n__law_drawn : w__law_drawn = nRun 3 (ng__law_drawn) := by kernel_rfl
def ng__law_word (er : Er) (a : Addr) : Rho → O := (nSeq (nSet 1 (nLst (nCons (nRawIs 0 (.ref a) (decide (nm er = nm .BadBill))) (nCons (nRawIs 0 (.ref a) (decide (nm er = nm .BadRule))) (nCons (nRawIs 0 (.ref a) (decide (nm er = nm .BadText))) (nCons (nRawIs 0 (.ref a) (decide (nm er = nm .NoRule))) nNil)))))) (nSeq (nIf (nOr (nB (n2 (nCall (nCons (nLc [2] (nSeqL (nGet 1)) (bName 2) nYes (nCall (nCons (nGet 2) nNil) qInt)) nNil) qSum) (nC (.int 1)) qNe)) (nNot (nTru (nRawIs 0 (.ref a) true)))) (nRet (nC (.str "other"))) nNx) (nRet (n2 (nLst (nCons (nC (.str "BadBill")) (nCons (nC (.str "BadRule")) (nCons (nC (.str "BadText")) (nCons (nC (.str "NoRule")) nNil))))) (nIndexF (nGet 1) (nC (.bool true))) qIx))))
theorem n__law_word (er : Er) (a : Addr) (ρ : Rho) : fin (g__law_word er a ρ) = kFin (ng__law_word er a ρ) := by kernel_rfl
def ng__law_bounds : Rho → O := (nSeq (nAsg (nTup (nCons (nTup (nCons (nC (.int 0)) (nCons (nC (.int 9)) nNil))) (nCons (nTup (nCons (nC (.int 1)) (nCons (nC (.int 5)) nNil))) nNil))) (bTup [(bName 1), (bName 2)])) (nSeq (nSet 3 (nDisp [("flat", (nC (.str "c"))), ("each", (nC (.str "c"))), ("base", (nC (.str "cc"))), ("from", (nC (.str "cnc"))), ("packs", (nC (.str "cn"))), ("gift", (nC (.str "cn"))), ("least", (nC (.str "cc")))])) (nSeq (nSet 4 (nGet2 (nGet 3) (nGet 0) (nIfE (nB (n2 (nGet 0) (nC (.str "most")) qEq)) (nC (.str "cc")) (nC (.str "cnc"))))) (nRet (nLc [5] (nSigns (nGet 4)) (bName 5) nYes (nIfE (nB (n2 (nGet 5) (nC (.str "c")) qEq)) (nGet 1) (nGet 2)))))))
theorem n__law_bounds : w__law_bounds = nRun 6 (ng__law_bounds) := by kernel_rfl
def ng__law_kinds : Rho → O := (nRet (nLst (nCons (nC (.str "flat")) (nCons (nC (.str "each")) (nCons (nC (.str "base")) (nCons (nC (.str "from")) (nCons (nC (.str "packs")) (nCons (nC (.str "gift")) (nCons (nC (.str "least")) (nCons (nC (.str "most")) (nCons (nC (.str "off")) nNil)))))))))))
theorem n__law_kinds : w__law_kinds = nRun 0 (ng__law_kinds) := by kernel_rfl
def ngs__law_rule_0 : Rho → O := (nSet 2 (nLc [3, 4, 5] (nEnum (nCons (nCall (nArgs 1 (nCons (nGet 1) nNil)) w__law_bounds) nNil)) (bTup [(bName 3), (bTup [(bName 4), (bName 5)])]) nYes (n2 (nGet 4) (n2 (nCall (nArgs 2 (nCons (nGet 0) (nCons (nGet 3) nNil))) w__law_drawn) (n2 (n2 (nGet 5) (nGet 4) qSub) (nC (.int 1)) qAdd) qMod) qAdd)))
theorem ngs__law_rule_0_eq : gs__law_rule_0 = ngs__law_rule_0 := by kernel_rfl
def ng__law_rule : Rho → O := (nSeq (nSet 1 (n2 (nCall0 w__law_kinds) (n2 (nGet 0) (nC (.int 9)) qMod) qIx)) (nSeq ngs__law_rule_0 (nRet (n2 (nTup (nCons (nGet 1) nNil)) (nCall (nCons (nGet 2) nNil) qTuple) qAdd))))
theorem n__law_rule : w__law_rule = nRun 6 (ng__law_rule) := by kernel_rfl
def ngs__law_cost_0 : Rho → O := (nIf (nB (n2 (nGet 2) (nC (.str "gift")) qEq)) (nSet 3 (n2 (nGet 3) (nIfE (nB (n2 (n2 (nGet 4) (n2 (nGet 0) (nC (.int 2)) qIx) qMod) (nC (.int 0)) qEq)) (nC (.int 0)) (n2 (nGet 0) (nC (.int 1)) qIx)) qAdd)) (nSet 3 (n2 (nGet 3) (nIfE (nB (n2 (nGet 2) (nTup (nCons (nC (.str "each")) (nCons (nC (.str "off")) nNil))) qIn)) (n2 (nGet 0) (nC (.int 1)) qIx) (n2 (nGet 0) (nC (.int 2)) qIx)) qAdd)))
theorem ngs__law_cost_0_eq : gs__law_cost_0 = ngs__law_cost_0 := by kernel_rfl
def ngs__law_cost_1 : Rho → O := (nIf (nB (n2 (nGet 2) (nC (.str "packs")) qEq)) (nSet 3 (n2 (nGet 3) (nIfE (nOr (nB (n2 (n2 (nGet 4) (n2 (nGet 0) (nC (.int 2)) qIx) qMod) (nC (.int 1)) qEq)) (nB (n2 (n2 (nGet 0) (nC (.int 2)) qIx) (nC (.int 1)) qEq))) (n2 (nGet 0) (nC (.int 1)) qIx) (nC (.int 0))) qAdd)) ngs__law_cost_0)
theorem ngs__law_cost_1_eq : gs__law_cost_1 = ngs__law_cost_1 := by kernel_rfl
def ngs__law_cost_2 : Rho → O := (nFor (nR2 (nCons (nC (.int 1)) (nCons (n2 (nGet 1) (nC (.int 1)) qAdd) nNil))) (bName 4) (nIf (nB (n2 (nGet 2) (nC (.str "from")) qEq)) (nSet 3 (n2 (nGet 3) (nIfE (nB (n2 (nGet 4) (n2 (nGet 0) (nC (.int 2)) qIx) qLe)) (n2 (nGet 0) (nC (.int 1)) qIx) (n2 (nGet 0) (nC (.int 3)) qIx)) qAdd)) ngs__law_cost_1))
theorem ngs__law_cost_2_eq : gs__law_cost_2 = ngs__law_cost_2 := by kernel_rfl
def ng__law_cost : Rho → O := (nSeq (nPar 2 3 (nCons (n2 (nGet 0) (nC (.int 0)) qIx) (nCons (nC (.int 0)) nNil))) (nSeq (nIf (nB (n2 (nGet 2) (nC (.str "flat")) qEq)) (nRet (n2 (nGet 0) (nC (.int 1)) qIx)) nNx) (nSeq ngs__law_cost_2 (nSeq (nIf (nB (n2 (nGet 2) (nC (.str "base")) qEq)) (nRet (n2 (n2 (nGet 0) (nC (.int 1)) qIx) (nGet 3) qAdd)) nNx) (nSeq (nIf (nB (n2 (nGet 2) (nC (.str "least")) qEq)) (nRet (n2 (nCall (nCons (nLst (nCons (n2 (nGet 0) (nC (.int 1)) qIx) (nCons (nGet 3) nNil))) nNil) qSorted) (nC (.int 1)) qIx)) nNx) (nSeq (nIf (nB (n2 (nGet 2) (nC (.str "most")) qEq)) (nRet (n2 (nCall (nCons (nLst (nCons (n2 (nC (.int 5)) (n2 (nGet 0) (nC (.int 1)) qIx) qMul) (nCons (nGet 3) nNil))) nNil) qSorted) (nC (.int 0)) qIx)) nNx) (nRet (nIfE (nAnd (nB (n2 (nGet 2) (nC (.str "off")) qEq)) (nB (n2 (nGet 1) (n2 (nGet 0) (nC (.int 2)) qIx) qGe))) (n2 (nCall (nCons (nLst (nCons (nC (.int 0)) (nCons (n2 (nGet 3) (n2 (nGet 0) (nC (.int 3)) qIx) qSub) nNil))) nNil) qSorted) (nC (.int 1)) qIx) (nGet 3)))))))))
theorem n__law_cost : w__law_cost = nRun 5 (ng__law_cost) := by kernel_rfl
def ng__law_row : Rho → O := (nRet (nLc [1] (nR1 (nCons (nC (.int 21)) nNil)) (bName 1) nYes (nCall (nArgs 2 (nCons (nGet 0) (nCons (nGet 1) nNil))) w__law_cost)))
theorem n__law_row : w__law_row = nRun 2 (ng__law_row) := by kernel_rfl
def ngs__law_rules_0 : Rho → O := (nExt 6 (nLc [8] (nR2 (nCons (nGet 4) (nCons (n2 (nGet 5) (nC (.int 1)) qAdd) nNil))) (bName 8) nYes (n2 (nGet 7) (nTup (nCons (nGet 8) nNil)) qAdd)))
theorem ngs__law_rules_0_eq : gs__law_rules_0 = ngs__law_rules_0 := by kernel_rfl
def ngs__law_rules_1 : Rho → O := (nFor (nSeqI (nGet 0)) (bName 2) (nSeq (nSet 3 (nLst (nCons (nTup (nCons (nGet 2) nNil)) nNil))) (nSeq (nFor (nSeqI (nCall (nArgs 1 (nCons (nGet 2) nNil)) w__law_bounds)) (bTup [(bName 4), (bName 5)]) (nSeq (nOwn 6 nNil) (nSeq (nFor (nSeqI (nGet 3)) (bName 7) ngs__law_rules_0) (nFz [6] (nSet 3 (nGet 6)))))) (nSet 1 (n2 (nGet 1) (nGet 3) qAdd)))))
theorem ngs__law_rules_1_eq : gs__law_rules_1 = ngs__law_rules_1 := by kernel_rfl
def ng__law_rules : Rho → O := (nSeq (nSet 1 (nLst nNil)) (nSeq ngs__law_rules_1 (nRet (nGet 1))))
theorem n__law_rules : w__law_rules = nRun 9 (ng__law_rules) := by kernel_rfl
def ngs__law_some_0 : Rho → O := (nSet 1 (nLc [2, 3] (nEnum (nCons (nCall0 w__law_kinds) nNil)) (bTup [(bName 2), (bName 3)]) (nB (n2 (n2 (nCall (nArgs 2 (nCons (nGet 0) (nCons (nGet 2) nNil))) w__law_drawn) (nC (.int 3)) qMod) (nC (.int 0)) qEq)) (nGet 3)))
theorem ngs__law_some_0_eq : gs__law_some_0 = ngs__law_some_0 := by kernel_rfl
def ng__law_some : Rho → O := (nSeq ngs__law_some_0 (nSeq (nIf (nB (n2 (n2 (nGet 0) (nC (.int 5)) qMod) (nC (.int 0)) qGt)) (nSet 1 (nLc [3] (nSeqI (nGet 1)) (bName 3) (nB (n2 (nGet 3) (nTup (nCons (nC (.str "from")) (nCons (nC (.str "off")) nNil))) qNotIn)) (nGet 3))) nNx) (nRet (nIfE (nB (n2 (nGet 1) (nLst nNil) qNe)) (nRev (nGet 1)) (nLst (nCons (n2 (nCall0 w__law_kinds) (n2 (n2 (nGet 0) (nC (.int 8)) qDiv) (nC (.int 9)) qMod) qIx) nNil))))))
theorem n__law_some : w__law_some = nRun 4 (ng__law_some) := by kernel_rfl
variable [Hs]
def ngs_law_0 : Rho → O := (nSet 9 (n2 (nLst (nCons (nCall (nArgs 1 (nCons (n2 (nGet 7) (n2 (nC (.int 2)) (nC (.int 20)) qPow) qDiv) nNil)) w__law_rule) (nCons (n2 (nGet 4) (n2 (n2 (nGet 7) (n2 (nC (.int 2)) (nC (.int 20)) qPow) qDiv) (nCall (nCons (nGet 4) nNil) qLen) qMod) qIx) (nCons (nGet 8) nNil)))) (n2 (n2 (nGet 7) (nC (.int 8)) qDiv) (nC (.int 3)) qMod) qIx))
theorem ngs_law_0_eq : gs_law_0 = ngs_law_0 := by kernel_rfl
def ngs_law_1 : Rho → O := (nSet 10 (nLc [15] (nR1 (nCons (nC (.int 21)) nNil)) (bName 15) (nB (n2 (nCall (nArgs 2 (nCons (nGet 8) (nCons (nGet 15) nNil))) w__law_cost) (nCall (nArgs 2 (nCons (nGet 9) (nCons (nGet 15) nNil))) w__law_cost) qNe)) (nGet 15)))
theorem ngs_law_1_eq : gs_law_1 = ngs_law_1 := by kernel_rfl
def ngs_law_2 : Rho → O := (nIf (nOr (nB (n2 (nCall (nArgs 2 (nCons (nGet 8) (nCons (nGet 9) nNil))) w_parting) (nGet 11) qNe)) (nOr (nB (n2 (nCall (nArgs 2 (nCons (nGet 9) (nCons (nGet 8) nNil))) w_parting) (nGet 11) qNe)) (nB (n2 (nCall (nArgs 2 (nCons (nGet 8) (nCons (nGet 9) nNil))) w_is_alike) (n2 (nGet 11) (nC .none) qIs) qNe)))) (nRet (nC (.bool false))) nNx)
theorem ngs_law_2_eq : gs_law_2 = ngs_law_2 := by kernel_rfl
def ngs_law_3 : Rho → O := (nFor (nR1 (nCons (nC (.int 12)) nNil)) (bName 6) (nSeq (nSet 7 (nCall (nArgs 2 (nCons (nGet 2) (nCons (n2 (nC (.int 10)) (nGet 6) qAdd) nNil))) w__law_drawn)) (nSeq (nSet 8 (n2 (nGet 4) (n2 (nGet 7) (nCall (nCons (nGet 4) nNil) qLen) qMod) qIx)) (nSeq ngs_law_0 (nSeq ngs_law_1 (nSeq (nSet 11 (nIfE (nB (n2 (nGet 10) (nLst nNil) qNe)) (n2 (nGet 10) (nC (.int 0)) qIx) (nC .none))) (nSeq ngs_law_2 (nSeq (nSet 12 (nCall (nArgs 1 (nCons (nGet 9) nNil)) w__law_row)) (nSeq (nSet 13 (nLc [18] (nSeqI (nGet 4)) (bName 18) (nB (n2 (nTabE 5 (nGet 18)) (nGet 12) qEq)) (nGet 18))) (nIf (nAnd (nB (n2 (nGet 6) (nC (.int 3)) qLt)) (nB (n2 (nCall (nArgs 2 (nCons (nGet 3) (nCons (nGet 9) nNil))) w_alike_ones) (nGet 13) qNe))) (nRet (nC (.bool false))) nNx))))))))))
theorem ngs_law_3_eq : gs_law_3 = ngs_law_3 := by kernel_rfl
def ngs_law_4 : Rho → O := (nFor (nSeqI (nLst (nCons (nC .none) (nCons (nTup nNil) (nCons (nTup (nCons (nC (.str "flat")) nNil)) (nCons (nTup (nCons (nC (.str "tax")) (nCons (nC (.int 1)) nNil))) (nCons (nLst (nCons (nC (.str "flat")) (nCons (nC (.int 1)) nNil))) nNil))))))) (bName 16) (nSeq (nOwn 17 (nCons (nTell nm (nCall (nArgs 2 (nCons (nGet 8) (nCons (nGet 16) nNil))) w_parting)) nNil)) (nSeq (nApp 17 (nTell nm (nCall (nArgs 2 (nCons (nGet 16) (nCons (nGet 8) nNil))) w_parting))) (nSeq (nApp 17 (nTell nm (nCall (nArgs 2 (nCons (nGet 8) (nCons (nGet 16) nNil))) w_is_alike))) (nSeq (nApp 17 (nTell nm (nCall (nArgs 2 (nCons (nGet 3) (nCons (nGet 16) nNil))) w_alike_ones))) (nSeq (nApp 17 (nTell nm (nCall (nArgs 2 (nCons (nLst (nCons (nGet 16) nNil)) (nCons (nGet 8) nNil))) w_alike_ones))) (nSeq (nApp 17 (nTell nm (nCall (nArgs 1 (nCons (nLst (nCons (nGet 16) nNil)) nNil)) w_many_unlike))) (nFz [17] (nIf (nB (n2 (nGet 17) (n2 (nLst (nCons (nC (.str "BadRule")) nNil)) (nC (.int 6)) qMul) qNe)) (nRet (nC (.bool false))) nNx)))))))))
theorem ngs_law_4_eq : gs_law_4 = ngs_law_4 := by kernel_rfl
def ngs_law_5 : Rho → O := (nFor (nR1 (nCons (nCall (nCons (nC (.int 1)) (nCons (nCall (nCons (nC (.int 3)) (nCons (nCall (nCons (nGet 0) nNil) qLen) nNil)) qMin) nNil)) qMax) nNil)) (bName 1) (nSeq (nSet 2 (nCall (nArgs 2 (nCons (nCall (nArgs 2 (nCons (nGet 0) (nCons (nGet 1) nNil))) w__law_cell) (nCons (nGet 1) nNil))) w__law_drawn)) (nSeq (nSet 3 (nCall (nArgs 1 (nCons (n2 (nGet 2) (nC (.int 64)) qDiv) nNil)) w__law_some)) (nSeq (nSet 4 (nCall (nArgs 1 (nCons (nGet 3) nNil)) w__law_rules)) (nSeq (nTab 5 (nCons (nLc [18] (nSeqI (nGet 4)) (bName 18) nYes (nTup (nCons (nGet 18) (nCons (nCall (nArgs 1 (nCons (nGet 18) nNil)) w__law_row) nNil)))) nNil)) (nSeq ngs_law_3 (nSeq (nSet 14 (nCall (nCons (nGet 3) nNil) qList)) (nSeq (nSet 15 (nLenSetT (nLc [18] (nSeqI (nGet 4)) (bName 18) nYes (nCall (nCons (nTabE 5 (nGet 18)) nNil) qTuple)))) (nSeq (nIf (nOr (nB (n2 (nCall (nArgs 1 (nCons (nGet 3) nNil)) w_many_unlike) (nGet 15) qNe)) (nB (n2 (nGet 3) (nGet 14) qNe))) (nRet (nC (.bool false))) nNx) ngs_law_4)))))))))
theorem ngs_law_5_eq : gs_law_5 = ngs_law_5 := by kernel_rfl
def ng_law : Rho → O := (nSeq ngs_law_5 (nRet (nC (.bool true))))
theorem n_law : w_law = nRun 19 (ng_law) := by kernel_rfl
end Py

namespace Py
open PySem PySem.Spec PyProof.Rows L2 LamX
theorem price_ok {r : Ru} (h : r.ok) {q : Int} (h0 : 0 ≤ q) (h1 : q ≤ 20) : w_price [r.d, .int q] = .ok (.int (r.price q)) := by
  cases r with
  | flat a => simp [n_price, nRun_eq, ng_price, Ru.d, Ru.kd, Kd.s, Ru.xs, Ru.price]
  | each a =>
    simp only [Ru.ok] at h
    simp [n_price, nRun_eq, ng_price, Ru.d, Ru.kd, Kd.s, Ru.xs, Ru.price, qMul_l' (show -1000000 ≤ a ∧ a ≤ 1000000 by omega)]
  | base a b =>
    simp only [Ru.ok] at h
    simp [n_price, nRun_eq, ng_price, Ru.d, Ru.kd, Kd.s, Ru.xs, Ru.price, qMul_l' (show -1000000 ≤ b ∧ b ≤ 1000000 by omega)]
  | frm a n b =>
    simp only [Ru.ok] at h
    simp [n_price, nRun_eq, ng_price, Ru.d, Ru.kd, Kd.s, Ru.xs, Ru.price, qMul_l' (show -1000000 ≤ b ∧ b ≤ 1000000 by omega), qMul_l' (show -1000000 ≤ a ∧ a ≤ 1000000 by omega)]
  | packs a n =>
    simp only [Ru.ok] at h
    simp [n_price, nRun_eq, ng_price, Ru.d, Ru.kd, Kd.s, Ru.xs, Ru.price, qMul_l' (show -1000000 ≤ a ∧ a ≤ 1000000 by omega), qDiv_s (show 0 < n ∧ n ≤ 1000000 by omega)]
  | gift a n =>
    simp only [Ru.ok] at h
    simp [n_price, nRun_eq, ng_price, Ru.d, Ru.kd, Kd.s, Ru.xs, Ru.price, qMul_l' (show -1000000 ≤ a ∧ a ≤ 1000000 by omega), qDiv_s (show 0 < n ∧ n ≤ 1000000 by omega)]
  | least a b =>
    simp only [Ru.ok] at h
    simp [n_price, nRun_eq, ng_price, Ru.d, Ru.kd, Kd.s, Ru.xs, Ru.price, qMul_l' (show -1000000 ≤ b ∧ b ≤ 1000000 by omega)]
  | most a b =>
    simp only [Ru.ok] at h
    simp [n_price, nRun_eq, ng_price, Ru.d, Ru.kd, Kd.s, Ru.xs, Ru.price, qMul_l' (show -1000000 ≤ b ∧ b ≤ 1000000 by omega), qMul_l' (show -1000000 ≤ a ∧ a ≤ 1000000 by omega)]
  | off a n c =>
    simp only [Ru.ok] at h
    by_cases h3 : n ≤ q
    · simp [n_price, nRun_eq, ng_price, Ru.d, Ru.kd, Kd.s, Ru.xs, Ru.price, qMul_l' (show -1000000 ≤ a ∧ a ≤ 1000000 by omega), h3]
    · simp [n_price, nRun_eq, ng_price, Ru.d, Ru.kd, Kd.s, Ru.xs, Ru.price, qMul_l' (show -1000000 ≤ a ∧ a ≤ 1000000 by omega), h3]
theorem is_count_ok {d : D} (h : flatNB d = true) {lo hi : Int} : w_is_count [d, .int lo, .int hi] = .ok (.bool (isCnt d lo hi)) := by
  cases d with
  | none => simp [n_is_count, nRun_eq, ng_is_count, isCnt]
  | bool b => simp [n_is_count, nRun_eq, ng_is_count, isCnt]
  | int i => simp [n_is_count, nRun_eq, ng_is_count, isCnt]
  | str s => simp [n_is_count, nRun_eq, ng_is_count, isCnt]
  | _ => cases h
theorem kget_bounds (k : Kd) : qKGet T_BOUNDS (.str k.s) = .ok (.tuple (k.bs.map boD)) := by cases k <;> kernel_rfl
theorem is_rule_ok {d : D} (h : okD d = true) : w_is_rule [d] = .ok (.bool (isRule d)) := by
  cases d with
  | none => simp [n_is_rule, nRun_eq, ng_is_rule, ngs_is_rule_0, isRule]
  | bool b => simp [n_is_rule, nRun_eq, ng_is_rule, ngs_is_rule_0, isRule]
  | int i => simp [n_is_rule, nRun_eq, ng_is_rule, ngs_is_rule_0, isRule]
  | str s => simp [n_is_rule, nRun_eq, ng_is_rule, ngs_is_rule_0, isRule]
  | list ds => simp [n_is_rule, nRun_eq, ng_is_rule, ngs_is_rule_0, isRule]
  | tuple ds =>
    have hs : Sh 1 (.tuple ds) := sh_tup fun e he => sh_flat (List.all_eq_true.mp h e he)
    have e0 : qEq (.tuple ds) (.tuple []) = .ok (.bool ds.isEmpty) := by
      rw [hs.eq (sh_tup fun e he => by cases he)]
      cases ds <;> simp [PyData.eqv, PyData.eqvAll]
    cases ds with
    | nil =>
      simp [n_is_rule, nRun_eq, ng_is_rule, ngs_is_rule_0, isRule, e0]
    | cons x xs =>
      have hx : flatNB x = true := List.all_eq_true.mp h x (List.mem_cons_self ..)
      have hxs : ∀ y ∈ xs, flatNB y = true := fun y hy => List.all_eq_true.mp h y (List.mem_cons_of_mem _ hy)
      cases x with
      | str s =>
        cases q : kindOf s with
        | none => simp [n_is_rule, nRun_eq, ng_is_rule, ngs_is_rule_0, isRule, e0, notIn_kinds, q]
        | some k =>
          have es := kindOf_some q
          subst es
          have hq : (kindOf k.s).isNone = false := by rw [q]; rfl
          have hl : isRule (.tuple (.str k.s :: xs)) = (decide (xs.length = k.bs.length) && (xs.zip k.bs).all fun p => isCnt p.1 p.2.1 p.2.2) := by
            unfold isRule
            simp only [q]
          rw [hl]
          by_cases hlen : xs.length = k.bs.length
          · have hb : k.bs.length ≤ 100000 := by cases k <;> decide
            have key := lcL_map (ft := bTup [(bName 2), (bTup [(bName 3), (bName 4)])]) (tt := nYes) (fe := nCall (nArgs 3 (nCons (nGet 2) (nCons (nGet 3) (nCons (nGet 4) nNil)))) w_is_count)
              (ρ := [.dat (.tuple (.str k.s :: xs)), .dat (.tuple (k.bs.map boD)), .no, .no, .no]) (u := fun p : D × (Int × Int) => .tuple [p.1, boD p.2]) (y := fun p => .bool (isCnt p.1 p.2.1 p.2.2)) (xs := xs.zip k.bs) fun p hp =>
                ⟨[(2, p.1), (3, .int p.2.1), (4, .int p.2.2)], rfl, by simp, by simp [is_count_ok (hxs p.1 (List.of_mem_zip hp).1)]⟩
            have e3 : qAll [.list ((xs.zip k.bs).map fun p => .bool (isCnt p.1 p.2.1 p.2.2))] = .ok (.bool ((xs.zip k.bs).all fun p => isCnt p.1 p.2.1 p.2.2)) := by
              have := qAll_ok (bs := (xs.zip k.bs).map fun p => isCnt p.1 p.2.1 p.2.2)
              rw [List.map_map, List.all_map] at this
              exact this
            simp [n_is_rule, nRun_eq, ng_is_rule, ngs_is_rule_0, ngs_is_rule_1, e0, notIn_kinds, hq, kget_bounds, hlen, nCut_1, zipD_map, key, hb, e3]
          · have hlen2 : ¬ ((xs.length : Int) = k.bs.length) := by omega
            simp [n_is_rule, nRun_eq, ng_is_rule, ngs_is_rule_0, ngs_is_rule_1, e0, notIn_kinds, hq, kget_bounds, hlen, hlen2]
      | dict kv => cases hx
      | _ => simp [n_is_rule, nRun_eq, ng_is_rule, ngs_is_rule_0, isRule, e0]
  | dict kv => cases h
theorem need_rule_ok {d : D} (h : okD d = true) : w_need_rule [d] = if isRule d = true then .ok .none else .err .BadRule := by
  cases q : isRule d <;> simp [n_need_rule, nRun_eq, ng_need_rule, is_rule_ok h, q]
theorem need_rule_r {r : Ru} (h : r.ok) : w_need_rule [r.d] = .ok .none := by rw [need_rule_ok (okD_r r), if_pos (isRule_d h)]
theorem need_kind_ok {d : D} (h : flatNB d = true) : w_need_kind [d] = (match d with
    | .str s => if (kindOf s).isSome = true then .ok .none else .err .BadRule
    | _ => .err .BadRule) := by
  cases d with
  | none => simp [n_need_kind, nRun_eq, ng_need_kind]
  | bool b => simp [n_need_kind, nRun_eq, ng_need_kind]
  | int i => simp [n_need_kind, nRun_eq, ng_need_kind]
  | str s => cases q : kindOf s <;> simp [n_need_kind, nRun_eq, ng_need_kind, notIn_kinds, q]
  | _ => cases h
theorem rules_of_ok (k : Kd) : w_rules_of [k.d] = .ok (.list (k.rules.map Ru.d)) := by cases k <;> kernel_rfl
theorem all_rules_loop : ∀ (ks : List Kd) (acc : List Ru) (a s : Sl), acc.length + 500 * ks.length ≤ 100000 →
    ∃ s', forL (bName 2) (nExt 1 (nCall (nArgs 1 (nCons (nGet 2) nNil)) w_rules_of)) (ks.map Kd.d) [a, .own (acc.map Ru.d), s] = .nx [a, .own ((acc ++ allRules ks).map Ru.d), s']
  | [], acc, a, s, _ => ⟨s, by simp [forL_nil, allRules]⟩
  | k :: ks, acc, a, s, h => by
    have hk := rules_len k
    rw [List.length_cons] at h
    obtain ⟨s', e⟩ := all_rules_loop ks (acc ++ k.rules) a (.dat k.d) (by rw [List.length_append]; omega)
    have hl : acc.length + k.rules.length ≤ 100000 := by omega
    refine ⟨s', ?_⟩
    rw [List.map_cons, forL_cons (bs := [(2, k.d)]) (ρ' := [a, .own ((acc ++ k.rules).map Ru.d), .dat k.d]) rfl (by simp [rules_of_ok, hl]), e]
    simp [allRules]
theorem all_rules_ok {ks : List Kd} (h : ks.length ≤ 100) : w_all_rules [.list (ks.map Kd.d)] = .ok (.list ((allRules ks).map Ru.d)) := by
  obtain ⟨s', e⟩ := all_rules_loop ks [] (.dat (.list (ks.map Kd.d))) .no (by simp; omega)
  simp [n_all_rules, nRun_eq, ng_all_rules] at e ⊢
  rw [e]
  simp
theorem kinds_loop : ∀ (ks : List Kd) (a s : Sl), ∃ s', forL (bName 1) (nDrop (nCall (nArgs 1 (nCons (nGet 1) nNil)) w_need_kind)) (ks.map Kd.d) [a, s] = .nx [a, s']
  | [], a, s => ⟨s, rfl⟩
  | k :: ks, a, s => by
    obtain ⟨s', e⟩ := kinds_loop ks a (.dat k.d)
    refine ⟨s', ?_⟩
    have hk : w_need_kind [k.d] = .ok .none := by rw [need_kind_ok (d := k.d) (kd_ok k)]; simp [Kd.d, kindOf_s]
    rw [List.map_cons, forL_cons (bs := [(1, k.d)]) (ρ' := [a, .dat k.d]) rfl (by simp [hk]), e]
theorem kinds_loop_bad {d : D} (hd : flatNB d = true) (hb : w_need_kind [d] = .err .BadRule) (es : List D) : ∀ (ks : List Kd) (a s : Sl), forL (bName 1) (nDrop (nCall (nArgs 1 (nCons (nGet 1) nNil)) w_need_kind)) (ks.map Kd.d ++ d :: es) [a, s] = .err .BadRule
  | [], a, s => by
    rw [List.map_nil, List.nil_append, forL_err (c := .BadRule) (bs := [(1, d)]) rfl (by simp [hb])]
  | k :: ks, a, s => by
    have hk : w_need_kind [k.d] = .ok .none := by rw [need_kind_ok (d := k.d) (kd_ok k)]; simp [Kd.d, kindOf_s]
    rw [List.map_cons, List.cons_append, forL_cons (bs := [(1, k.d)]) (ρ' := [a, .dat k.d]) rfl (by simp [hk]), kinds_loop_bad hd hb es ks]
theorem need_kinds_ok {ks : List Kd} (h0 : ks ≠ []) (hn : ks.Nodup) (hl : ks.length < 4000) : w_need_kinds [.list (ks.map Kd.d)] = .ok .none := by
  obtain ⟨s', e⟩ := kinds_loop ks (.dat (.list (ks.map Kd.d))) .no
  have e1 := eq_nil (sh_kds (ks := ks))
  have e2 : (ks.map Kd.d).isEmpty = false := by cases ks with | nil => exact (h0 rfl).elim | cons => rfl
  simp [n_need_kinds, nRun_eq, ng_need_kinds, e1, e2, e, lenSet_kds hl, setL_nodup (nodup_kds.mpr hn)]
theorem need_kinds_dup {ks : List Kd} (h0 : ks ≠ []) (hn : ¬ ks.Nodup) (hl : ks.length < 4000) : w_need_kinds [.list (ks.map Kd.d)] = .err .BadRule := by
  obtain ⟨s', e⟩ := kinds_loop ks (.dat (.list (ks.map Kd.d))) .no
  have e1 := eq_nil (sh_kds (ks := ks))
  have e2 : (ks.map Kd.d).isEmpty = false := by cases ks with | nil => exact (h0 rfl).elim | cons => rfl
  have e3 : ¬ (((setL (ks.map Kd.s)).length : Int) = ks.length) := fun z => setL_dup (fun z => hn (nodup_kds.mp z)) (by rw [List.length_map]; omega)
  simp [n_need_kinds, nRun_eq, ng_need_kinds, e1, e2, e, lenSet_kds hl, e3]
theorem need_kinds_bad {ks : List Kd} {d : D} {es : List D} (hd : flatNB d = true) (hb : w_need_kind [d] = .err .BadRule) (hs : ∀ e ∈ es, flatNB e = true) : w_need_kinds [.list (ks.map Kd.d ++ d :: es)] = .err .BadRule := by
  have e := kinds_loop_bad hd hb es ks (.dat (.list (ks.map Kd.d ++ d :: es))) .no
  have hsh : Sh 1 (.list (ks.map Kd.d ++ d :: es)) := sh_list fun x hx => by
    rcases List.mem_append.mp hx with hx | hx
    · obtain ⟨k, _, rfl⟩ := List.mem_map.mp hx
      exact sh_kd
    · rcases List.mem_cons.mp hx with rfl | hx
      · exact sh_flat hd
      · exact sh_flat (hs x hx)
  have e1 := eq_nil hsh
  have e2 : (ks.map Kd.d ++ d :: es).isEmpty = false := by cases ks <;> rfl
  simp [n_need_kinds, nRun_eq, ng_need_kinds, e1, e2, e]
theorem need_kinds_nil : w_need_kinds [.list []] = .err .BadRule := by kernel_rfl
theorem need_kinds_none : w_need_kinds [.none] = .err .BadRule := by kernel_rfl
theorem need_kinds_tup {ds : List D} : w_need_kinds [.tuple ds] = .err .BadRule := by simp [n_need_kinds, nRun_eq, ng_need_kinds]
theorem need_kinds_str {s : Str} : w_need_kinds [.str s] = .err .BadRule := by simp [n_need_kinds, nRun_eq, ng_need_kinds]
theorem law_drawn_ok (c k : Int) : w__law_drawn [.int c, .int k] = .ok (.int (drawn c k)) := by
  have h1 : ∀ z, okMul z 6364136223846793005 = true := fun z => okMul_r64 (by decide)
  have h2 : ∀ z, okMul z 1442695040888963407 = true := fun z => okMul_r64 (by decide)
  unfold drawn
  simp only []
  have b1 : 0 ≤ (c * 6364136223846793005 + (k + 1) * 1442695040888963407) % 340282366920938463463374607431768211507 := Int.emod_nonneg _ (by decide)
  have b2 : (c * 6364136223846793005 + (k + 1) * 1442695040888963407) % 340282366920938463463374607431768211507 < 340282366920938463463374607431768211507 := Int.emod_lt_of_pos _ (by decide)
  have e0 : w__law_drawn [.int c, .int k] = kFin (kS (kSet (k2 (k2 (.ok (.int ((c * 6364136223846793005 + (k + 1) * 1442695040888963407) % 340282366920938463463374607431768211507))) (.ok (.int ((c * 6364136223846793005 + (k + 1) * 1442695040888963407) % 340282366920938463463374607431768211507))) qMul) (.ok (.int 340282366920938463463374607431768211297)) qMod) 2 [.dat (.int c), .dat (.int k), .dat (.int ((c * 6364136223846793005 + (k + 1) * 1442695040888963407) % 340282366920938463463374607431768211507))])
      (nSeq (nSet 2 (n2 (n2 (n2 (n2 (nGet 2) (nC (.int 18446744073709551557)) qMod) (nC (.int 1)) qAdd) (n2 (n2 (nGet 2) (nC (.int 18446744073709551557)) qDiv) (nC (.int 1)) qAdd) qMul) (nGet 2) qMul)) (nRet (n2 (nGet 2) (nC (.int 340282366920938463463374607431768211507)) qMod)))) := by
    simp [n__law_drawn, nRun_eq, ng__law_drawn, qMul_i (h1 _), qMul_i (h2 _)]
  rw [e0]
  generalize (c * 6364136223846793005 + (k + 1) * 1442695040888963407) % 340282366920938463463374607431768211507 = m at b1 b2 ⊢
  have h3 : okMul m m = true := okMul_w (by omega) (by omega)
  have b3 : 0 ≤ m * m % 340282366920938463463374607431768211297 := Int.emod_nonneg _ (by decide)
  have b4 : m * m % 340282366920938463463374607431768211297 < 340282366920938463463374607431768211297 := Int.emod_lt_of_pos _ (by decide)
  have e1 : k2 (k2 (.ok (.int m)) (.ok (.int m)) qMul) (.ok (.int 340282366920938463463374607431768211297)) qMod = .ok (.int (m * m % 340282366920938463463374607431768211297)) := by
    rw [k2_ok, qMul_i h3, k2_ok, qMod_i (by decide)]
  rw [e1]
  generalize m * m % 340282366920938463463374607431768211297 = y at b3 b4 ⊢
  have c1 : 0 ≤ y % 18446744073709551557 ∧ y % 18446744073709551557 < 18446744073709551557 := ⟨Int.emod_nonneg _ (by decide), Int.emod_lt_of_pos _ (by decide)⟩
  have c2 : 0 ≤ y / 18446744073709551557 ∧ y / 18446744073709551557 < 18446744073709551700 := by omega
  have h4 : okMul (y % 18446744073709551557 + 1) (y / 18446744073709551557 + 1) = true := okMul_w (by omega) (by omega)
  have h5 : okMul ((y % 18446744073709551557 + 1) * (y / 18446744073709551557 + 1)) y = true := okMul_w (by
    rw [Int.natAbs_mul]
    have g1 : (y % 18446744073709551557 + 1).natAbs < 2 ^ 65 := by omega
    have g2 : (y / 18446744073709551557 + 1).natAbs < 2 ^ 65 := by omega
    have g3 := Nat.mul_lt_mul'' g1 g2
    have g4 : (2 : Nat) ^ 65 * 2 ^ 65 < 2 ^ 400 := by decide
    omega) (by omega)
  simp [qMul_i h4, qMul_i h5]
theorem law_kinds_ok : w__law_kinds [] = .ok (.list (kdAll.map Kd.d)) := by kernel_rfl
theorem law_bounds_ok (k : Kd) : w__law_bounds [k.d] = .ok (.list (k.bs.map boD)) := by cases k <;> kernel_rfl
theorem law_cell_ok (ns : List Int) (hl : ns.length ≤ 63) (k : Nat) : w__law_cell [scrD ns, .int k] = .ok (.int (cell ns k)) := by
  have hs : qEq (scrD ns) (.list []) = .ok (.bool ns.isEmpty) := by
    have h1 : SeqAt.shaped (unscr (scrD ns)) = true := (sh_list (n := 0) (ds := ns.map .int) fun d hd => by
      obtain ⟨i, _, rfl⟩ := List.mem_map.mp hd
      exact sh_int).shaped
    rw [qEq_ok h1 (by rfl)]
    show R.ok (PyData.bool (PyData.eqv (.list (ns.map .int)) (.list []))) = _
    cases ns <;> simp [PyData.eqv, PyData.eqvAll]
  cases ns with
  | nil =>
    have hm : qMul (.int (k : Int)) (.int 7919) = .ok (.int (k * 7919)) := qMul_r' (by decide)
    simp [n__law_cell, nRun_eq, ng__law_cell, hs, hm, cell]
  | cons n ns =>
    have hpos : 0 < (n :: ns).length := by simp
    generalize hL : n :: ns = l at hs hpos ⊢
    have hne : l ≠ [] := by rw [← hL]; simp
    have h0 : (0 : Int) < l.length := by omega
    have hm : (k : Int) % (l.length : Int) = ((k % l.length : Nat) : Int) := by simp
    have hd : (k : Int) / (l.length : Int) = ((k / l.length : Nat) : Int) := by simp
    have hi : (l.map PyData.int)[k % l.length]? = some (.int (l.getD (k % l.length) 0)) := by
      have : k % l.length < l.length := Nat.mod_lt _ hpos
      rw [List.getElem?_map, List.getD_eq_getElem?_getD, List.getElem?_eq_getElem this]
      rfl
    have hx : qMul (.int ((k / l.length : Nat) : Int)) (.int 104729) = .ok (.int ((k / l.length : Nat) * 104729)) := qMul_r' (by decide)
    rw [hL] at hl
    have hls : (l.length : Int) < 1606938044258990275541962092341162602522202993782792835301376 := by omega
    have he : l.isEmpty = false := by rw [← hL]; rfl
    simp [n__law_cell, nRun_eq, ng__law_cell, hs, he, qLen_scr, qMod_i h0, qDiv_i h0 hls, qIx_scr, cell, hne]
    rw [← Int.natCast_emod, ← Int.natCast_ediv, kIx_nat hi, hx]
    simp
theorem law_rule_ok (m : Int) : w__law_rule [.int m] = .ok ((kdAt m).ru m).d := by
  have e : ∀ k : Kd, lcL (bTup [(bName 3), (bTup [(bName 4), (bName 5)])]) nYes (n2 (nGet 4) (n2 (nCall (nArgs 2 (nCons (nGet 0) (nCons (nGet 3) nNil))) w__law_drawn) (n2 (n2 (nGet 5) (nGet 4) qSub) (nC (.int 1)) qAdd) qMod) qAdd) [.dat (.int m), .dat k.d, .no, .no, .no, .no] (enumD (k.bs.map boD)) = .ok ((k.ru m).xs.map .int) := by
    intro k
    have e1 : enumD (k.bs.map boD) = k.bs.zipIdx.map fun p => .tuple [.int (p.2 : Nat), boD p.1] := by
      unfold enumD
      rw [List.zipIdx_map, List.map_map]
      rfl
    have e2 : (k.ru m).xs.map PyData.int = k.bs.zipIdx.map fun p => .int (p.1.1 + drawn m p.2 % (p.1.2 - p.1.1 + 1)) := by
      cases k <;> simp [Kd.bs, Kd.ru, Ru.xs]
    rw [e1, e2]
    refine lcL_map fun p hp => ⟨[(3, .int (p.2 : Nat)), (4, .int p.1.1), (5, .int p.1.2)], rfl, by simp, ?_⟩
    have hb : 0 < p.1.2 - p.1.1 + 1 := by
      have : ∀ q ∈ k.bs, 0 < q.2 - q.1 + 1 := by cases k <;> decide
      exact this p.1 (List.mem_of_getElem? (by have := List.mem_zipIdx hp; exact (List.getElem?_eq_some_iff.mpr ⟨by simpa using this.2.1, by simpa using this.2.2.symm⟩)))
    simp [law_drawn_ok, qMod_i hb]
  have hl : ((kdAt m).ru m).xs.length ≤ 100000 := by cases kdAt m <;> simp [Kd.ru, Ru.xs]
  have hd : ((kdAt m).ru m).d = .tuple ((kdAt m).d :: ((kdAt m).ru m).xs.map .int) := by
    unfold Ru.d
    rw [ru_kd]
    rfl
  have hl2 : ((kdAt m).ru m).xs.length + 1 ≤ 100000 := by cases kdAt m <;> simp [Kd.ru, Ru.xs]
  simp [n__law_rule, nRun_eq, ng__law_rule, ngs__law_rule_0, law_kinds_ok, kix_kinds, law_bounds_ok, e, hl, hl2, hd]
def cbody : Rho → O := (nIf (nB (n2 (nGet 2) (nC (.str "from")) qEq)) (nSet 3 (n2 (nGet 3) (nIfE (nB (n2 (nGet 4) (n2 (nGet 0) (nC (.int 2)) qIx) qLe)) (n2 (nGet 0) (nC (.int 1)) qIx) (n2 (nGet 0) (nC (.int 3)) qIx)) qAdd)) ngs__law_cost_1)
theorem law_cost_ok {r : Ru} (h : r.ok) {q : Nat} (hq : q ≤ 20) : w__law_cost [r.d, .int q] = .ok (.int (r.price q)) := by
  have hr : (-1000000 : Int) ≤ q + 1 ∧ (q : Int) + 1 ≤ 1000000 := by omega
  have hr2 : (q : Int) + 1 ≤ 1000000 := by omega
  have hr3 : (-1000000 : Int) ≤ q + 1 := by omega
  cases r with
  | flat a => simp [n__law_cost, nRun_eq, ng__law_cost, Ru.d, Ru.kd, Kd.s, Ru.xs, Ru.price]
  | each a =>
    simp only [Ru.ok] at h
    obtain ⟨s, e⟩ := for_sum (gb := cbody) (rd := Ru.d (.each a)) (qd := .int q) (kd := .str "each") (S := fun i => a * i) (q := q) (by simp) fun i hi => by
      have e1 : qIn (.str "each") (.tuple [.str "each", .str "off"]) = .ok (.bool true) := by kernel_rfl
      simp [cbody, ngs__law_cost_1, ngs__law_cost_0, Ru.d, Ru.kd, Kd.s, Ru.xs, e1]
      rw [Int.mul_add, Int.mul_one]
    simp [Ru.d, Ru.kd, Kd.s, Ru.xs, cbody] at e
    simp [n__law_cost, nRun_eq, ng__law_cost, ngs__law_cost_2, Ru.d, Ru.kd, Kd.s, Ru.xs, Ru.price, hr2, hr3, e]
  | base a b =>
    simp only [Ru.ok] at h
    obtain ⟨s, e⟩ := for_sum (gb := cbody) (rd := Ru.d (.base a b)) (qd := .int q) (kd := .str "base") (S := fun i => b * i) (q := q) (by simp) fun i hi => by
      have e1 : qIn (.str "base") (.tuple [.str "each", .str "off"]) = .ok (.bool false) := by kernel_rfl
      simp [cbody, ngs__law_cost_1, ngs__law_cost_0, Ru.d, Ru.kd, Kd.s, Ru.xs, e1]
      rw [Int.mul_add, Int.mul_one]
    simp [Ru.d, Ru.kd, Kd.s, Ru.xs, cbody] at e
    simp [n__law_cost, nRun_eq, ng__law_cost, ngs__law_cost_2, Ru.d, Ru.kd, Kd.s, Ru.xs, Ru.price, hr2, hr3, e]
  | frm a n b =>
    simp only [Ru.ok] at h
    obtain ⟨s, e⟩ := for_sum (gb := cbody) (rd := Ru.d (.frm a n b)) (qd := .int q) (kd := .str "from") (S := fun i => a * (if n < (i : Int) then n else i) + b * (if (i : Int) - n > 0 then i - n else 0)) (q := q) (by simp [show ¬ n < 0 by omega]) fun i hi => by
      simp only [cbody]
      by_cases hc : 1 + (i : Int) ≤ n
      · simp [Ru.d, Ru.kd, Kd.s, Ru.xs, hc]
        rw [if_neg (by omega), if_neg (by omega), if_neg (by omega), if_neg (by omega), Int.mul_add]
        omega
      · simp [Ru.d, Ru.kd, Kd.s, Ru.xs, hc]
        by_cases hd : (i : Int) = n
        · rw [if_neg (by omega), if_neg (by omega), if_pos (by omega), if_pos (by omega), hd, show n + 1 - n = 1 by omega]
          omega
        · rw [if_pos (by omega), if_pos (by omega), if_pos (by omega), if_pos (by omega), show (i : Int) + 1 - n = (i - n) + 1 by omega, Int.mul_add b]
          omega
    simp [Ru.d, Ru.kd, Kd.s, Ru.xs, cbody] at e
    simp [n__law_cost, nRun_eq, ng__law_cost, ngs__law_cost_2, Ru.d, Ru.kd, Kd.s, Ru.xs, Ru.price, hr2, hr3, e]
  | packs a n =>
    simp only [Ru.ok] at h
    have h00 : a * ((0 + n - 1) / n) = 0 := by
      have : n = 1 ∨ n = 2 ∨ n = 3 ∨ n = 4 ∨ n = 5 := by omega
      rcases this with rfl | rfl | rfl | rfl | rfl <;> simp
    obtain ⟨s, e⟩ := for_sum (gb := cbody) (rd := Ru.d (.packs a n)) (qd := .int q) (kd := .str "packs") (S := fun i => a * (((i : Int) + n - 1) / n)) (q := q) (by simpa using h00) fun i hi => by
      have hdv : ((i : Int) + 1 + n - 1) / n = ((i : Int) + n - 1) / n + (if (1 + (i : Int)) % n = 1 ∨ n = 1 then 1 else 0) := by
        have : n = 1 ∨ n = 2 ∨ n = 3 ∨ n = 4 ∨ n = 5 := by omega
        rcases this with rfl | rfl | rfl | rfl | rfl <;> split <;> omega
      have hn : 0 < n := by omega
      simp only [cbody]
      by_cases hc : (1 + (i : Int)) % n = 1 ∨ n = 1
      · simp [ngs__law_cost_1, Ru.d, Ru.kd, Kd.s, Ru.xs, qMod_i hn, hdv, hc]
        rw [Int.mul_add, Int.mul_one]
      · have h1 : ¬ (1 + (i : Int)) % n = 1 := fun z => hc (.inl z)
        have h2 : ¬ n = 1 := fun z => hc (.inr z)
        simp [ngs__law_cost_1, Ru.d, Ru.kd, Kd.s, Ru.xs, qMod_i hn, hdv, h1, h2]
    simp [Ru.d, Ru.kd, Kd.s, Ru.xs, cbody] at e
    simp [n__law_cost, nRun_eq, ng__law_cost, ngs__law_cost_2, Ru.d, Ru.kd, Kd.s, Ru.xs, Ru.price, hr2, hr3, e]
  | gift a n =>
    simp only [Ru.ok] at h
    obtain ⟨s, e⟩ := for_sum (gb := cbody) (rd := Ru.d (.gift a n)) (qd := .int q) (kd := .str "gift") (S := fun i => a * ((i : Int) - i / n)) (q := q) (by simp) fun i hi => by
      have hdv : ((i : Int) + 1) - (i + 1) / n = ((i : Int) - i / n) + (if (1 + (i : Int)) % n = 0 then 0 else 1) := by
        have : n = 1 ∨ n = 2 ∨ n = 3 ∨ n = 4 ∨ n = 5 := by omega
        rcases this with rfl | rfl | rfl | rfl | rfl <;> split <;> omega
      have hn : 0 < n := by omega
      simp only [cbody]
      by_cases hc : (1 + (i : Int)) % n = 0
      · simp [ngs__law_cost_1, ngs__law_cost_0, Ru.d, Ru.kd, Kd.s, Ru.xs, qMod_i hn, hdv, hc]
      · simp [ngs__law_cost_1, ngs__law_cost_0, Ru.d, Ru.kd, Kd.s, Ru.xs, qMod_i hn, hdv, hc, Int.mul_add]
    simp [Ru.d, Ru.kd, Kd.s, Ru.xs, cbody] at e
    simp [n__law_cost, nRun_eq, ng__law_cost, ngs__law_cost_2, Ru.d, Ru.kd, Kd.s, Ru.xs, Ru.price, hr2, hr3, e]
  | least a b =>
    simp only [Ru.ok] at h
    obtain ⟨s, e⟩ := for_sum (gb := cbody) (rd := Ru.d (.least a b)) (qd := .int q) (kd := .str "least") (S := fun i => b * i) (q := q) (by simp) fun i hi => by
      have e1 : qIn (.str "least") (.tuple [.str "each", .str "off"]) = .ok (.bool false) := by kernel_rfl
      simp [cbody, ngs__law_cost_1, ngs__law_cost_0, Ru.d, Ru.kd, Kd.s, Ru.xs, e1]
      rw [Int.mul_add, Int.mul_one]
    simp [Ru.d, Ru.kd, Kd.s, Ru.xs, cbody] at e
    simp [n__law_cost, nRun_eq, ng__law_cost, ngs__law_cost_2, Ru.d, Ru.kd, Kd.s, Ru.xs, Ru.price, hr2, hr3, e, qSorted_2]
    by_cases hc : a ≤ b * (q : Int)
    · simp [hc]
      omega
    · simp [hc]
      omega
  | most a b =>
    simp only [Ru.ok] at h
    obtain ⟨s, e⟩ := for_sum (gb := cbody) (rd := Ru.d (.most a b)) (qd := .int q) (kd := .str "most") (S := fun i => b * i) (q := q) (by simp) fun i hi => by
      have e1 : qIn (.str "most") (.tuple [.str "each", .str "off"]) = .ok (.bool false) := by kernel_rfl
      simp [cbody, ngs__law_cost_1, ngs__law_cost_0, Ru.d, Ru.kd, Kd.s, Ru.xs, e1]
      rw [Int.mul_add, Int.mul_one]
    simp [Ru.d, Ru.kd, Kd.s, Ru.xs, cbody] at e
    simp [n__law_cost, nRun_eq, ng__law_cost, ngs__law_cost_2, Ru.d, Ru.kd, Kd.s, Ru.xs, Ru.price, hr2, hr3, e, qSorted_2, qMul_l' (show (-1000000 : Int) ≤ 5 ∧ (5 : Int) ≤ 1000000 by decide)]
    by_cases hc : 5 * a ≤ b * (q : Int)
    · simp [hc]
      omega
    · simp [hc]
      omega
  | off a n c =>
    simp only [Ru.ok] at h
    obtain ⟨s, e⟩ := for_sum (gb := cbody) (rd := Ru.d (.off a n c)) (qd := .int q) (kd := .str "off") (S := fun i => a * i) (q := q) (by simp) fun i hi => by
      have e1 : qIn (.str "off") (.tuple [.str "each", .str "off"]) = .ok (.bool true) := by kernel_rfl
      simp [cbody, ngs__law_cost_1, ngs__law_cost_0, Ru.d, Ru.kd, Kd.s, Ru.xs, e1]
      rw [Int.mul_add, Int.mul_one]
    simp [Ru.d, Ru.kd, Kd.s, Ru.xs, cbody] at e
    simp [n__law_cost, nRun_eq, ng__law_cost, ngs__law_cost_2, Ru.d, Ru.kd, Kd.s, Ru.xs, Ru.price, hr2, hr3, e, qSorted_2]
    by_cases hc : n ≤ (q : Int)
    · by_cases hd : c ≤ a * (q : Int)
      · simp [hc, hd]
        omega
      · simp [hc, hd]
        omega
    · have := mulb h.1 (x := q) ⟨by omega, by omega⟩
      simp [hc]
      omega
theorem law_row_ok {r : Ru} (h : r.ok) : w__law_row [r.d] = .ok (.list (r.row.map .int)) := by
  have e := lcL_map (ft := bName 1) (tt := nYes) (fe := nCall (nArgs 2 (nCons (nGet 0) (nCons (nGet 1) nNil))) w__law_cost) (ρ := [.dat r.d, .no]) (u := fun (i : Nat) => (.int i : D)) (y := fun (i : Nat) => .int (r.price i)) (xs := List.range 21) fun i hi =>
    ⟨[(1, .int i)], rfl, by simp, by simp [law_cost_ok h (show i ≤ 20 by have := List.mem_range.mp hi; omega)]⟩
  have e2 : r.row.map PyData.int = (List.range 21).map fun (i : Nat) => .int (r.price i) := by
    unfold Ru.row
    rw [List.map_map]
    rfl
  simp [n__law_row, nRun_eq, ng__law_row, rng21, e, e2]
def lrIn (k : Kd) (a s1 s4 s5 s6 s7 s8 : Sl) : O := forL (bTup [(bName 4), (bName 5)]) (nSeq (nOwn 6 nNil) (nSeq (nFor (nSeqI (nGet 3)) (bName 7) ngs__law_rules_0) (nFz [6] (nSet 3 (nGet 6))))) (k.bs.map boD) [a, s1, .dat k.d, .dat (.list [.tuple [k.d]]), s4, s5, s6, s7, s8]
theorem lrIn_ok (k : Kd) (a s1 s4 s5 s6 s7 s8 : Sl) : lrIn k a s1 s4 s5 s6 s7 s8 = .nx [a, s1, .dat k.d, .dat (.list (k.rules.map Ru.d)), slot (lrIn k a s1 s4 s5 s6 s7 s8) 4, slot (lrIn k a s1 s4 s5 s6 s7 s8) 5, slot (lrIn k a s1 s4 s5 s6 s7 s8) 6, slot (lrIn k a s1 s4 s5 s6 s7 s8) 7, slot (lrIn k a s1 s4 s5 s6 s7 s8) 8] := by cases k <;> kernel_rfl
theorem law_rules_loop : ∀ (ks : List Kd) (acc : List Ru) (a s2 s3 s4 s5 s6 s7 s8 : Sl), acc.length + 500 * ks.length ≤ 100000 →
    ∃ t2 t3 t4 t5 t6 t7 t8, forL (bName 2) ((nSeq (nSet 3 (nLst (nCons (nTup (nCons (nGet 2) nNil)) nNil))) (nSeq (nFor (nSeqI (nCall (nArgs 1 (nCons (nGet 2) nNil)) w__law_bounds)) (bTup [(bName 4), (bName 5)]) (nSeq (nOwn 6 nNil) (nSeq (nFor (nSeqI (nGet 3)) (bName 7) ngs__law_rules_0) (nFz [6] (nSet 3 (nGet 6)))))) (nSet 1 (n2 (nGet 1) (nGet 3) qAdd))))) (ks.map Kd.d) [a, .dat (.list (acc.map Ru.d)), s2, s3, s4, s5, s6, s7, s8] = .nx [a, .dat (.list ((acc ++ allRules ks).map Ru.d)), t2, t3, t4, t5, t6, t7, t8]
  | [], acc, a, s2, s3, s4, s5, s6, s7, s8, _ => ⟨s2, s3, s4, s5, s6, s7, s8, by simp [forL_nil, allRules]⟩
  | k :: ks, acc, a, s2, s3, s4, s5, s6, s7, s8, h => by
    have hk := rules_len k
    rw [List.length_cons] at h
    obtain ⟨t4, t5, t6, t7, t8, key⟩ : ∃ t4 t5 t6 t7 t8, lrIn k a (.dat (.list (acc.map Ru.d))) s4 s5 s6 s7 s8 = .nx [a, .dat (.list (acc.map Ru.d)), .dat k.d, .dat (.list (k.rules.map Ru.d)), t4, t5, t6, t7, t8] := ⟨_, _, _, _, _, lrIn_ok ..⟩
    unfold lrIn at key
    have hl : acc.length + k.rules.length ≤ 100000 := by omega
    obtain ⟨u2, u3, u4, u5, u6, u7, u8, e⟩ := law_rules_loop ks (acc ++ k.rules) a (.dat k.d) (.dat (.list (k.rules.map Ru.d))) t4 t5 t6 t7 t8 (by rw [List.length_append]; omega)
    refine ⟨u2, u3, u4, u5, u6, u7, u8, ?_⟩
    rw [List.map_cons, forL_cons (bs := [(2, k.d)]) (ρ' := [a, .dat (.list ((acc ++ k.rules).map Ru.d)), .dat k.d, .dat (.list (k.rules.map Ru.d)), t4, t5, t6, t7, t8]) rfl (by simp [law_bounds_ok, key, hl]), e]
    simp [allRules]
theorem law_rules_ok {ks : List Kd} (h : ks.length ≤ 100) : w__law_rules [.list (ks.map Kd.d)] = .ok (.list ((allRules ks).map Ru.d)) := by
  obtain ⟨s2, s3, s4, s5, s6, s7, s8, e⟩ := law_rules_loop ks [] (.dat (.list (ks.map Kd.d))) .no .no .no .no .no .no .no (by simp; omega)
  simp at e
  simp [n__law_rules, nRun_eq, ng__law_rules, ngs__law_rules_1, e]
theorem law_some_ok (m : Int) : w__law_some [.int m] = .ok (.list ((someK m).map Kd.d)) := by
  have e1 : lcL (bTup [(bName 2), (bName 3)]) (nB (n2 (n2 (nCall (nArgs 2 (nCons (nGet 0) (nCons (nGet 2) nNil))) w__law_drawn) (nC (.int 3)) qMod) (nC (.int 0)) qEq)) (nGet 3) [.dat (.int m), .no, .no, .no] (enumD (kdAll.map Kd.d)) = .ok ((some1 m).map Kd.d) := by
    have e0 : enumD (kdAll.map Kd.d) = kdAll.zipIdx.map fun p => .tuple [.int (p.2 : Nat), p.1.d] := by
      unfold enumD
      rw [List.zipIdx_map, List.map_map]
      rfl
    have := lcL_filter (ft := bTup [(bName 2), (bName 3)]) (tt := nB (n2 (n2 (nCall (nArgs 2 (nCons (nGet 0) (nCons (nGet 2) nNil))) w__law_drawn) (nC (.int 3)) qMod) (nC (.int 0)) qEq)) (fe := nGet 3) (ρ := [.dat (.int m), .no, .no, .no]) (u := fun p : Kd × Nat => .tuple [.int (p.2 : Nat), p.1.d]) (y := fun p => p.1.d) (p := fun p => drawn m p.2 % 3 == 0) (xs := kdAll.zipIdx) fun p hp =>
      ⟨[(2, .int (p.2 : Nat)), (3, p.1.d)], rfl, by simp [law_drawn_ok]; rfl, fun _ => by simp⟩
    rw [e0, this]
    unfold some1
    rw [List.map_map]
    rfl
  have l1 : (some1 m).length ≤ 9 := by
    unfold some1
    rw [List.length_map]
    exact List.length_filter_le _ _
  have l1' : (some1 m).length ≤ 100000 := by omega
  have e2 : ∀ s2 s3, lcL (bName 3) (nB (n2 (nGet 3) (nTup (nCons (nC (.str "from")) (nCons (nC (.str "off")) nNil))) qNotIn)) (nGet 3) [.dat (.int m), .dat (.list ((some1 m).map Kd.d)), s2, s3] ((some1 m).map Kd.d) = .ok (((some1 m).filter fun k => k != .frm && k != .off).map Kd.d) := fun s2 s3 =>
    lcL_filter fun k hk => ⟨[(3, k.d)], rfl, by simp [notIn_fo], fun _ => by simp⟩
  have l2 : ((some1 m).filter fun k => k != .frm && k != .off).length ≤ 100000 := Nat.le_trans (List.length_filter_le _ _) l1'
  have e3 : qGt (.int (m % 5)) (.int 0) = .ok (.bool (decide (0 < m % 5))) := rfl
  have last : ∀ s2 s3, kFin ((nRet (nIfE (nB (n2 (nGet 1) (nLst nNil) qNe)) (nRev (nGet 1)) (nLst (nCons (n2 (nCall0 w__law_kinds) (n2 (n2 (nGet 0) (nC (.int 8)) qDiv) (nC (.int 9)) qMod) qIx) nNil)))) [.dat (.int m), .dat (.list ((some2 m).map Kd.d)), s2, s3]) = .ok (.list ((someK m).map Kd.d)) := fun s2 s3 => by
    unfold someK
    simp [ne_nil (sh_kds (ks := some2 m)), law_kinds_ok, kix_kinds]
    cases q : some2 m with
    | nil => simp
    | cons k ks => simp
  unfold some2 at last
  by_cases h : 0 < m % 5
  · rw [if_pos h] at last
    have := last .no .no
    simp [n__law_some, nRun_eq, ng__law_some, ngs__law_some_0, law_kinds_ok, e1, l1', h, e2, l2] at this ⊢
    exact this
  · rw [if_neg h] at last
    have := last .no .no
    simp [n__law_some, nRun_eq, ng__law_some, ngs__law_some_0, law_kinds_ok, e1, l1', h] at this ⊢
    exact this
theorem word_law (er : Er) (a : Addr) : fin (g__law_word er a (.raw (.ref a) :: List.replicate 2 .no)) = .ok (.str (nm er)) := by
  rw [n__law_word]
  cases er <;> simp [ng__law_word, nm]
  all_goals kernel_rfl
theorem row_lc {r : Ru} (h : r.ok) : lcL (bName 1) nYes (nCall (nArgs 2 (nCons (nGet 0) (nCons (nGet 1) nNil))) w_price) [.dat r.d, .no] (rng 0 21) = .ok (r.row.map .int) := by
  have e := lcL_map (ft := bName 1) (tt := nYes) (fe := nCall (nArgs 2 (nCons (nGet 0) (nCons (nGet 1) nNil))) w_price) (ρ := [.dat r.d, .no]) (u := fun (i : Nat) => (.int i : D)) (y := fun q => .int (r.price q)) (xs := List.range 21) fun q hq => ⟨[(1, .int q)], rfl, by simp, by
    have hq := List.mem_range.mp hq
    have hp := price_ok h (q := (q : Int)) (by omega) (by omega)
    simp [hp]⟩
  rw [← rng21] at e
  rw [e]
  unfold Ru.row
  rw [List.map_map]
  rfl
theorem row_len (r : Ru) : r.row.length = 21 := by
  unfold Ru.row
  simp
theorem rowP_ok {r : Ru} (h : r.ok) : wP_row_of [r.d] = .ok (.tuple (r.row.map .int)) := by
  have e := row_lc h
  have l := row_len r
  rw [nP_row_of, nRunP_eq]
  unfold ngP_row_of
  simp [e, l]
theorem row_of_ok {r : Ru} (h : r.ok) : w_row_of [r.d] = .ok (.tuple (r.row.map .int)) := by
  have e := row_lc h
  have l := row_len r
  simp [n_row_of, nRun_eq, ng_row_of, ngs_row_of_0, e, l]
theorem groups_ok {rs : List Ru} (hr : ∀ r ∈ rs, r.ok) (hl : rs.length ≤ 2000) : w_groups [.list (rs.map Ru.d)] = .ok (.list ((lots rs).map fun p => .list (p.2.map Ru.d))) := by
  have e := grp_lots (m := wP_row_of) rs [] 0 (fun r h => rowP_ok (hr r h)) List.nodup_nil (fun p hp => by simp at hp) (by simp; omega) (by omega)
  have hll := lots_len rs []
  have e' : grpL wP_row_of (rs.map Ru.d) [] = .ok (lotsD (lots rs)) := e
  have hL : (lotsD (lots rs)).length ≤ maxL := by
    unfold lotsD
    rw [List.length_map]
    show (lots rs).length ≤ 100000
    have : (lots rs).length ≤ 0 + rs.length := hll
    omega
  show fin (oB (grpL wP_row_of (rs.map Ru.d) []) fun acc => if acc.length ≤ maxL then .ret (.list (acc.map fun p => .list p.2)) else .bad) = _
  rw [e']
  show fin (if (lotsD (lots rs)).length ≤ maxL then .ret (.list ((lotsD (lots rs)).map fun p => .list p.2)) else .bad) = _
  rw [if_pos hL]
  show R.ok _ = _
  unfold lotsD
  rw [List.map_map]
  rfl
theorem eqv_rows (a b : List Int) : PyData.eqv (.tuple (a.map .int)) (.tuple (b.map .int)) = decide (a = b) := by
  have := eqv_ints a b
  simp only [PyData.eqv]
  exact this
theorem sh_rowI {a : List Int} : Sh 1 (.tuple (a.map .int)) := sh_tup fun d hd => by
  obtain ⟨i, _, rfl⟩ := List.mem_map.mp hd
  exact sh_int
end Py

namespace Py
open PySem PySem.Spec PyProof.Rows L2 LamX
section
variable (s0 s1 s2 s3 s4 s5 s6 s7 s8 s9 s10 s11 s12 s13 s14 s15 s16 s17 s18 : Sl)
/-! ### parting -/
def optI : Option Nat → D
  | none => .none
  | some q => .int q
def part (a b : Ru) : Option Nat := (difs a.row b.row).head?
theorem ez_rows (a b : Ru) : ezD (a.row.map .int) (b.row.map .int) = (List.range 21).map fun (q : Nat) => .tuple [.int q, .tuple [.int (a.price q), .int (b.price q)]] := by
  have e : (List.range 21).zipIdx = (List.range 21).map fun q => (q, q) := by decide
  unfold ezD enumD zipD Ru.row
  rw [List.map_map, List.map_map, List.zip_map', List.map_map, List.zipIdx_map, List.map_map, e, List.map_map]
  rfl
theorem part_find (a b : Ru) : (List.range 21).findSome? (fun q => if a.price (q : Nat) = b.price (q : Nat) then none else some (PyData.int (q : Nat))) = (part a b).map fun q => .int (q : Nat) := by
  have h : ∀ l : List Nat, (∀ q ∈ l, q < 21) → l.findSome? (fun q => if a.price (q : Nat) = b.price (q : Nat) then none else some (PyData.int (q : Nat))) = ((l.filter fun q => !decide (a.row.getD q 0 = b.row.getD q 0)).head?).map fun q => .int (q : Nat) := by
    intro l
    induction l with
    | nil => intro _; rfl
    | cons q l ih =>
      intro hq
      have h21 := hq q List.mem_cons_self
      have ih := ih fun z hz => hq z (List.mem_cons_of_mem _ hz)
      rw [List.findSome?_cons, List.filter_cons, row_getD a h21, row_getD b h21]
      by_cases e : a.price (q : Nat) = b.price (q : Nat)
      · rw [if_pos e, if_neg (by simp [e])]
        exact ih
      · rw [if_neg e, if_pos (by simp [e])]
        rfl
  exact h _ fun q hq => List.mem_range.mp hq
theorem parting_ok {a b : Ru} (ha : a.ok) (hb : b.ok) : w_parting [a.d, b.d] = .ok (optI (part a b)) := by
  have loop := forL_some (ft := bTup [(bName 2), (bTup [(bName 3), (bName 4)])]) (gb := (nIf (nB (n2 (nGet 3) (nGet 4) qNe)) (nRet (nGet 2)) nNx)) (u := fun (q : Nat) => (.tuple [.int q, .tuple [.int (a.price q), .int (b.price q)]] : D))
    (fun q => if a.price (q : Nat) = b.price (q : Nat) then none else some (PyData.int (q : Nat))) (fun ρ => ∃ t2 t3 t4, ρ = [.dat a.d, .dat b.d, t2, t3, t4]) (xs := List.range 21) (ρ := [.dat a.d, .dat b.d, .no, .no, .no]) (fun q _ ρ ⟨t2, t3, t4, hρ⟩ => by
      subst hρ
      refine ⟨[(2, .int q), (3, .int (a.price q)), (4, .int (b.price q))], rfl, ?_⟩
      by_cases e : a.price (q : Nat) = b.price (q : Nat)
      · exact .inr ⟨by simp [e], [.dat a.d, .dat b.d, .dat (.int q), .dat (.int (a.price q)), .dat (.int (b.price q))], by simp [e], _, _, _, rfl⟩
      · exact .inl ⟨.int q, by simp [e], by simp [e]⟩) ⟨.no, .no, .no, rfl⟩
  rw [part_find] at loop
  have hz : ngs_parting_0 [.dat a.d, .dat b.d, .no, .no, .no] = forL (bTup [(bName 2), (bTup [(bName 3), (bName 4)])]) (nIf (nB (n2 (nGet 3) (nGet 4) qNe)) (nRet (nGet 2)) nNx) ((List.range 21).map fun (q : Nat) => (.tuple [.int q, .tuple [.int (a.price q), .int (b.price q)]] : D)) [.dat a.d, .dat b.d, .no, .no, .no] := by
    unfold ngs_parting_0
    simp only [nFor_c, nEz_c, nCons_c, nCall_c, nArgs_c, nGet_z, nGet_s, nNil_c, kCons_ok, kArgs_ok, List.length_cons, List.length_nil, Nat.reduceAdd, if_true, kR_ok, row_of_ok ha, row_of_ok hb, qEz_t, ez_rows, kFor_ok]
  rcases loop with ⟨d, l1, l2⟩ | ⟨l1, ρ', l2, t2, t3, t4, rfl⟩
  · cases hp : part a b with
    | none =>
      rw [hp] at l1
      cases l1
    | some q =>
      rw [hp] at l1
      cases l1
      simp [n_parting, nRun_eq, ng_parting, need_rule_r ha, need_rule_r hb, hz, l2, optI]
  · cases hp : part a b with
    | none => simp [n_parting, nRun_eq, ng_parting, need_rule_r ha, need_rule_r hb, hz, l2, optI]
    | some q =>
      rw [hp] at l1
      cases l1
theorem optI_is (o : Option Nat) : qIs (optI o) .none = .ok (.bool o.isNone) := by
  cases o with
  | none => rfl
  | some r => rfl
theorem optI_ne (o : Option Nat) : qNe (optI o) (optI o) = .ok (.bool false) := by
  cases o with
  | none => rfl
  | some r => simp [optI]
theorem part_comm (a b : Ru) : part a b = part b a := by
  unfold part difs
  congr 2
  funext q
  simp only [eq_comm]
theorem is_alike_ok {a b : Ru} (ha : a.ok) (hb : b.ok) : w_is_alike [a.d, b.d] = .ok (.bool (part a b).isNone) := by
  simp [n_is_alike, nRun_eq, ng_is_alike, parting_ok ha hb, optI_is]
theorem alike_ones_ok {ks : List Kd} (hk0 : ks ≠ []) (hkn : ks.Nodup) (hk : ks.length ≤ 100) {g : Ru} (hg : g.ok) : w_alike_ones [.list (ks.map Kd.d), g.d] = .ok (.list (((allRules ks).filter fun r => decide (r.row = g.row)).map Ru.d)) := by
  have hle := allRules_le hkn
  have e := lcL_filter (ft := bName 3) (tt := (nB (n2 (nCall (nArgs 1 (nCons (nGet 3) nNil)) w_row_of) (nGet 2) qEq))) (fe := nGet 3) (ρ := [.dat (.list (ks.map Kd.d)), .dat g.d, .dat (.tuple (g.row.map .int)), .no]) (u := Ru.d) (y := Ru.d) (p := fun r => decide (r.row = g.row)) (xs := allRules ks) fun r hr => ⟨[(3, r.d)], rfl, by
    have h1 := row_of_ok (mem_allRules.mp hr).2
    have h2 := (sh_rowI (a := r.row)).eq (sh_rowI (a := g.row))
    rw [eqv_rows] at h2
    simp [h1, h2], fun _ => by simp⟩
  have l1 : ((allRules ks).filter fun r => decide (r.row = g.row)).length ≤ 100000 := Nat.le_trans (List.length_filter_le _ _) (by omega)
  simp [n_alike_ones, nRun_eq, ng_alike_ones, need_kinds_ok hk0 hkn (by omega), need_rule_r hg, row_of_ok hg, all_rules_ok hk, e, l1]
theorem many_unlike_ok {ks : List Kd} (hk0 : ks ≠ []) (hkn : ks.Nodup) (hk : ks.length ≤ 100) : w_many_unlike [.list (ks.map Kd.d)] = .ok (.int ((lots (allRules ks)).length : Nat)) := by
  have hle := allRules_le hkn
  have hgr := groups_ok (rs := allRules ks) (fun r h => (mem_allRules.mp h).2) (by omega)
  simp [n_many_unlike, nRun_eq, ng_many_unlike, need_kinds_ok hk0 hkn (by omega), all_rules_ok hk, hgr]
theorem lots_set (rs : List Ru) : (setL (rs.map Ru.row)).length = (lots rs).length := by
  have hL := lots_ok rs
  have p := perm_of_mem (setS_nd (rs.map Ru.row)) hL.nd fun k => by
    rw [setS_mem, List.mem_map, List.mem_map]
    constructor
    · rintro ⟨r, hr, rfl⟩
      obtain ⟨q, hq, e⟩ := hL.all r hr
      exact ⟨q, hq, e⟩
    · rintro ⟨q, hq, rfl⟩
      obtain ⟨r, t, e⟩ := hL.fst q hq
      obtain ⟨h3, h4⟩ := hL.mem q hq r (by rw [e]; exact List.mem_cons_self)
      exact ⟨r, h4, h3⟩
  rw [p.length_eq, List.length_map]
/-! ### what is none -/
theorem parting_bad2 {a : Ru} (ha : a.ok) {d : D} (h : okD d = true) (hr : isRule d = false) : w_parting [a.d, d] = .err .BadRule := by
  simp [n_parting, nRun_eq, ng_parting, need_rule_r ha, need_rule_ok h, hr]
theorem parting_bad1 {d e : D} (h : okD d = true) (hr : isRule d = false) : w_parting [d, e] = .err .BadRule := by
  simp [n_parting, nRun_eq, ng_parting, need_rule_ok h, hr]
theorem is_alike_bad {d e : D} (h : w_parting [d, e] = .err .BadRule) : w_is_alike [d, e] = .err .BadRule := by
  simp [n_is_alike, nRun_eq, ng_is_alike, h]
theorem alike_ones_bad {ks : List Kd} (hk0 : ks ≠ []) (hkn : ks.Nodup) (hk : ks.length ≤ 100) {d : D} (h : okD d = true) (hr : isRule d = false) : w_alike_ones [.list (ks.map Kd.d), d] = .err .BadRule := by
  simp [n_alike_ones, nRun_eq, ng_alike_ones, need_kinds_ok hk0 hkn (by omega), need_rule_ok h, hr]
theorem alike_ones_kinds {d e : D} (h : w_need_kinds [d] = .err .BadRule) : w_alike_ones [d, e] = .err .BadRule := by
  simp [n_alike_ones, nRun_eq, ng_alike_ones, h]
theorem many_unlike_kinds {d : D} (h : w_need_kinds [d] = .err .BadRule) : w_many_unlike [d] = .err .BadRule := by
  simp [n_many_unlike, nRun_eq, ng_many_unlike, h]
def bad5 : List D := [.none, .tuple [], .tuple [.str "flat"], .tuple [.str "tax", .int 1], .list [.str "flat", .int 1]]
theorem bad5_ok : ∀ d ∈ bad5, (okD d = true ∧ isRule d = false) ∧ w_need_kinds [.list [d]] = .err .BadRule := fun d hd => by
  unfold bad5 at hd
  rcases List.mem_cons.mp hd with rfl | hd
  · exact ⟨⟨rfl, rfl⟩, by kernel_rfl⟩
  rcases List.mem_cons.mp hd with rfl | hd
  · exact ⟨⟨rfl, rfl⟩, by kernel_rfl⟩
  rcases List.mem_cons.mp hd with rfl | hd
  · exact ⟨⟨by decide +kernel, by decide +kernel⟩, by kernel_rfl⟩
  rcases List.mem_cons.mp hd with rfl | hd
  · exact ⟨⟨by decide +kernel, by decide +kernel⟩, by kernel_rfl⟩
  rw [List.mem_singleton.mp hd]
  exact ⟨⟨rfl, rfl⟩, by kernel_rfl⟩
/-! ### the law's own rows -/
def keyR (r : Ru) : List Key := .inr r.kd.s :: r.xs.map .inl
def rowL (r : Ru) : D := .list (r.row.map .int)
theorem keyR_inj {a b : Ru} (h : keyR a = keyR b) : a = b := by
  unfold keyR at h
  rw [List.cons.injEq] at h
  refine ru_inj (kd_inj (Sum.inr.inj h.1)) ?_
  exact (List.map_inj_right (fun x y e => Sum.inl.inj e)).mp h.2
theorem tupK_ints (xs : List Int) : tupK (xs.map PyData.int) = some (xs.map .inl) := tupK_row xs
theorem keyT_d (r : Ru) : keyT r.d = some (keyR r) := by
  show (tupK (r.xs.map PyData.int)).map (Sum.inr r.kd.s :: ·) = _
  rw [tupK_ints]
  rfl
theorem pairs_rows : ∀ rs : List Ru, pairsT (rs.map fun r : Ru => .tuple [r.d, rowL r]) = some (rs.map fun r => (keyR r, rowL r))
  | [] => rfl
  | r :: rs => by
    show (match keyT r.d with
      | some k => (pairsT (rs.map fun r : Ru => .tuple [r.d, rowL r])).map ((k, rowL r) :: ·)
      | none => none) = _
    rw [keyT_d, pairs_rows rs]
    rfl
theorem valT_map (acc : List (List Key × D)) (k k' : List Key) (d : D) : valT (acc.map fun p => if p.1 = k then (p.1, d) else p) k' = if k = k' then (valT acc k').map (fun _ => d) else valT acc k' := by
  induction acc with
  | nil => by_cases e : k = k' <;> simp [valT]
  | cons p acc ih =>
    unfold valT at ih ⊢
    rw [List.map_cons, List.find?_cons, List.find?_cons]
    by_cases e1 : p.1 = k
    · rw [if_pos e1]
      by_cases e2 : p.1 = k'
      · subst e1
        subst e2
        simp
      · have e3 : ¬ k = k' := fun z => e2 (e1.trans z)
        rw [if_neg e3] at ih ⊢
        simp [e2]
        simpa using ih
    · rw [if_neg e1]
      by_cases e2 : p.1 = k'
      · have e3 : ¬ k = k' := fun z => e1 (e2.trans z.symm)
        rw [if_neg e3]
        simp [e2]
      · simp only [e2, decide_false]
        exact ih
theorem valT_put (acc : List (List Key × D)) (k k' : List Key) (d : D) : valT (putT acc k d) k' = if k = k' then some d else valT acc k' := by
  unfold putT
  split
  · rename_i h
    rw [valT_map]
    by_cases e : k = k'
    · subst e
      rw [if_pos rfl, if_pos rfl]
      obtain ⟨p, hp, e⟩ := List.any_eq_true.mp h
      cases q : acc.find? (fun p => decide (p.1 = k)) with
      | none =>
        rw [List.find?_eq_none] at q
        exact (q p hp e).elim
      | some p' =>
        unfold valT
        rw [q]
        rfl
    · rw [if_neg e, if_neg e]
  · rename_i h
    have hn : ∀ p ∈ acc, ¬ p.1 = k := fun p hp e => h (List.any_eq_true.mpr ⟨p, hp, decide_eq_true e⟩)
    unfold valT
    rw [List.find?_append]
    by_cases e : k = k'
    · subst e
      have q : acc.find? (fun p => decide (p.1 = k)) = none := List.find?_eq_none.mpr fun p hp z => hn p hp (of_decide_eq_true z)
      rw [q]
      simp
    · rw [if_neg e, List.find?_cons_of_neg (by simp [e])]
      simp
theorem valT_rows {r : Ru} : ∀ (rs : List Ru) (acc : List (List Key × D)), (r ∈ rs ∨ valT acc (keyR r) = some (rowL r)) → valT (mkT acc (rs.map fun r => (keyR r, rowL r))) (keyR r) = some (rowL r)
  | [], acc, h => by
    rcases h with h | h
    · simp at h
    · exact h
  | x :: rs, acc, h => by
    show valT (mkT (putT acc (keyR x) (rowL x)) (rs.map fun r => (keyR r, rowL r))) (keyR r) = _
    refine valT_rows rs _ ?_
    rw [valT_put]
    by_cases e : keyR x = keyR r
    · rw [if_pos e, keyR_inj e]
      exact .inr rfl
    · rw [if_neg e]
      rcases h with h | h
      · rcases List.mem_cons.mp h with h | h
        · exact (e (by rw [h])).elim
        · exact .inl h
      · exact .inr h
def tabR (rs : List Ru) : List (List Key × D) := mkT [] (rs.map fun r => (keyR r, rowL r))
variable [Hs]
theorem tab_at {rs : List Ru} {r : Ru} (hr : r ∈ rs) {ρ : Rho} (h : ρ[5]? = some (.tab Hs.hs (tabR rs))) (h2 : nGet 18 ρ = .ok r.d) : nTabE 5 (nGet 18) ρ = .ok (rowL r) :=
  nTabE_ok h h2 (keyT_d r) (valT_rows rs [] (.inl hr))

theorem l20_0 {ks : List Kd} (hk0 : ks ≠ []) {a : Ru} (ha : a.ok) (m : Int) : ∃ g : Ru, g.ok ∧ ngs_law_0 [s0, s1, s2, s3, .dat (.list ((allRules ks).map Ru.d)), s5, s6, .dat (.int m), .dat a.d, s9, s10, s11, s12, s13, s14, s15, s16, s17, s18] = .nx [s0, s1, s2, s3, .dat (.list ((allRules ks).map Ru.d)), s5, s6, .dat (.int m), .dat a.d, .dat g.d, s10, s11, s12, s13, s14, s15, s16, s17, s18] := by
  have hpw : qPow (.int 2) (.int 20) = .ok (.int 1048576) := by kernel_rfl
  obtain ⟨r, hr, hx⟩ := kIx_rules hk0 (m / 1048576)
  have hpos := allRules_pos hk0
  have hru := law_rule_ok (m / 1048576)
  have hok : ((kdAt (m / 1048576)).ru (m / 1048576)).ok := ru_ok _ _
  generalize (kdAt (m / 1048576)).ru (m / 1048576) = r2 at hru hok
  have h3 : m / 8 % 3 = 0 ∨ m / 8 % 3 = 1 ∨ m / 8 % 3 = 2 := by omega
  rcases h3 with h3 | h3 | h3
  · exact ⟨r2, hok, by simp [ngs_law_0, hpw, hru, qMod_i hpos, hx, h3]⟩
  · exact ⟨r, (mem_allRules.mp hr).2, by simp [ngs_law_0, hpw, hru, qMod_i hpos, hx, h3]⟩
  · exact ⟨a, ha, by simp [ngs_law_0, hpw, hru, qMod_i hpos, hx, h3]⟩
theorem l20_1 {a g : Ru} (ha : a.ok) (hg : g.ok) : ngs_law_1 [s0, s1, s2, s3, s4, s5, s6, s7, .dat a.d, .dat g.d, s10, s11, s12, s13, s14, s15, s16, s17, s18] = .nx [s0, s1, s2, s3, s4, s5, s6, s7, .dat a.d, .dat g.d, .dat (rowD (difs a.row g.row)), s11, s12, s13, s14, s15, s16, s17, s18] := by
  have e := lcL_filter (ft := bName 15) (tt := (nB (n2 (nCall (nArgs 2 (nCons (nGet 8) (nCons (nGet 15) nNil))) w__law_cost) (nCall (nArgs 2 (nCons (nGet 9) (nCons (nGet 15) nNil))) w__law_cost) qNe))) (fe := nGet 15) (ρ := [s0, s1, s2, s3, s4, s5, s6, s7, .dat a.d, .dat g.d, s10, s11, s12, s13, s14, .no, s16, s17, s18]) (u := fun (q : Nat) => (.int q : D)) (y := fun (q : Nat) => (.int q : D)) (p := fun q => !decide (a.row.getD q 0 = g.row.getD q 0)) (xs := List.range 21) fun q hq => ⟨[(15, .int q)], rfl, by
    have hq := List.mem_range.mp hq
    have c1 := law_cost_ok ha (q := q) (by omega)
    have c2 := law_cost_ok hg (q := q) (by omega)
    rw [row_getD a hq, row_getD g hq]
    simp [c1, c2], fun _ => by simp⟩
  rw [← rng21] at e
  have hd : (List.range 21).filter (fun q => !decide (a.row.getD q 0 = g.row.getD q 0)) = difs a.row g.row := rfl
  rw [hd] at e
  have l1 : (difs a.row g.row).length ≤ 100000 := Nat.le_trans (Nat.le_trans (List.length_filter_le _ _) (by simp)) (by decide : 21 ≤ 100000)
  have hr21 : qR1 [.int 21] = .ok (rng 0 21) := by rw [qR1_ok, if_pos (by decide)]
  simp only [ngs_law_1, nSet_c, nLc_c, nR1_c, nCons_c, nC_c, nNil_c, kCons_ok, kR_ok, hr21, wipe_cons, wipe_nil, List.set_cons_succ, List.set_cons_zero, kLc_ok, e, kLst_ok, List.length_map, l1, if_true, kSet_ok]
  rfl
theorem l20_d (a g : Ru) : nSet 11 (nIfE (nB (n2 (nGet 10) (nLst nNil) qNe)) (n2 (nGet 10) (nC (.int 0)) qIx) (nC .none)) [s0, s1, s2, s3, s4, s5, s6, s7, s8, s9, .dat (rowD (difs a.row g.row)), s11, s12, s13, s14, s15, s16, s17, s18] = .nx [s0, s1, s2, s3, s4, s5, s6, s7, s8, s9, .dat (rowD (difs a.row g.row)), .dat (optI (part a g)), s12, s13, s14, s15, s16, s17, s18] := by
  unfold part
  cases h : difs a.row g.row with
  | nil =>
    have hq : qNe (.list []) (.list []) = .ok (.bool false) := by kernel_rfl
    simp [rowD, hq, optI]
  | cons q l =>
    have hq := ne_nil (sh_row (row := q :: l))
    unfold rowD at hq ⊢
    simp only [List.map_cons, List.isEmpty_cons, Bool.not_false] at hq
    simp [hq, optI]
theorem l20_2 {a g : Ru} (ha : a.ok) (hg : g.ok) : ngs_law_2 [s0, s1, s2, s3, s4, s5, s6, s7, .dat a.d, .dat g.d, s10, .dat (optI (part a g)), s12, s13, s14, s15, s16, s17, s18] = .nx [s0, s1, s2, s3, s4, s5, s6, s7, .dat a.d, .dat g.d, s10, .dat (optI (part a g)), s12, s13, s14, s15, s16, s17, s18] := by
  have h1 := parting_ok ha hg
  have h2 := parting_ok hg ha
  rw [part_comm] at h2
  have h3 := is_alike_ok ha hg
  have h4 := optI_is (part a g)
  have h5 := optI_ne (part a g)
  have h6 : ∀ b, qNe (.bool b) (.bool b) = .ok (.bool false) := fun b => by cases b <;> kernel_rfl
  simp [ngs_law_2, h1, h2, h3, h4, h5, h6]
theorem eq_rowL (a b : Ru) : qEq (rowL a) (.list (b.row.map .int)) = .ok (.bool (decide (a.row = b.row))) := by
  have h := (sh_ints (ns := a.row)).eq (sh_ints (ns := b.row))
  have : PyData.eqv (.list (a.row.map .int)) (.list (b.row.map .int)) = decide (a.row = b.row) := by
    rw [PyData.eqv, eqv_ints]
  rw [this] at h
  exact h
theorem l20_like {ks : List Kd} (hkn : ks.Nodup) {g : Ru} : nSet 13 (nLc [18] (nSeqI (nGet 4)) (bName 18) (nB (n2 (nTabE 5 (nGet 18)) (nGet 12) qEq)) (nGet 18)) [s0, s1, s2, s3, .dat (.list ((allRules ks).map Ru.d)), .tab Hs.hs (tabR (allRules ks)), s6, s7, s8, s9, s10, s11, .dat (.list (g.row.map .int)), s13, s14, s15, s16, s17, s18] = .nx [s0, s1, s2, s3, .dat (.list ((allRules ks).map Ru.d)), .tab Hs.hs (tabR (allRules ks)), s6, s7, s8, s9, s10, s11, .dat (.list (g.row.map .int)), .dat (.list (((allRules ks).filter fun r => decide (r.row = g.row)).map Ru.d)), s14, s15, s16, s17, s18] := by
  have hle := allRules_le hkn
  have e := lcL_filter (ft := bName 18) (tt := (nB (n2 (nTabE 5 (nGet 18)) (nGet 12) qEq))) (fe := nGet 18) (ρ := [s0, s1, s2, s3, .dat (.list ((allRules ks).map Ru.d)), .tab Hs.hs (tabR (allRules ks)), s6, s7, s8, s9, s10, s11, .dat (.list (g.row.map .int)), s13, s14, s15, s16, s17, .no]) (u := Ru.d) (y := Ru.d) (p := fun r => decide (r.row = g.row)) (xs := allRules ks) fun r hr => ⟨[(18, r.d)], rfl, by
    have h1 := tab_at hr (ρ := [s0, s1, s2, s3, .dat (.list ((allRules ks).map Ru.d)), .tab Hs.hs (tabR (allRules ks)), s6, s7, s8, s9, s10, s11, .dat (.list (g.row.map .int)), s13, s14, s15, s16, s17, .dat r.d]) rfl (by simp)
    have h2 := eq_rowL r g
    simp only [nSets_cons, nSets_nil, List.set_cons_succ, List.set_cons_zero, nB_c, n2_c, h1, nGet_s, nGet_z, k2_ok, h2, kBo_ok], fun _ => by simp⟩
  have l1 : ((allRules ks).filter fun r => decide (r.row = g.row)).length ≤ 100000 := Nat.le_trans (List.length_filter_le _ _) (by omega)
  simp only [nSet_c, nLc_c, nSeqI_c, nGet_s, nGet_z, kR_ok, qSeq_l, wipe_cons, wipe_nil, List.set_cons_succ, List.set_cons_zero, kLc_ok, e, kLst_ok, List.length_map, l1, if_true, kSet_ok]
theorem l20_3 {ks : List Kd} (hk0 : ks ≠ []) (hkn : ks.Nodup) (hk : ks.length ≤ 100) (m : Int) : ∃ t6 t7, ∃ a : Ru, a.ok ∧ ∃ t9 t10 t11 t12 t13, ngs_law_3 [s0, s1, .dat (.int m), .dat (.list (ks.map Kd.d)), .dat (.list ((allRules ks).map Ru.d)), .tab Hs.hs (tabR (allRules ks)), s6, s7, s8, s9, s10, s11, s12, s13, s14, s15, s16, s17, s18] = .nx [s0, s1, .dat (.int m), .dat (.list (ks.map Kd.d)), .dat (.list ((allRules ks).map Ru.d)), .tab Hs.hs (tabR (allRules ks)), t6, t7, .dat a.d, t9, t10, t11, t12, t13, s14, s15, s16, s17, s18] := by
  obtain ⟨ρ', e, t6, t7, t8, t9, t10, t11, t12, t13, hρ, ht⟩ := forL_inv (ft := bName 6) (gb := (nSeq (nSet 7 (nCall (nArgs 2 (nCons (nGet 2) (nCons (n2 (nC (.int 10)) (nGet 6) qAdd) nNil))) w__law_drawn)) (nSeq (nSet 8 (n2 (nGet 4) (n2 (nGet 7) (nCall (nCons (nGet 4) nNil) qLen) qMod) qIx)) (nSeq ngs_law_0 (nSeq ngs_law_1 (nSeq (nSet 11 (nIfE (nB (n2 (nGet 10) (nLst nNil) qNe)) (n2 (nGet 10) (nC (.int 0)) qIx) (nC .none))) (nSeq ngs_law_2 (nSeq (nSet 12 (nCall (nArgs 1 (nCons (nGet 9) nNil)) w__law_row)) (nSeq (nSet 13 (nLc [18] (nSeqI (nGet 4)) (bName 18) (nB (n2 (nTabE 5 (nGet 18)) (nGet 12) qEq)) (nGet 18))) (nIf (nAnd (nB (n2 (nGet 6) (nC (.int 3)) qLt)) (nB (n2 (nCall (nArgs 2 (nCons (nGet 3) (nCons (nGet 9) nNil))) w_alike_ones) (nGet 13) qNe))) (nRet (nC (.bool false))) nNx))))))))))
    (ds := rng 0 12) (ρ := [s0, s1, .dat (.int m), .dat (.list (ks.map Kd.d)), .dat (.list ((allRules ks).map Ru.d)), .tab Hs.hs (tabR (allRules ks)), s6, s7, s8, s9, s10, s11, s12, s13, s14, s15, s16, s17, s18])
    (fun i ρ => ∃ t6 t7 t8 t9 t10 t11 t12 t13, ρ = [s0, s1, .dat (.int m), .dat (.list (ks.map Kd.d)), .dat (.list ((allRules ks).map Ru.d)), .tab Hs.hs (tabR (allRules ks)), t6, t7, t8, t9, t10, t11, t12, t13, s14, s15, s16, s17, s18] ∧ (0 < i → ∃ a : Ru, a.ok ∧ t8 = .dat a.d))
    ⟨s6, s7, s8, s9, s10, s11, s12, s13, rfl, fun h => by omega⟩ fun i d ρ hd ⟨t6, t7, t8, t9, t10, t11, t12, t13, hρ, _⟩ => by
      subst hρ
      unfold rng at hd
      obtain ⟨j, _, rfl⟩ := List.mem_map.mp (List.mem_of_getElem? hd)
      rw [Int.zero_add]
      generalize hm : drawn m (10 + (j : Int)) = z
      have hdr := law_drawn_ok m (10 + (j : Int))
      rw [hm] at hdr
      obtain ⟨a, ha', hx⟩ := kIx_rules hk0 z
      have ha := (mem_allRules.mp ha').2
      have hpos := allRules_pos hk0
      obtain ⟨g, hg, e0⟩ := l20_0 s0 s1 (.dat (.int m)) (.dat (.list (ks.map Kd.d))) (.tab Hs.hs (tabR (allRules ks))) (.dat (.int j)) t9 t10 t11 t12 t13 s14 s15 s16 s17 s18 hk0 ha z
      have e1 := l20_1 s0 s1 (.dat (.int m)) (.dat (.list (ks.map Kd.d))) (.dat (.list ((allRules ks).map Ru.d))) (.tab Hs.hs (tabR (allRules ks))) (.dat (.int j)) (.dat (.int z)) t10 t11 t12 t13 s14 s15 s16 s17 s18 ha hg
      have ed := l20_d s0 s1 (.dat (.int m)) (.dat (.list (ks.map Kd.d))) (.dat (.list ((allRules ks).map Ru.d))) (.tab Hs.hs (tabR (allRules ks))) (.dat (.int j)) (.dat (.int z)) (.dat a.d) (.dat g.d) t11 t12 t13 s14 s15 s16 s17 s18 a g
      have e2 := l20_2 s0 s1 (.dat (.int m)) (.dat (.list (ks.map Kd.d))) (.dat (.list ((allRules ks).map Ru.d))) (.tab Hs.hs (tabR (allRules ks))) (.dat (.int j)) (.dat (.int z)) (.dat (rowD (difs a.row g.row))) t12 t13 s14 s15 s16 s17 s18 ha hg
      have el := l20_like s0 s1 (.dat (.int m)) (.dat (.list (ks.map Kd.d))) (.dat (.int j)) (.dat (.int z)) (.dat a.d) (.dat g.d) (.dat (rowD (difs a.row g.row))) (.dat (optI (part a g))) t13 s14 s15 s16 s17 s18 hkn (g := g)
      have hgr := law_row_ok hg
      have hal := alike_ones_ok hk0 hkn hk hg
      have hne := (sh_rules (rs := (allRules ks).filter fun r => decide (r.row = g.row))).neR
      have d1 : nSet 7 (nCall (nArgs 2 (nCons (nGet 2) (nCons (n2 (nC (.int 10)) (nGet 6) qAdd) nNil))) w__law_drawn) [s0, s1, .dat (.int m), .dat (.list (ks.map Kd.d)), .dat (.list ((allRules ks).map Ru.d)), .tab Hs.hs (tabR (allRules ks)), .dat (.int j), t7, t8, t9, t10, t11, t12, t13, s14, s15, s16, s17, s18] = .nx [s0, s1, .dat (.int m), .dat (.list (ks.map Kd.d)), .dat (.list ((allRules ks).map Ru.d)), .tab Hs.hs (tabR (allRules ks)), .dat (.int j), .dat (.int z), t8, t9, t10, t11, t12, t13, s14, s15, s16, s17, s18] := by
        simp [hdr]
      have d2 : nSet 8 (n2 (nGet 4) (n2 (nGet 7) (nCall (nCons (nGet 4) nNil) qLen) qMod) qIx) [s0, s1, .dat (.int m), .dat (.list (ks.map Kd.d)), .dat (.list ((allRules ks).map Ru.d)), .tab Hs.hs (tabR (allRules ks)), .dat (.int j), .dat (.int z), t8, t9, t10, t11, t12, t13, s14, s15, s16, s17, s18] = .nx [s0, s1, .dat (.int m), .dat (.list (ks.map Kd.d)), .dat (.list ((allRules ks).map Ru.d)), .tab Hs.hs (tabR (allRules ks)), .dat (.int j), .dat (.int z), .dat a.d, t9, t10, t11, t12, t13, s14, s15, s16, s17, s18] := by
        simp [qMod_i hpos, hx]
      refine ⟨[(6, .int j)], [s0, s1, .dat (.int m), .dat (.list (ks.map Kd.d)), .dat (.list ((allRules ks).map Ru.d)), .tab Hs.hs (tabR (allRules ks)), .dat (.int j), .dat (.int z), .dat a.d, .dat g.d, .dat (rowD (difs a.row g.row)), .dat (optI (part a g)), .dat (.list (g.row.map .int)), .dat (.list (((allRules ks).filter fun r => decide (r.row = g.row)).map Ru.d)), s14, s15, s16, s17, s18], rfl, ?_, _, _, _, _, _, _, _, _, rfl, fun _ => ⟨a, ha, rfl⟩⟩
      simp only [nSets_cons, nSets_nil, List.set_cons_succ, List.set_cons_zero]
      rw [nSeq_c, d1, kS_nx, nSeq_c, d2, kS_nx, nSeq_c, e0, kS_nx, nSeq_c, e1, kS_nx, nSeq_c, ed, kS_nx, nSeq_c, e2, kS_nx, nSeq_c, nSet_c]
      simp only [nCall_c, nArgs_c, nCons_c, nGet_s, nGet_z, nNil_c, kCons_ok, kArgs_ok, List.length_cons, List.length_nil, Nat.reduceAdd, if_true, kR_ok, hgr, kSet_ok, List.set_cons_succ, List.set_cons_zero, kS_nx]
      rw [nSeq_c, el, kS_nx]
      generalize ((allRules ks).filter fun r => decide (r.row = g.row)).map Ru.d = Z at hal hne
      cases qj : decide ((j : Int) < 3) <;> simp [qj, hal, hne]
  obtain ⟨a, ha, h8⟩ := ht (by decide)
  subst h8
  refine ⟨t6, t7, a, ha, t9, t10, t11, t12, t13, ?_⟩
  have hr12 : qR1 [.int 12] = .ok (rng 0 12) := by rw [qR1_ok, if_pos (by decide)]
  simp only [ngs_law_3, nFor_c, nR1_c, nCons_c, nC_c, nNil_c, kCons_ok, kR_ok, hr12, kFor_ok]
  rw [e, hρ]
theorem l20_4 {ks : List Kd} (hk0 : ks ≠ []) (hkn : ks.Nodup) (hk : ks.length ≤ 100) {a : Ru} (ha : a.ok) : ∃ t16 t17, ngs_law_4 [s0, s1, s2, .dat (.list (ks.map Kd.d)), s4, s5, s6, s7, .dat a.d, s9, s10, s11, s12, s13, s14, s15, s16, s17, s18] = .nx [s0, s1, s2, .dat (.list (ks.map Kd.d)), s4, s5, s6, s7, .dat a.d, s9, s10, s11, s12, s13, s14, s15, t16, t17, s18] := by
  have e1 : qNe (.list [.str "BadRule", .str "BadRule", .str "BadRule", .str "BadRule", .str "BadRule", .str "BadRule"]) (.list [.str "BadRule", .str "BadRule", .str "BadRule", .str "BadRule", .str "BadRule", .str "BadRule"]) = .ok (.bool false) := by kernel_rfl
  obtain ⟨ρ', e, t16, t17, hρ⟩ := forL_all (ft := bName 16) (gb := (nSeq (nOwn 17 (nCons (nTell nm (nCall (nArgs 2 (nCons (nGet 8) (nCons (nGet 16) nNil))) w_parting)) nNil)) (nSeq (nApp 17 (nTell nm (nCall (nArgs 2 (nCons (nGet 16) (nCons (nGet 8) nNil))) w_parting))) (nSeq (nApp 17 (nTell nm (nCall (nArgs 2 (nCons (nGet 8) (nCons (nGet 16) nNil))) w_is_alike))) (nSeq (nApp 17 (nTell nm (nCall (nArgs 2 (nCons (nGet 3) (nCons (nGet 16) nNil))) w_alike_ones))) (nSeq (nApp 17 (nTell nm (nCall (nArgs 2 (nCons (nLst (nCons (nGet 16) nNil)) (nCons (nGet 8) nNil))) w_alike_ones))) (nSeq (nApp 17 (nTell nm (nCall (nArgs 1 (nCons (nLst (nCons (nGet 16) nNil)) nNil)) w_many_unlike))) (nFz [17] (nIf (nB (n2 (nGet 17) (n2 (nLst (nCons (nC (.str "BadRule")) nNil)) (nC (.int 6)) qMul) qNe)) (nRet (nC (.bool false))) nNx)))))))))
    (ds := bad5) (ρ := [s0, s1, s2, .dat (.list (ks.map Kd.d)), s4, s5, s6, s7, .dat a.d, s9, s10, s11, s12, s13, s14, s15, s16, s17, s18]) (fun ρ => ∃ t16 t17, ρ = [s0, s1, s2, .dat (.list (ks.map Kd.d)), s4, s5, s6, s7, .dat a.d, s9, s10, s11, s12, s13, s14, s15, t16, t17, s18]) ⟨s16, s17, rfl⟩ fun d hd ρ ⟨t16, t17, hρ⟩ => by
      subst hρ
      obtain ⟨⟨h1, h2⟩, h3⟩ := bad5_ok d hd
      have p2 := parting_bad2 ha h1 h2
      refine ⟨[(16, d)], [s0, s1, s2, .dat (.list (ks.map Kd.d)), s4, s5, s6, s7, .dat a.d, s9, s10, s11, s12, s13, s14, s15, .dat d, .dat (.list [.str "BadRule", .str "BadRule", .str "BadRule", .str "BadRule", .str "BadRule", .str "BadRule"]), s18], rfl, ?_, _, _, rfl⟩
      simp [p2, parting_bad1 h1 h2, is_alike_bad p2, alike_ones_bad hk0 hkn hk h1 h2, alike_ones_kinds h3, many_unlike_kinds h3, nm, e1, List.replicate]
  refine ⟨t16, t17, ?_⟩
  unfold bad5 at e
  simp [ngs_law_4, e, hρ]
def law20 : Rho → O := (nSeq (nSet 2 (nCall (nArgs 2 (nCons (nCall (nArgs 2 (nCons (nGet 0) (nCons (nGet 1) nNil))) w__law_cell) (nCons (nGet 1) nNil))) w__law_drawn)) (nSeq (nSet 3 (nCall (nArgs 1 (nCons (n2 (nGet 2) (nC (.int 64)) qDiv) nNil)) w__law_some)) (nSeq (nSet 4 (nCall (nArgs 1 (nCons (nGet 3) nNil)) w__law_rules)) (nSeq (nTab 5 (nCons (nLc [18] (nSeqI (nGet 4)) (bName 18) nYes (nTup (nCons (nGet 18) (nCons (nCall (nArgs 1 (nCons (nGet 18) nNil)) w__law_row) nNil)))) nNil)) (nSeq ngs_law_3 (nSeq (nSet 14 (nCall (nCons (nGet 3) nNil) qList)) (nSeq (nSet 15 (nLenSetT (nLc [18] (nSeqI (nGet 4)) (bName 18) nYes (nCall (nCons (nTabE 5 (nGet 18)) nNil) qTuple)))) (nSeq (nIf (nOr (nB (n2 (nCall (nArgs 1 (nCons (nGet 3) nNil)) w_many_unlike) (nGet 15) qNe)) (nB (n2 (nGet 3) (nGet 14) qNe))) (nRet (nC (.bool false))) nNx) ngs_law_4))))))))
theorem l20_tab {ks : List Kd} (hkn : ks.Nodup) : nTab 5 (nCons (nLc [18] (nSeqI (nGet 4)) (bName 18) nYes (nTup (nCons (nGet 18) (nCons (nCall (nArgs 1 (nCons (nGet 18) nNil)) w__law_row) nNil)))) nNil) [s0, s1, s2, s3, .dat (.list ((allRules ks).map Ru.d)), s5, s6, s7, s8, s9, s10, s11, s12, s13, s14, s15, s16, s17, s18] = .nx [s0, s1, s2, s3, .dat (.list ((allRules ks).map Ru.d)), .tab Hs.hs (tabR (allRules ks)), s6, s7, s8, s9, s10, s11, s12, s13, s14, s15, s16, s17, s18] := by
  have hle := allRules_le hkn
  have e := lcL_map (ft := bName 18) (tt := nYes) (fe := (nTup (nCons (nGet 18) (nCons (nCall (nArgs 1 (nCons (nGet 18) nNil)) w__law_row) nNil)))) (ρ := [s0, s1, s2, s3, .dat (.list ((allRules ks).map Ru.d)), s5, s6, s7, s8, s9, s10, s11, s12, s13, s14, s15, s16, s17, .no]) (u := Ru.d) (y := fun r => .tuple [r.d, rowL r]) (xs := allRules ks) fun r hr => ⟨[(18, r.d)], rfl, by simp, by
    have h1 := law_row_ok (mem_allRules.mp hr).2
    simp [h1, rowL]⟩
  have l1 : (allRules ks).length ≤ 100000 := by omega
  exact nTab_ok (by simp only [nCons_c, nLc_c, nSeqI_c, nGet_s, nGet_z, kR_ok, qSeq_l, wipe_cons, wipe_nil, List.set_cons_succ, List.set_cons_zero, kLc_ok, e, kLst_ok, List.length_map, l1, if_true, nNil_c, kCons_ok]) (pairs_rows _)
theorem l20_len {ks : List Kd} (hkn : ks.Nodup) : nSet 15 (nLenSetT (nLc [18] (nSeqI (nGet 4)) (bName 18) nYes (nCall (nCons (nTabE 5 (nGet 18)) nNil) qTuple))) [s0, s1, s2, s3, .dat (.list ((allRules ks).map Ru.d)), .tab Hs.hs (tabR (allRules ks)), s6, s7, s8, s9, s10, s11, s12, s13, s14, s15, s16, s17, s18] = .nx [s0, s1, s2, s3, .dat (.list ((allRules ks).map Ru.d)), .tab Hs.hs (tabR (allRules ks)), s6, s7, s8, s9, s10, s11, s12, s13, s14, .dat (.int ((lots (allRules ks)).length : Nat)), s16, s17, s18] := by
  have hle := allRules_le hkn
  have e := lcL_map (ft := bName 18) (tt := nYes) (fe := (nCall (nCons (nTabE 5 (nGet 18)) nNil) qTuple)) (ρ := [s0, s1, s2, s3, .dat (.list ((allRules ks).map Ru.d)), .tab Hs.hs (tabR (allRules ks)), s6, s7, s8, s9, s10, s11, s12, s13, s14, s15, s16, s17, .no]) (u := Ru.d) (y := fun r => tupD r.row) (xs := allRules ks) fun r hr => ⟨[(18, r.d)], rfl, by simp, by
    have h1 := tab_at hr (ρ := [s0, s1, s2, s3, .dat (.list ((allRules ks).map Ru.d)), .tab Hs.hs (tabR (allRules ks)), s6, s7, s8, s9, s10, s11, s12, s13, s14, s15, s16, s17, .dat r.d]) rfl (by simp)
    simp only [nSets_cons, nSets_nil, List.set_cons_succ, List.set_cons_zero, nCall_c, nCons_c, h1, nNil_c, kCons_ok, kR_ok]
    rfl⟩
  have l1 : (allRules ks).length ≤ 100000 := by omega
  have h2 := qLenSetT_ok (ks := (allRules ks).map Ru.row) (by rw [List.length_map]; omega)
  rw [List.map_map, lots_set] at h2
  have h3 : (tupD ∘ Ru.row) = fun r => tupD r.row := rfl
  rw [h3] at h2
  simp only [nSet_c, nLenSetT_c, nLc_c, nSeqI_c, nGet_s, nGet_z, kR_ok, qSeq_l, wipe_cons, wipe_nil, List.set_cons_succ, List.set_cons_zero, kLc_ok, e, kLst_ok, List.length_map, l1, if_true, h2, kSet_ok]
theorem body20 {ns : List Int} (hn : ns.length ≤ 63) (i : Nat) : ∃ t2 t3 t4 t5 t6 t7 t8 t9 t10 t11 t12 t13 t14 t15 t16 t17 t18, law20 [.dat (scrD ns), .dat (.int i), s2, s3, s4, s5, s6, s7, s8, s9, s10, s11, s12, s13, s14, s15, s16, s17, s18] = .nx [.dat (scrD ns), .dat (.int i), t2, t3, t4, t5, t6, t7, t8, t9, t10, t11, t12, t13, t14, t15, t16, t17, t18] := by
  generalize hm : drawn (cell ns i) i = m
  have hc := law_cell_ok ns hn i
  obtain ⟨hk0, hkn, hk9⟩ := someK_ok (m / 64)
  have hso := law_some_ok (m / 64)
  have hk : (someK (m / 64)).length ≤ 100 := by omega
  generalize someK (m / 64) = ks at hso hk0 hkn hk
  have hru := law_rules_ok hk
  have d1 : nSet 2 (nCall (nArgs 2 (nCons (nCall (nArgs 2 (nCons (nGet 0) (nCons (nGet 1) nNil))) w__law_cell) (nCons (nGet 1) nNil))) w__law_drawn) [.dat (scrD ns), .dat (.int i), s2, s3, s4, s5, s6, s7, s8, s9, s10, s11, s12, s13, s14, s15, s16, s17, s18] = .nx [.dat (scrD ns), .dat (.int i), .dat (.int m), s3, s4, s5, s6, s7, s8, s9, s10, s11, s12, s13, s14, s15, s16, s17, s18] := by
    simp [hc, law_drawn_ok, hm]
  have d2 : nSet 3 (nCall (nArgs 1 (nCons (n2 (nGet 2) (nC (.int 64)) qDiv) nNil)) w__law_some) [.dat (scrD ns), .dat (.int i), .dat (.int m), s3, s4, s5, s6, s7, s8, s9, s10, s11, s12, s13, s14, s15, s16, s17, s18] = .nx [.dat (scrD ns), .dat (.int i), .dat (.int m), .dat (.list (ks.map Kd.d)), s4, s5, s6, s7, s8, s9, s10, s11, s12, s13, s14, s15, s16, s17, s18] := by
    simp [hso]
  have d3 : nSet 4 (nCall (nArgs 1 (nCons (nGet 3) nNil)) w__law_rules) [.dat (scrD ns), .dat (.int i), .dat (.int m), .dat (.list (ks.map Kd.d)), s4, s5, s6, s7, s8, s9, s10, s11, s12, s13, s14, s15, s16, s17, s18] = .nx [.dat (scrD ns), .dat (.int i), .dat (.int m), .dat (.list (ks.map Kd.d)), .dat (.list ((allRules ks).map Ru.d)), s5, s6, s7, s8, s9, s10, s11, s12, s13, s14, s15, s16, s17, s18] := by
    simp [hru]
  have d4 := l20_tab (.dat (scrD ns)) (.dat (.int i)) (.dat (.int m)) (.dat (.list (ks.map Kd.d))) s5 s6 s7 s8 s9 s10 s11 s12 s13 s14 s15 s16 s17 s18 hkn
  obtain ⟨t6, t7, a, ha, t9, t10, t11, t12, t13, d5⟩ := l20_3 (.dat (scrD ns)) (.dat (.int i)) s6 s7 s8 s9 s10 s11 s12 s13 s14 s15 s16 s17 s18 hk0 hkn hk m
  have d6 : nSet 14 (nCall (nCons (nGet 3) nNil) qList) [.dat (scrD ns), .dat (.int i), .dat (.int m), .dat (.list (ks.map Kd.d)), .dat (.list ((allRules ks).map Ru.d)), .tab Hs.hs (tabR (allRules ks)), t6, t7, .dat a.d, t9, t10, t11, t12, t13, s14, s15, s16, s17, s18] = .nx [.dat (scrD ns), .dat (.int i), .dat (.int m), .dat (.list (ks.map Kd.d)), .dat (.list ((allRules ks).map Ru.d)), .tab Hs.hs (tabR (allRules ks)), t6, t7, .dat a.d, t9, t10, t11, t12, t13, .dat (.list (ks.map Kd.d)), s15, s16, s17, s18] := by
    simp
  have d7 := l20_len (.dat (scrD ns)) (.dat (.int i)) (.dat (.int m)) (.dat (.list (ks.map Kd.d))) t6 t7 (.dat a.d) t9 t10 t11 t12 t13 (.dat (.list (ks.map Kd.d))) s15 s16 s17 s18 hkn
  have d8 : nIf (nOr (nB (n2 (nCall (nArgs 1 (nCons (nGet 3) nNil)) w_many_unlike) (nGet 15) qNe)) (nB (n2 (nGet 3) (nGet 14) qNe))) (nRet (nC (.bool false))) nNx [.dat (scrD ns), .dat (.int i), .dat (.int m), .dat (.list (ks.map Kd.d)), .dat (.list ((allRules ks).map Ru.d)), .tab Hs.hs (tabR (allRules ks)), t6, t7, .dat a.d, t9, t10, t11, t12, t13, .dat (.list (ks.map Kd.d)), .dat (.int ((lots (allRules ks)).length : Nat)), s16, s17, s18] = .nx [.dat (scrD ns), .dat (.int i), .dat (.int m), .dat (.list (ks.map Kd.d)), .dat (.list ((allRules ks).map Ru.d)), .tab Hs.hs (tabR (allRules ks)), t6, t7, .dat a.d, t9, t10, t11, t12, t13, .dat (.list (ks.map Kd.d)), .dat (.int ((lots (allRules ks)).length : Nat)), s16, s17, s18] := by
    have hmu := many_unlike_ok hk0 hkn hk
    have hne := (sh_kds (ks := ks)).neR
    generalize ks.map Kd.d = Z at hmu hne
    simp [hmu, hne]
  obtain ⟨t16, t17, d9⟩ := l20_4 (.dat (scrD ns)) (.dat (.int i)) (.dat (.int m)) (.dat (.list ((allRules ks).map Ru.d))) (.tab Hs.hs (tabR (allRules ks))) t6 t7 t9 t10 t11 t12 t13 (.dat (.list (ks.map Kd.d))) (.dat (.int ((lots (allRules ks)).length : Nat))) s16 s17 s18 hk0 hkn hk ha
  exact ⟨.dat (.int m), .dat (.list (ks.map Kd.d)), .dat (.list ((allRules ks).map Ru.d)), .tab Hs.hs (tabR (allRules ks)), t6, t7, .dat a.d, t9, t10, t11, t12, t13, .dat (.list (ks.map Kd.d)), .dat (.int ((lots (allRules ks)).length : Nat)), t16, t17, s18, by
    unfold law20
    rw [nSeq_c, d1, kS_nx, nSeq_c, d2, kS_nx, nSeq_c, d3, kS_nx, nSeq_c, d4, kS_nx, nSeq_c, d5, kS_nx, nSeq_c, d6, kS_nx, nSeq_c, d7, kS_nx, nSeq_c, d8, kS_nx, d9]⟩
theorem l20_5 {ns : List Int} (hn : ns.length ≤ 63) : ∃ ρ', ngs_law_5 [.dat (scrD ns), s1, s2, s3, s4, s5, s6, s7, s8, s9, s10, s11, s12, s13, s14, s15, s16, s17, s18] = .nx ρ' ∧ ρ' ≠ [] := by
  obtain ⟨ρ', e, t1, t2, t3, t4, t5, t6, t7, t8, t9, t10, t11, t12, t13, t14, t15, t16, t17, t18, hρ⟩ := forL_all (ft := bName 1) (gb := law20)
    (ds := rng 0 (if (if (ns.length : Int) < 3 then (ns.length : Int) else 3) > 1 then (if (ns.length : Int) < 3 then (ns.length : Int) else 3) else 1)) (ρ := [.dat (scrD ns), s1, s2, s3, s4, s5, s6, s7, s8, s9, s10, s11, s12, s13, s14, s15, s16, s17, s18])
    (fun ρ => ∃ t1 t2 t3 t4 t5 t6 t7 t8 t9 t10 t11 t12 t13 t14 t15 t16 t17 t18, ρ = [.dat (scrD ns), t1, t2, t3, t4, t5, t6, t7, t8, t9, t10, t11, t12, t13, t14, t15, t16, t17, t18]) ⟨s1, s2, s3, s4, s5, s6, s7, s8, s9, s10, s11, s12, s13, s14, s15, s16, s17, s18, rfl⟩ fun d hd ρ ⟨t1, t2, t3, t4, t5, t6, t7, t8, t9, t10, t11, t12, t13, t14, t15, t16, t17, t18, hρ⟩ => by
      subst hρ
      unfold rng at hd
      obtain ⟨i, _, rfl⟩ := List.mem_map.mp hd
      rw [Int.zero_add]
      obtain ⟨u2, u3, u4, u5, u6, u7, u8, u9, u10, u11, u12, u13, u14, u15, u16, u17, u18, e⟩ := body20 t2 t3 t4 t5 t6 t7 t8 t9 t10 t11 t12 t13 t14 t15 t16 t17 t18 hn i
      exact ⟨[(1, .int i)], _, rfl, e, .dat (.int i), u2, u3, u4, u5, u6, u7, u8, u9, u10, u11, u12, u13, u14, u15, u16, u17, u18, rfl⟩
  refine ⟨ρ', ?_, by rw [hρ]; simp⟩
  have l1 : (-1000000 : Int) ≤ (if (if (ns.length : Int) < 3 then (ns.length : Int) else 3) > 1 then (if (ns.length : Int) < 3 then (ns.length : Int) else 3) else 1) ∧ (if (if (ns.length : Int) < 3 then (ns.length : Int) else 3) > 1 then (if (ns.length : Int) < 3 then (ns.length : Int) else 3) else 1) ≤ 1000000 := by
    split <;> split <;> omega
  have l2 := qR1_ok (n := (if (if (ns.length : Int) < 3 then (ns.length : Int) else 3) > 1 then (if (ns.length : Int) < 3 then (ns.length : Int) else 3) else 1))
  rw [if_pos l1] at l2
  simp only [ngs_law_5, nFor_c, nR1_c, nCons_c, nCall_c, nC_c, nNil_c, nGet_z, kCons_ok, kR_ok, qLen_scr, qMin_2, qMax_2, l2, kFor_ok]
  exact e
theorem law_holds {ns : List Int} (hn : ns.length ≤ 63) : w_law [scrD ns] = .ok (.bool true) := by
  obtain ⟨ρ', e, h⟩ := l20_5 .no .no .no .no .no .no .no .no .no .no .no .no .no .no .no .no .no .no hn
  cases ρ' with
  | nil => exact (h rfl).elim
  | cons x ρ => simp [n_law, nRun_eq, ng_law, e]
end
end Py

theorem PySem.Challenge.cw_billrules_k20_whole_alike_holds : PySem.Challenge.rw_billrules_k20_whole_alike.Holds := by
  w_on; o_law
  exact Py.join Py.word_law fun ns h => Py.law_holds h
