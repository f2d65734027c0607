import PyProof.Rows.All
import Wide.All
import OpenK.AllK
import Wide.FinOn
import HandS.ForMost
import HandS.Defaults
import HandS.Exc
import HandS.More
import HandS.WordsExc
import HandS.Walk
import HandS.Zip
import HandS.IsInst
import HandS.Gcd
import HandS.Wide
import HandS.TupAny
import HandS.Flow
import HandS.Style
import HandS.DictTup
import HandS.Steps
import KE.GoesEnum
import KE.KDictPairs
import HandS.Text
import HandS.Head0
import HandS.Head1
import HandS.Head2
import HandS.Head3
import HandS.HeadEnd
import HandS.HeadHook1
import HandS.HeadHook2
import PySem.Challenge.RW_glidenames_k07_whole_maps_turned_moved_a
set_option Elab.async false
set_option linter.all false
set_option maxRecDepth 100000
set_option maxHeartbeats 0
/-! A layer of data over the hand layer: what a value is as data, apart from addresses; readings over data. -/
namespace DL
open PySem PySem.Spec PyProof.Rows L2

/-! ### data -/
inductive D where
  | non | bl (b : Bool) | int (i : Int) | str (x : Str) | tup (l : List D) | tz (l : List D) | lst (l : List D) | scr (l : List D)
  | dk (l : List (Str × D)) | dt (l : List (List Int × D))

/-- a tuple that stands in the frozen part, or in the written one -/
def TupAt (K : PySem.W.Frag) (F : Hp) (a : Addr) (xs : List V) : Prop :=
  F a = some (.tup xs) ∨ (∃ o, F a = some (.frz o (.tup xs))) ∨ ∃ (o : Obj) (its : Array Value) (n : Nat), K.lookup a = some o ∧ o.cls = .type "tuple" ∧ o.data = .seq its n ∧ its.size ≤ sizeLine ∧ Vals xs its.toList

/-- a list that is read alone -/
def ScrAt (K : PySem.W.Frag) (F : Hp) (a : Addr) (xs : List V) : Prop :=
  F a = some (.lst xs) ∨ (∃ o, F a = some (.frz o (.lst xs))) ∨ ∃ (o : Obj) (its : Array Value) (n : Nat), K.lookup a = some o ∧ o.cls = .type "list" ∧ o.dict = none ∧ o.data = .seq its n ∧ its.size ≤ sizeLine ∧ Vals xs its.toList
/-- what a value is as data, by the frozen part F of the heap -/
inductive Is (K : PySem.W.Frag) (F : Hp) : V → D → Prop
  | non : Is K F .non .non
  | bl (b : Bool) : Is K F (.bl b) (.bl b)
  | int (i : Int) : Is K F (.int i) (.int i)
  | str (x : Str) : Is K F (.str x) (.str x)
  | tup {a : Addr} {xs : List V} {ds : List D} (h : TupAt K F a xs) (hl : xs.length = ds.length) (hi : ∀ (i : Nat) (x : V) (d : D), xs[i]? = some x → ds[i]? = some d → Is K F x d) : Is K F (.ref a) (.tup ds)
  | tz {a : Addr} {xs : List V} {ds : List D} {o : Obj} (h : F a = some (.frz o (.tup xs))) (hc : o.cls = .type "tuple") (hd : o.dict = none) (hl : xs.length = ds.length) (hi : ∀ (i : Nat) (x : V) (d : D), xs[i]? = some x → ds[i]? = some d → Is K F x d) : Is K F (.ref a) (.tz ds)
  | scr {a : Addr} {xs : List V} {ds : List D} (h : ScrAt K F a xs) (hl : xs.length = ds.length) (hi : ∀ (i : Nat) (x : V) (d : D), xs[i]? = some x → ds[i]? = some d → Is K F x d) : Is K F (.ref a) (.scr ds)
  | lst {a : Addr} {xs : List V} {ds : List D} (h : F a = some (.lst xs)) (hl : xs.length = ds.length) (hi : ∀ (i : Nat) (x : V) (d : D), xs[i]? = some x → ds[i]? = some d → Is K F x d) : Is K F (.ref a) (.lst ds)
  | dk {a : Addr} {kvs : List (Key × V)} {ds : List (Str × D)} (h : F a = some (.dK kvs)) (hk : kvs.map (·.1) = ds.map (fun q => Sum.inr q.1)) (hi : ∀ (i : Nat) (x : Key × V) (d : Str × D), kvs[i]? = some x → ds[i]? = some d → Is K F x.2 d.2) : Is K F (.ref a) (.dk ds)
  | dt {a : Addr} {kvs : List (List Key × V)} {ds : List (List Int × D)} (h : F a = some (.dT kvs)) (hk : kvs.map (·.1) = ds.map (fun q => q.1.map Sum.inl)) (hi : ∀ (i : Nat) (x : List Key × V) (d : List Int × D), kvs[i]? = some x → ds[i]? = some d → Is K F x.2 d.2) : Is K F (.ref a) (.dt ds)

/-- item by item -/
def Iss (K : PySem.W.Frag) (F : Hp) (xs : List V) (ds : List D) : Prop := xs.length = ds.length ∧ ∀ (i : Nat) (x : V) (d : D), xs[i]? = some x → ds[i]? = some d → Is K F x d

section
variable {K : PySem.W.Frag} {F F' : Hp}
theorem TupAt.mono (e : Same F F') {a : Addr} {xs : List V} (h : TupAt K F a xs) : TupAt K F' a xs := by
  rcases h with h | ⟨o, h⟩ | h
  · exact .inl (e _ _ h)
  · exact .inr (.inl ⟨o, e _ _ h⟩)
  · exact .inr (.inr h)
theorem ScrAt.mono (e : Same F F') {a : Addr} {xs : List V} (h : ScrAt K F a xs) : ScrAt K F' a xs := by
  rcases h with h | ⟨o, h⟩ | h
  · exact .inl (e _ _ h)
  · exact .inr (.inl ⟨o, e _ _ h⟩)
  · exact .inr (.inr h)
theorem ScrAt.sql (e : Same F F') {a : Addr} {xs : List V} (h : ScrAt K F a xs) : SqL K F' a xs := by
  rcases h with h | ⟨o, h⟩ | h
  · exact .inl (.inl (e _ _ h))
  · exact .inl (.inr ⟨o, e _ _ h⟩)
  · exact .inr h
theorem Is.mono (e : Same F F') {v : V} {d : D} (h : Is K F v d) : Is K F' v d := by
  induction h with
  | non => exact .non
  | bl b => exact .bl b
  | int i => exact .int i
  | str x => exact .str x
  | tup h hl _ ih => exact .tup (h.mono e) hl ih
  | tz h hc hd hl _ ih => exact .tz (e _ _ h) hc hd hl ih
  | scr h hl _ ih => exact .scr (h.mono e) hl ih
  | lst h hl _ ih => exact .lst (e _ _ h) hl ih
  | dk h hk _ ih => exact .dk (e _ _ h) hk ih
  | dt h hk _ ih => exact .dt (e _ _ h) hk ih
theorem Iss.mono (e : Same F F') {xs : List V} {ds : List D} (h : Iss K F xs ds) : Iss K F' xs ds := ⟨h.1, fun i x d h1 h2 => (h.2 i x d h1 h2).mono e⟩
theorem Iss.nil : Iss K F [] [] := ⟨rfl, fun i x d h _ => by simp at h⟩
theorem Iss.cons {v : V} {d : D} {xs : List V} {ds : List D} (h : Is K F v d) (t : Iss K F xs ds) : Iss K F (v :: xs) (d :: ds) := by
  refine ⟨by simp [t.1], fun i x e h1 h2 => ?_⟩
  cases i with
  | zero =>
    have e1 : v = x := Option.some.inj h1
    have e2 : d = e := Option.some.inj h2
    rw [← e1, ← e2]
    exact h
  | succ i => exact t.2 i x e (by simpa using h1) (by simpa using h2)
theorem Iss.snoc {v : V} {d : D} {xs : List V} {ds : List D} (t : Iss K F xs ds) (h : Is K F v d) : Iss K F (xs ++ [v]) (ds ++ [d]) := by
  refine ⟨by simp [t.1], fun i x e h1 h2 => ?_⟩
  by_cases hi : i < xs.length
  · rw [List.getElem?_append_left hi] at h1
    rw [List.getElem?_append_left (by rw [← t.1]; exact hi)] at h2
    exact t.2 i x e h1 h2
  · rw [List.getElem?_append_right (by omega)] at h1
    rw [List.getElem?_append_right (by rw [← t.1]; omega), ← t.1] at h2
    by_cases hz : i - xs.length = 0
    · rw [hz] at h1 h2
      have e1 : v = x := Option.some.inj h1
      have e2 : d = e := Option.some.inj h2
      rw [← e1, ← e2]
      exact h
    · rw [List.getElem?_eq_none (by simp; omega)] at h1
      cases h1
theorem Iss.append {xs ys : List V} {ds es : List D} (t : Iss K F xs ds) (u : Iss K F ys es) : Iss K F (xs ++ ys) (ds ++ es) := by
  refine ⟨by simp [t.1, u.1], fun i x e h1 h2 => ?_⟩
  by_cases hi : i < xs.length
  · rw [List.getElem?_append_left hi] at h1
    rw [List.getElem?_append_left (by rw [← t.1]; exact hi)] at h2
    exact t.2 i x e h1 h2
  · rw [List.getElem?_append_right (by omega)] at h1
    rw [List.getElem?_append_right (by rw [← t.1]; omega), ← t.1] at h2
    exact u.2 _ x e h1 h2
theorem Iss.head {v : V} {xs : List V} {ds : List D} (h : Iss K F (v :: xs) ds) : ∃ d es, ds = d :: es ∧ Is K F v d ∧ Iss K F xs es := by
  cases ds with
  | nil => exact absurd h.1 (by simp)
  | cons d es => exact ⟨d, es, rfl, h.2 0 v d rfl rfl, by simpa using h.1, fun i x e h1 h2 => h.2 (i + 1) x e (by simpa using h1) (by simpa using h2)⟩
theorem Iss.headD {d : D} {xs : List V} {ds : List D} (h : Iss K F xs (d :: ds)) : ∃ v ys, xs = v :: ys ∧ Is K F v d ∧ Iss K F ys ds := by
  cases xs with
  | nil => exact absurd h.1 (by simp)
  | cons v ys => exact ⟨v, ys, rfl, h.2 0 v d rfl rfl, by simpa using h.1, fun i x e h1 h2 => h.2 (i + 1) x e (by simpa using h1) (by simpa using h2)⟩
theorem Iss.nilD {xs : List V} (h : Iss K F xs []) : xs = [] := by
  cases xs with
  | nil => rfl
  | cons v ys => exact absurd h.1 (by simp)
theorem Iss.take (n : Nat) {xs : List V} {ds : List D} (h : Iss K F xs ds) : Iss K F (xs.take n) (ds.take n) := by
  refine ⟨by simp [h.1], fun i x e h1 h2 => ?_⟩
  rw [List.getElem?_take] at h1 h2
  split at h1
  · rename_i hi
    rw [if_pos hi] at h2
    exact h.2 i x e h1 h2
  · cases h1
theorem Iss.drop (n : Nat) {xs : List V} {ds : List D} (h : Iss K F xs ds) : Iss K F (xs.drop n) (ds.drop n) := by
  refine ⟨by simp [h.1], fun i x e h1 h2 => ?_⟩
  rw [List.getElem?_drop] at h1 h2
  exact h.2 _ x e h1 h2
theorem Iss.get {xs : List V} {ds : List D} (h : Iss K F xs ds) {i : Nat} {d : D} (e : ds[i]? = some d) : ∃ v, xs[i]? = some v ∧ Is K F v d := by
  have hi : i < ds.length := (List.getElem?_eq_some_iff.mp e).1
  have hx : i < xs.length := by rw [h.1]; exact hi
  exact ⟨xs[i], List.getElem?_eq_getElem hx, h.2 i _ d (List.getElem?_eq_getElem hx) e⟩
theorem Iss.reverse {xs : List V} {ds : List D} (h : Iss K F xs ds) : Iss K F xs.reverse ds.reverse := by
  refine ⟨by simp [h.1], fun i x e h1 h2 => ?_⟩
  have hi : i < xs.length := by have := (List.getElem?_eq_some_iff.mp h1).1; simpa using this
  rw [List.getElem?_reverse hi] at h1
  rw [List.getElem?_reverse (by rw [← h.1]; exact hi), ← h.1] at h2
  exact h.2 _ x e h1 h2
/-- ints, texts, bools as data -/
theorem Iss.ints : ∀ {ns : List Int} {xs : List V}, Iss K F xs (ns.map D.int) → xs = ns.map V.int
  | [], xs, h => h.nilD
  | n :: ns, xs, h => by
    obtain ⟨v, ys, rfl, hv, ht⟩ := h.headD
    cases hv
    rw [Iss.ints ht]
    rfl
theorem Iss.bls : ∀ {ns : List Bool} {xs : List V}, Iss K F xs (ns.map D.bl) → xs = ns.map V.bl
  | [], xs, h => h.nilD
  | n :: ns, xs, h => by
    obtain ⟨v, ys, rfl, hv, ht⟩ := h.headD
    cases hv
    rw [Iss.bls ht]
    rfl
theorem Iss.strs : ∀ {ns : List Str} {xs : List V}, Iss K F xs (ns.map D.str) → xs = ns.map V.str
  | [], xs, h => h.nilD
  | n :: ns, xs, h => by
    obtain ⟨v, ys, rfl, hv, ht⟩ := h.headD
    cases hv
    rw [Iss.strs ht]
    rfl
theorem TupAt.sqt {H : Hp} (e : Same F H) {a : Addr} {xs : List V} (h : TupAt K F a xs) : SqT K H a xs := by
  rcases h with h | ⟨o, h⟩ | h
  · exact .inl (.inl (e _ _ h))
  · exact .inl (.inr ⟨o, e _ _ h⟩)
  · exact .inr h
theorem Is.untz {v : V} {ds : List D} (h : Is K F v (.tz ds)) : Is K F v (.tup ds) := by
  cases h with
  | tz h hc hd hl hi => exact .tup (.inr (.inl ⟨_, h⟩)) hl hi
end

/-! ### steps -/
/-- from the frozen part F of H to F' of H': what was tracked is as it was but at t; the new frozen things are new -/
structure Step (t : Option Addr) (F H F' H' : Hp) : Prop where
  le : Same F F'
  ex : ∀ a o, some a ≠ t → H a = some o → H' a = some o
  sub : Same F' H'
  fr : ∀ a, F a = none → H a ≠ none → F' a = none
  there : ∀ a, H a ≠ none → H' a ≠ none
section
variable {t : Option Addr} {F H F1 H1 F2 H2 : Hp}
theorem Step.refl (h : Same F H) : Step t F H F H := ⟨Same.refl F, fun _ _ _ e => e, h, fun _ e _ => e, fun _ e => e⟩
theorem Step.trans (a : Step t F H F1 H1) (b : Step t F1 H1 F2 H2) : Step t F H F2 H2 :=
  ⟨a.le.trans b.le, fun c o n e => b.ex c o n (a.ex c o n e), b.sub, fun c e n => b.fr c (a.fr c e n) (a.there c n), fun c n => b.there c (a.there c n)⟩
theorem Step.weak (a : Step none F H F1 H1) : Step t F H F1 H1 := ⟨a.le, fun c o _ e => a.ex c o (fun z => nomatch z) e, a.sub, a.fr, a.there⟩
theorem Step.same (a : Step none F H F1 H1) : Same H H1 := fun c o e => a.ex c o (fun z => nomatch z) e
theorem same_upd {H : Hp} {p : Addr} {o : HO} (h : H p = none) : Same H (upd H p o) := fun b x e => by
  rw [upd_ne (ne_of_none e h)]
  exact e
theorem upd_there {H : Hp} {p a : Addr} {o : HO} (h : H a ≠ none) : upd H p o a ≠ none := by
  unfold upd
  split
  · exact fun z => nomatch z
  · exact h
/-- a new object, frozen at once -/
theorem Step.frz (h : Same F H) {p : Addr} {o : HO} (hp : H p = none) : Step none F H (upd F p o) (upd H p o) := by
  have hf : F p = none := h.free hp
  refine ⟨same_upd hf, fun a u _ e => same_upd hp a u e, fun a u e => ?_, fun a e n => ?_, fun a n => upd_there n⟩
  · by_cases z : a = p
    · subst z
      rw [upd_same] at e ⊢
      exact e
    · rw [upd_ne z] at e ⊢
      exact h a u e
  · have z : a ≠ p := fun z => n (z ▸ hp)
    rw [upd_ne z]
    exact e
/-- a new object that may change later -/
theorem Step.new (h : Same F H) {p : Addr} {o : HO} (hp : H p = none) : Step none F H F (upd H p o) :=
  ⟨Same.refl F, fun a u _ e => same_upd hp a u e, h.trans (same_upd hp), fun a e _ => e, fun a n => upd_there n⟩
end

/-! ### the source of draws -/
def TinB (n : Nat) (y z : Int) : Prop := 0 ≤ y ∧ y < 2 ^ 62 ∧ 0 ≤ z ∧ z ≤ (n : Int)
def TinOk (t : Option Addr) (F H : Hp) (n : Nat) : Prop := match t with
  | none => True
  | some a => F a = none ∧ ∃ x y z : Int, H a = some (.lst [.int x, .int y, .int z]) ∧ TinB n y z
theorem TinOk.step0 {t : Option Addr} {F H F1 H1 : Hp} {n : Nat} (h : TinOk t F H n) (s : Step none F H F1 H1) : TinOk t F1 H1 n := by
  cases t with
  | none => trivial
  | some a =>
    obtain ⟨h1, x, y, z, h2, h3⟩ := h
    exact ⟨s.fr a h1 (by rw [h2]; exact fun q => nomatch q), x, y, z, s.same a _ h2, h3⟩
theorem TinOk.mono {t : Option Addr} {F H : Hp} {n m : Nat} (h : TinOk t F H n) (l : n ≤ m) : TinOk t F H m := by
  cases t with
  | none => trivial
  | some a =>
    obtain ⟨h1, x, y, z, h2, b1, b2, b3, b4⟩ := h
    exact ⟨h1, x, y, z, h2, b1, b2, b3, by omega⟩

/-! ### slots -/
inductive Slot where
  | no | d (d : D) | own (l : List D) | ownD (l : List (List Int × D)) | tin
def isOwn : Slot → Bool
  | .own _ => true
  | _ => false
/-- where a def's run stands: the source of draws, the frozen part and the heap at its entry -/
structure Ct where
  t : Option Addr
  F : Hp
  H : Hp
/-- a value by its kind; Hs: a heap from before it, of which an own thing is not -/
def ArgOk (K : PySem.W.Frag) (t : Option Addr) (Hs F H : Hp) (v : V) : Slot → Prop
  | .no => True
  | .d x => Is K F v x
  | .own l => ∃ a xs, v = .ref a ∧ Hs a = none ∧ F a = none ∧ some a ≠ t ∧ H a = some (.lst xs) ∧ Iss K F xs l
  | .ownD l => ∃ a kvs, v = .ref a ∧ Hs a = none ∧ F a = none ∧ some a ≠ t ∧ H a = some (.dT kvs) ∧ kvs.map (·.1) = l.map (fun q => q.1.map Sum.inl) ∧ ∀ (i : Nat) (x : List Key × V) (d : List Int × D), kvs[i]? = some x → l[i]? = some d → Is K F x.2 d.2
  | .tin => ∃ a, v = .ref a ∧ t = some a
def SlotOk (K : PySem.W.Frag) (t : Option Addr) (Hs F H : Hp) (v : Option V) (s : Slot) : Prop := s = .no ∨ ∃ w, v = some w ∧ ArgOk K t Hs F H w s
structure Sat (K : PySem.W.Frag) (c : Ct) (F H : Hp) (σ : L2.St) (ρ : List Slot) (n : Nat) : Prop where
  st : Step c.t c.F c.H F H
  tin : TinOk c.t F H n
  len : σ.length = ρ.length
  sl : ∀ (i : Nat) (s : Slot), ρ[i]? = some s → SlotOk K c.t c.H F H ((σ[i]?).getD none) s
  dis : ∀ (i j : Nat) (l m : List D) (a : Addr), i ≠ j → ρ[i]? = some (.own l) → ρ[j]? = some (.own m) → σ[i]? = some (some (.ref a)) → σ[j]? = some (some (.ref a)) → False
section
variable {K : PySem.W.Frag} {c : Ct} {t : Option Addr} {Hs F H F1 H1 : Hp} {σ : L2.St} {ρ : List Slot} {n m : Nat} {v : V} {s : Slot}
theorem ArgOk.step (h : ArgOk K t Hs F H v s) (st : Step t F H F1 H1) : ArgOk K t Hs F1 H1 v s := by
  cases s with
  | no => trivial
  | d x => exact Is.mono st.le (show Is K F v x from h)
  | own l =>
    obtain ⟨a, xs, e, h0, hf, ht, hh, hi⟩ := h
    exact ⟨a, xs, e, h0, st.fr a hf (by rw [hh]; exact fun q => nomatch q), ht, st.ex a _ ht hh, hi.mono st.le⟩
  | ownD l =>
    obtain ⟨a, xs, e, h0, hf, ht, hh, hk, hi⟩ := h
    exact ⟨a, xs, e, h0, st.fr a hf (by rw [hh]; exact fun q => nomatch q), ht, st.ex a _ ht hh, hk, fun i x d e1 e2 => (hi i x d e1 e2).mono st.le⟩
  | tin => exact h
theorem SlotOk.step {v : Option V} (h : SlotOk K t Hs F H v s) (st : Step t F H F1 H1) : SlotOk K t Hs F1 H1 v s := by
  rcases h with h | ⟨w, e, h⟩
  · exact .inl h
  · exact .inr ⟨w, e, h.step st⟩
theorem Sat.step (S : Sat K c F H σ ρ n) (st : Step c.t F H F1 H1) (ti : TinOk c.t F1 H1 m) : Sat K c F1 H1 σ ρ m :=
  ⟨S.st.trans st, ti, S.len, fun i s e => (S.sl i s e).step st, S.dis⟩
theorem Sat.step0 (S : Sat K c F H σ ρ n) (st : Step none F H F1 H1) : Sat K c F1 H1 σ ρ n := S.step st.weak (S.tin.step0 st)
theorem Sat.sub (S : Sat K c F H σ ρ n) : Same F H := S.st.sub
theorem Sat.get (S : Sat K c F H σ ρ n) {i : Nat} {x : D} (e : ρ[i]? = some (.d x)) : ∃ w, σ[i]? = some (some w) ∧ Is K F w x := by
  rcases S.sl i _ e with h | ⟨w, e1, h⟩
  · cases h
  · refine ⟨w, ?_, h⟩
    cases q : σ[i]? with
    | none => rw [q] at e1; cases e1
    | some z => rw [q] at e1; exact congrArg some e1
theorem Sat.getTin (S : Sat K c F H σ ρ n) {i : Nat} (e : ρ[i]? = some .tin) : ∃ a, σ[i]? = some (some (.ref a)) ∧ c.t = some a := by
  rcases S.sl i _ e with h | ⟨w, e1, a, rfl, h⟩
  · cases h
  · refine ⟨a, ?_, h⟩
    cases q : σ[i]? with
    | none => rw [q] at e1; cases e1
    | some z => rw [q] at e1; exact congrArg some e1
theorem Sat.getOwn (S : Sat K c F H σ ρ n) {i : Nat} {l : List D} (e : ρ[i]? = some (.own l)) : ∃ a xs, σ[i]? = some (some (.ref a)) ∧ c.H a = none ∧ F a = none ∧ some a ≠ c.t ∧ H a = some (.lst xs) ∧ Iss K F xs l := by
  rcases S.sl i _ e with h | ⟨w, e1, a, xs, rfl, h⟩
  · cases h
  · refine ⟨a, xs, ?_, h⟩
    cases q : σ[i]? with
    | none => rw [q] at e1; cases e1
    | some z => rw [q] at e1; exact congrArg some e1
/-- a value is stored; of an own thing: it is in no other slot -/
theorem Sat.set (S : Sat K c F H σ ρ n) {i : Nat} (h : ArgOk K c.t c.H F H v s) (ho : ∀ l a, s = .own l → v = .ref a → ∀ (j : Nat) (m : List D), j ≠ i → ρ[j]? = some (.own m) → σ[j]? ≠ some (some (.ref a))) :
    Sat K c F H (σ.set i (some v)) (ρ.set i s) n := by
  refine ⟨S.st, S.tin, by simp [S.len], fun j s' e => ?_, fun j k l m a hjk e1 e2 e3 e4 => ?_⟩
  · by_cases hj : i = j
    · subst hj
      have hl : i < ρ.length := by have := (List.getElem?_eq_some_iff.mp e).1; simpa using this
      rw [List.getElem?_set_self hl] at e
      cases e
      rw [List.getElem?_set_self (by rw [S.len]; exact hl)]
      exact .inr ⟨v, rfl, h⟩
    · rw [List.getElem?_set_ne hj] at e ⊢
      exact S.sl j s' e
  · by_cases hj : i = j
    · subst hj
      rw [List.getElem?_set_ne hjk] at e2 e4
      have hl : i < ρ.length := by have := (List.getElem?_eq_some_iff.mp e1).1; simpa using this
      rw [List.getElem?_set_self hl] at e1
      rw [List.getElem?_set_self (by rw [S.len]; exact hl)] at e3
      cases e1
      cases e3
      exact ho l a rfl rfl k m (Ne.symm hjk) e2 e4
    · by_cases hk : i = k
      · subst hk
        rw [List.getElem?_set_ne hj] at e1 e3
        have hl : i < ρ.length := by have := (List.getElem?_eq_some_iff.mp e2).1; simpa using this
        rw [List.getElem?_set_self hl] at e2
        rw [List.getElem?_set_self (by rw [S.len]; exact hl)] at e4
        cases e2
        cases e4
        exact ho m a rfl rfl j l hjk e1 e3
      · rw [List.getElem?_set_ne hj] at e1 e3
        rw [List.getElem?_set_ne hk] at e2 e4
        exact S.dis j k l m a hjk e1 e2 e3 e4
theorem Sat.setD (S : Sat K c F H σ ρ n) {i : Nat} {x : D} (h : Is K F v x) : Sat K c F H (σ.set i (some v)) (ρ.set i (.d x)) n := S.set h fun _ _ z => nomatch z
/-- a slot is forgotten -/
theorem Sat.forget (S : Sat K c F H σ ρ n) (i : Nat) (v : Option V) : Sat K c F H (σ.set i v) (ρ.set i .no) n := by
  refine ⟨S.st, S.tin, by simp [S.len], fun j s' e => ?_, fun j k l m a hjk e1 e2 e3 e4 => ?_⟩
  · by_cases hj : i = j
    · subst hj
      have hl : i < ρ.length := by have := (List.getElem?_eq_some_iff.mp e).1; simpa using this
      rw [List.getElem?_set_self hl] at e
      cases e
      exact .inl rfl
    · rw [List.getElem?_set_ne hj] at e ⊢
      exact S.sl j s' e
  · have ni : ∀ (j : Nat) (l : List D), (ρ.set i Slot.no)[j]? = some (.own l) → i ≠ j ∧ ρ[j]? = some (.own l) := fun j l e => by
      by_cases hj : i = j
      · subst hj
        have hl : i < ρ.length := by have := (List.getElem?_eq_some_iff.mp e).1; simpa using this
        rw [List.getElem?_set_self hl] at e
        cases e
      · rw [List.getElem?_set_ne hj] at e
        exact ⟨hj, e⟩
    obtain ⟨n1, e1⟩ := ni j l e1
    obtain ⟨n2, e2⟩ := ni k m e2
    rw [List.getElem?_set_ne n1] at e3
    rw [List.getElem?_set_ne n2] at e4
    exact S.dis j k l m a hjk e1 e2 e3 e4
/-- an own list is frozen -/
theorem Sat.freeze (S : Sat K c F H σ ρ n) {i : Nat} {l : List D} (e : ρ[i]? = some (.own l)) : ∃ F', Same F F' ∧ Sat K c F' H σ (ρ.set i (.d (.lst l))) n := by
  obtain ⟨a, xs, e1, h0, hf, ht, hh, hi⟩ := S.getOwn e
  have le : Same F (upd F a (.lst xs)) := same_upd hf
  refine ⟨upd F a (.lst xs), le, ⟨S.st.le.trans le, S.st.ex, fun b o q => ?_, fun b q r => ?_, S.st.there⟩, ?_, by simp [S.len], fun j s' q => ?_, fun j k l' m b hjk q1 q2 q3 q4 => ?_⟩
  · by_cases z : b = a
    · subst z
      rw [upd_same] at q
      cases q
      exact hh
    · rw [upd_ne z] at q
      exact S.sub b o q
  · have z : b ≠ a := fun z => r (z ▸ h0)
    rw [upd_ne z]
    exact S.st.fr b q r
  · have ti := S.tin
    cases hc : c.t with
    | none => trivial
    | some b =>
      rw [hc] at ti ht
      obtain ⟨t1, t2⟩ := ti
      have z : b ≠ a := fun z => ht (congrArg some z.symm)
      exact ⟨by rw [upd_ne z]; exact t1, t2⟩
  · have hl : i < ρ.length := (List.getElem?_eq_some_iff.mp e).1
    by_cases hj : i = j
    · subst hj
      rw [List.getElem?_set_self hl] at q
      cases q
      rw [e1]
      exact .inr ⟨_, rfl, Is.lst upd_same hi.1 fun k x d r1 r2 => (hi.2 k x d r1 r2).mono le⟩
    · rw [List.getElem?_set_ne hj] at q
      rcases S.sl j s' q with r | ⟨w, r1, r2⟩
      · exact .inl r
      · refine .inr ⟨w, r1, ?_⟩
        cases s' with
        | no => trivial
        | d x => exact Is.mono le (show Is K F w x from r2)
        | own l' =>
          obtain ⟨b, ys, rfl, b0, bf, bt, bh, bi⟩ := r2
          have ej : σ[j]? = some (some (.ref b)) := by
            cases z : σ[j]? with
            | none => rw [z] at r1; cases r1
            | some y => rw [z] at r1; exact congrArg some r1
          have z : b ≠ a := fun z => S.dis i j l l' a hj e q e1 (z ▸ ej)
          exact ⟨b, ys, rfl, b0, by rw [upd_ne z]; exact bf, bt, bh, bi.mono le⟩
        | ownD l' =>
          obtain ⟨b, ys, rfl, b0, bf, bt, bh, bk, bi⟩ := r2
          have z : b ≠ a := fun z => by rw [z, hh] at bh; cases bh
          exact ⟨b, ys, rfl, b0, by rw [upd_ne z]; exact bf, bt, bh, bk, fun i x d e1 e2 => (bi i x d e1 e2).mono le⟩
        | tin => exact r2
  · have ni : ∀ (j : Nat) (l' : List D), (ρ.set i (Slot.d (.lst l)))[j]? = some (.own l') → ρ[j]? = some (.own l') := fun j l' e => by
      by_cases hj : i = j
      · subst hj
        have hl : i < ρ.length := by have := (List.getElem?_eq_some_iff.mp e).1; simpa using this
        rw [List.getElem?_set_self hl] at e
        cases e
      · rw [List.getElem?_set_ne hj] at e
        exact e
    exact S.dis j k l' m b hjk (ni j l' q1) (ni k m q2) q3 q4
/-- an own list is changed: another list of data -/
theorem Sat.write (S : Sat K c F H σ ρ n) {i : Nat} {l l' : List D} {a : Addr} {ys : List V} (e : ρ[i]? = some (.own l)) (ea : σ[i]? = some (some (.ref a))) (hy : Iss K F ys l') : Sat K c F (upd H a (.lst ys)) σ (ρ.set i (.own l')) n := by
  obtain ⟨a', xs, e1, h0, hf, ht, hh, hi⟩ := S.getOwn e
  rw [ea] at e1
  cases e1
  refine ⟨⟨S.st.le, fun b o q r => ?_, fun b o q => ?_, S.st.fr, fun b r => upd_there (S.st.there b r)⟩, ?_, by simp [S.len], fun j s' q => ?_, fun j k l1 m b hjk q1 q2 q3 q4 => ?_⟩
  · have z : b ≠ a := fun z => by rw [z, h0] at r; cases r
    rw [upd_ne z]
    exact S.st.ex b o q r
  · have z : b ≠ a := fun z => by rw [z, hf] at q; cases q
    rw [upd_ne z]
    exact S.sub b o q
  · have ti := S.tin
    cases hc : c.t with
    | none => trivial
    | some b =>
      rw [hc] at ti ht
      obtain ⟨t1, x, y, w, t2, t3⟩ := ti
      have z : b ≠ a := fun z => ht (congrArg some z.symm)
      exact ⟨t1, x, y, w, by rw [upd_ne z]; exact t2, t3⟩
  · have hl : i < ρ.length := (List.getElem?_eq_some_iff.mp e).1
    by_cases hj : i = j
    · subst hj
      rw [List.getElem?_set_self hl] at q
      cases q
      rw [ea]
      exact .inr ⟨_, rfl, a, ys, rfl, h0, hf, ht, upd_same, hy⟩
    · rw [List.getElem?_set_ne hj] at q
      rcases S.sl j s' q with r | ⟨w, r1, r2⟩
      · exact .inl r
      · refine .inr ⟨w, r1, ?_⟩
        cases s' with
        | no => trivial
        | d x => exact r2
        | own l1 =>
          obtain ⟨b, zs, rfl, b0, bf, bt, bh, bi⟩ := r2
          have ej : σ[j]? = some (some (.ref b)) := by
            cases z : σ[j]? with
            | none => rw [z] at r1; cases r1
            | some y => rw [z] at r1; exact congrArg some r1
          have z : b ≠ a := fun z => S.dis i j l l1 a hj e q ea (z ▸ ej)
          exact ⟨b, zs, rfl, b0, bf, bt, by rw [upd_ne z]; exact bh, bi⟩
        | ownD l1 =>
          obtain ⟨b, zs, rfl, b0, bf, bt, bh, bk, bi⟩ := r2
          have z : b ≠ a := fun z => by rw [z, hh] at bh; cases bh
          exact ⟨b, zs, rfl, b0, bf, bt, by rw [upd_ne z]; exact bh, bk, bi⟩
        | tin => exact r2
  · have ni : ∀ (j : Nat) (l1 : List D), (ρ.set i (Slot.own l'))[j]? = some (.own l1) → ∃ l2, ρ[j]? = some (.own l2) := fun j l1 q => by
      by_cases hj : i = j
      · subst hj
        exact ⟨l, e⟩
      · rw [List.getElem?_set_ne hj] at q
        exact ⟨l1, q⟩
    obtain ⟨l2, p1⟩ := ni j l1 q1
    obtain ⟨m2, p2⟩ := ni k m q2
    exact S.dis j k l2 m2 b hjk p1 p2 q3 q4
end
end DL

/-! Three constructs that the hand layer does not carry: t[::-1] of a tuple, enumerate over a tuple, a for over a list or a tuple. -/
namespace RW
open PySem PySem.Spec PyProof.Rows L2 HT

/-! ### t[::-1] -/
theorem pick_rev (xs : Array Value) : ((List.range xs.size).filterMap fun (k : Nat) => xs[(((xs.size : Int) - 1) + (k : Int) * (-1)).toNat]?).toArray = xs.toList.reverse.toArray := by
  congr 1
  apply List.ext_getElem?
  intro i
  have e : (fun (k : Nat) => xs[(((xs.size : Int) - 1) + (k : Int) * (-1)).toNat]?) = fun (k : Nat) => xs[((xs.size : Int) - 1 - (k : Int)).toNat]? := by
    funext k
    have : (((xs.size : Int) - 1) + (k : Int) * (-1)) = (xs.size : Int) - 1 - (k : Int) := by omega
    rw [this]
  rw [e]
  have e2 : (List.range xs.size).filterMap (fun (k : Nat) => xs[((xs.size : Int) - 1 - (k : Int)).toNat]?) = (List.range xs.size).map (fun k => xs.getD (xs.size - 1 - k) .none) := by
    have : ∀ (l : List Nat), (∀ k ∈ l, k < xs.size) → l.filterMap (fun (k : Nat) => xs[((xs.size : Int) - 1 - (k : Int)).toNat]?) = l.map (fun k => xs.getD (xs.size - 1 - k) .none) := by
      intro l
      induction l with
      | nil => intro _; rfl
      | cons k r ih =>
        intro h
        have hk := h k List.mem_cons_self
        have ez : ((xs.size : Int) - 1 - (k : Int)).toNat = xs.size - 1 - k := by omega
        have hlt : xs.size - 1 - k < xs.size := by omega
        rw [List.filterMap_cons, ez, List.map_cons, ih fun j hj => h j (List.mem_cons_of_mem _ hj)]
        rw [Array.getElem?_eq_getElem hlt]
        simp [Array.getD, hlt]
    exact this _ fun k hk => List.mem_range.mp hk
  rw [e2]
  by_cases hi : i < xs.size
  · rw [List.getElem?_map, List.getElem?_range hi, List.getElem?_reverse (by simpa using hi)]
    have hlt : xs.size - 1 - i < xs.size := by omega
    simp [Array.getD, hlt]
  · rw [List.getElem?_eq_none (by simp; omega), List.getElem?_eq_none (by simp; omega)]
section
variable {prog : Program} {w : World} {A : Around} {E : Value → Shared → Prop} {s : Shared}
theorem sliceApplied_rev {sl : Addr} {n : Nat} {u : Tok} {Q : Int × Int × Nat → Shared → Prop} (hs : s.heap.IsSliceOf sl .none .none (.int (-1) u)) (h : Q ((n : Int) - 1, -1, n) s) :
    wpAny (model prog w) A (Builtin.Slice.sliceApplied (.ref sl) (pure (n : Int))) Q E s := by
  obtain ⟨os, hos, hcs, hds⟩ := id hs
  unfold Builtin.Slice.sliceApplied Builtin.Slice.sliceFields
  refine wpAny_bind (wpAny_bind (wpAny_field hos hds (x := .none) rfl (wpAny_bind (wpAny_field hos hds (x := .none) rfl (wpAny_bind (wpAny_field hos hds (x := .int (-1) u) rfl (wpAny_pure ?_)))))))
  refine wpAny_bind (slicePart_int ?_)
  show wpAny _ _ (if ((-1 : Int) == 0) = true then _ else _) _ _ s
  rw [if_neg (by decide)]
  refine wpAny_bind (slicePart_none (wpAny_bind (slicePart_none (wpAny_bind (wpAny_pure ?_)))))
  show wpAny _ _ (match Builtin.Slice.sliceAdjust none none (-1) (n : Int) with | (lo, hi) => pure (lo, (-1 : Int), Builtin.Slice.slicePlaces lo hi (-1))) _ _ s
  have e1 : Builtin.Slice.sliceAdjust none none (-1) (n : Int) = ((n : Int) - 1, -1) := by
    unfold Builtin.Slice.sliceAdjust
    simp
  rw [e1]
  show wpAny _ _ (pure ((n : Int) - 1, (-1 : Int), Builtin.Slice.slicePlaces ((n : Int) - 1) (-1) (-1))) _ _ s
  have e2 : Builtin.Slice.slicePlaces ((n : Int) - 1) (-1) (-1) = n := by
    unfold Builtin.Slice.slicePlaces
    have h1 : ¬ ((-1 : Int) > 0) := by decide
    rw [if_neg h1]
    by_cases hn : n = 0
    · subst hn
      simp
    · rw [if_pos (by omega)]
      have : -(-1 : Int) = 1 := by decide
      rw [this, Int.ediv_one]
      omega
  rw [e2]
  exact wpAny_pure h
theorem getItem_tuple_rev {t sl : Addr} {items : Array Value} {u : Tok} {Q : Value → Shared → Prop} (ht : IsTup s.heap t items) (hs : s.heap.IsSliceOf sl .none .none (.int (-1) u))
    (h : Q (.ref s.heap.objs.size) { s with heap := s.heap.push { cls := .type "tuple", data := .seq items.toList.reverse.toArray } })
    (hsz : items.size ≤ sizeLine) : wpAny (model prog w) A (getItem (.ref t) (.ref sl)) Q E s := by
  have htake : sizeOk (.seq items.toList.reverse.toArray) := by
    show items.toList.reverse.toArray.size ≤ sizeLine
    simp only [List.size_toArray, List.length_reverse, Array.length_toList]
    exact hsz
  obtain ⟨os, hos, hcs, hds⟩ := id hs
  have hTs : s.TypeIs (.ref sl) "slice" := ⟨os, hos, hcs⟩
  unfold getItem
  try with_reducible refine wpAny_holding ?_
  first | refine wpAny_bind (wpAny_pure ?_) | skip
  refine wpAny_bind (wpAny_sequenceKey ht.typeIs (by decide) ?_)
  refine wpAny_bind (wpAny_callSpecial?_slot (name := Str.ofString "__getitem__") ht.typeIs PyProof.Rows.slot_tuple_getitem
    (wpAny_call_entry PyProof.Rows.slot_tuple_getitem ht.typeIs entry_tuple_getitem ?_ (args_tuple_getitem _ _)))
  show wpAny _ _ (Builtin.Tuple.tupleItemsOf (.ref t) >>= _) _ _ s
  refine wpAny_bind (tupleItemsOf_ ht ?_)
  refine wpAny_bind (wpAny_typeOf hTs ?_)
  rw [if_pos (by decide)]
  refine wpAny_bind (sliceApplied_rev hs ?_)
  have hno : ¬ ((((items.size : Int) - 1) == 0 && (-1 : Int) == 1 && items.size == items.size) = true) := by
    have : ((-1 : Int) == 1) = false := by decide
    rw [this, Bool.and_false, Bool.false_and]
    exact Bool.false_ne_true
  show wpAny _ _ (if (((items.size : Int) - 1) == 0 && (-1 : Int) == 1 && items.size == items.size) = true then _ else _) _ _ s
  rw [if_neg hno, pick_rev]
  first
    | exact wpAny_bind (m := Builtin.Tuple.tupleExact _) (wpAny_newObj_type (wpAny_pure ⟨_, rfl, wpAny_pure h⟩) htake)
    | exact wpAny_bind (m := Builtin.Tuple.tupleExact _) (wpAny_newObj_type (wpAny_bind (wpAny_pure (wpAny_pure ⟨_, rfl, wpAny_pure h⟩))) htake)
    | exact wpAny_bind (wpAny_bind (m := Builtin.Tuple.tupleExact _) (wpAny_newObj_type (wpAny_pure (wpAny_pure ⟨_, rfl, wpAny_pure h⟩)) htake))
    | exact wpAny_bind (wpAny_bind (m := Builtin.Tuple.tupleExact _) (wpAny_newObj_type (wpAny_pure ⟨_, rfl, wpAny_pure h⟩) htake))
end
section
variable {X : Cx}
def tRevT (K : PySem.W.Frag) (te : TE) : TE := fun σ H Q => te σ H fun x H1 => ∃ a xs, x = .ref a ∧ SqT K H1 a xs ∧ ∀ p, H1 p = none → Q (.ref p) (upd H1 p (.tup xs.reverse))
theorem pe_revT {e : Expr} {te : TE} {k : Nat} {p1 p2 p3 pos : Pos} (he : PE X e te) : PE X (.Subscript e (.Slice none none (some (.UnaryOp .USub (.Constant (.int 1) k p1) p2)) p3) pos) (tRevT X.K te) := by
  refine ⟨fun pins s σ H Q I h => ?_⟩
  refine Subscript_ (thn (he.run pins s σ H _ I h) fun v s1 ⟨x, H1, I1, r1, q1⟩ => ?_)
  obtain ⟨a, xs, ex, hx, q⟩ := q1
  subst ex
  cases r1
  have hst : PE X (.UnaryOp .USub (.Constant (.int 1) k p1) p2) (tUn (rU fun i => .int (-i)) (tC (.int 1))) := pe_un un_neg pe_int
  refine wpAny_Slice (thn (po_none.run pins s1 σ H1 (fun o H2 => o = none ∧ H2 = H1) I1 ⟨rfl, rfl⟩) fun vl s2 ⟨l, H2, I2, pl, el, e2⟩ => ?_)
  subst el e2
  refine thn (po_none.run pins s2 σ H2 (fun o H3 => o = none ∧ H3 = H2) I2 ⟨rfl, rfl⟩) fun vu s3 ⟨u, H3, I3, pu, eu, e3⟩ => ?_
  subst eu e3
  refine thn ((po_some hst).run pins s3 σ H3 (fun o H4 => o = some (-1) ∧ H4 = H3) I3 ⟨1, rfl, -1, rfl, rfl, rfl⟩) fun vs s4 ⟨o, H4, I4, ps, eo, e4⟩ => ?_
  subst eo e4
  have e5 : vl = .none := by cases pl; rfl
  have e6 : vu = .none := by cases pu; rfl
  obtain ⟨tk, e7⟩ : ∃ t, vs = .int (-1) t := by cases ps; exact ⟨_, rfl⟩
  subst e5 e6 e7
  have I5 : Inv X pins σ H4 { s4 with heap := s4.heap.push { cls := .type "slice", data := .fields #[.none, .none, .int (-1) tk] } } := I4.kept (t' := s4.toks) fun b ob q => Heap.get?_push_of_some _ q
  obtain ⟨its, r, ht, hz⟩ := I5.tuple hx
  have hlen := r.length
  show wpAny (model X.prog X.w) X.A (subscriptTail e (.Slice none none (some (.UnaryOp .USub (.Constant (.int 1) k p1) p2)) p3) (.ref a) (.ref s4.heap.objs.size)) (EP X pins σ Q) X.xe { s4 with heap := s4.heap.push { cls := .type "slice", data := .fields #[.none, .none, .int (-1) tk] } }
  refine tail_any (ops := [.ref a, .ref s4.heap.objs.size]) ht.typeIs (PyProof.Rows.slot_tuple_getitem.lookup) ?_ (by with_unfolding_all rfl)
  refine getItem_tuple_rev ht (Heap.IsSliceOf.new _ _ _ _) ?_ (by rw [List.size_toArray]; omega)
  refine ⟨.ref _, _, I5.laid (t' := s4.toks) (o := .tup xs.reverse) (fun b ob q => Heap.get?_push_of_some _ q) (Nat.le_refl _) ?_, rfl, q _ (I5.hok.fresh (Nat.le_refl _))⟩
  exact ⟨by rw [List.length_reverse]; exact hz, _, r.reverse, _, Heap.get?_push_size _ rfl, rfl, 0, rfl⟩

/-! ### a for over a list or a tuple -/
def iSeq (K : PySem.W.Frag) (tl : TE) : TI := fun σ H R => tl σ H fun x H1 => ∃ a, x = .ref a ∧ (((∃ xs, SqL K H1 a xs) ∧ R (Itl K a) H1) ∨ ((∃ xs, SqT K H1 a xs) ∧ R (Itt K a) H1))
theorem pi_seq {tg l : Expr} {tl : TE} (hl : PE X l tl) : PI X tg l (iSeq X.K tl) := by
  refine ⟨fun pins s σ H R I h => ?_⟩
  refine thn (hl.run pins s σ H _ I h) fun v s1 ⟨x, H1, I1, r1, q1⟩ => ?_
  obtain ⟨a, e, q1⟩ := q1
  subst e
  cases r1
  rcases q1 with ⟨⟨xs, hq⟩, q⟩ | ⟨⟨xs, hq⟩, q⟩
  · obtain ⟨its, rv, p, hz⟩ := I1.list hq
    refine wpAny_pyIter_list p.isList ?_
    refine ⟨s1.heap.objs.size, [s1.heap.objs.size], _, _, H1, rfl, I1.kept (t' := s1.toks) fun b o e => Heap.get?_push_of_some _ e, turn_list a _, ⟨_, Heap.get?_push_size _ rfl, rfl, rfl⟩, fun b hb => ?_, q⟩
    have e : b = s1.heap.objs.size := by simpa using hb
    subst e
    exact I1.fpOk (Nat.le_refl _) (I1.hok.fresh (Nat.le_refl _))
  · obtain ⟨its, rv, p, hz⟩ := I1.tuple hq
    refine wpAny_pyIter_tuple (show s1.heap.IsTuple a its.toArray from p) ?_
    refine ⟨s1.heap.objs.size, [s1.heap.objs.size], _, _, H1, rfl, I1.kept (t' := s1.toks) fun b o e => Heap.get?_push_of_some _ e, turn_tuple a _, ⟨_, Heap.get?_push_size _ rfl, rfl, rfl⟩, fun b hb => ?_, q⟩
    have e : b = s1.heap.objs.size := by simpa using hb
    subst e
    exact I1.fpOk (Nat.le_refl _) (I1.hok.fresh (Nat.le_refl _))
end

/-! ### enumerate over a tuple -/
theorem meets_enumerate_newT {v : Value} {o : Obj} {H : Heap → Prop} (B : Begins v o H) :
    Meets (Builtin.«enumerate.__new__» ⟨[.type "enumerate", v], []⟩) (fun _ R s => H s.heap ∧
      R (.ok (.ret (.ref (s.heap.push o).objs.size))) { s with heap := (s.heap.push o).push { cls := .type "enumerate", data := .fields #[.none, .bool false, .ref s.heap.objs.size, rawInt 0, .none, .none] } }) :=
  .of_wp fun prog w A R s h => by
    obtain ⟨hp, g, d, tk, os⟩ := s; obtain ⟨h1, h⟩ := h
    have hsub := sub_enumerate
    have q1 : ∀ {A' : Around} {E : Value → Shared → Prop} {Q : Value → Shared → Prop}, Q (.ref hp.objs.size) ⟨hp.push o, g, d, tk, os⟩ → wpAny (model prog w) A' (pyIter v) Q E ⟨hp, g, d, tk, os⟩ :=
      fun q => B.iter prog w _ _ ⟨hp, g, d, tk, os⟩ _ h1 q
    wp_walk using q1
    refine wpAny_stack_any fun st => wpAny_pure ?_
    split
    · rename_i c _ _ _ _ _
      cases (c == Value.type "enumerate")
      · wp_walk using q1
        exact ⟨_, rfl, h⟩
      · wp_walk using q1
        exact ⟨_, rfl, h⟩
    · wp_walk using q1
      exact ⟨_, rfl, h⟩
section
variable {prog : Program} {w : World} {A : Around} {E : Value → Shared → Prop} {s : Shared}
theorem call_enumerate_tuple {v : Value} {o : Obj} {H : Heap → Prop} {Q : Value → Shared → Prop} (B : Begins v o H) (h1 : H s.heap)
    (h : ∀ h', IsEnum h' (s.heap.objs.size + 1) s.heap.objs.size 0 .none → h'.get? s.heap.objs.size = some o → h'.objs.size = s.heap.objs.size + 2 →
      (∀ b o, s.heap.get? b = some o → h'.get? b = some o) → Q (.ref (s.heap.objs.size + 1)) { s with heap := h' }) :
    wpAny (model prog w) A (call (.type "enumerate") [v]) Q E s := by
  refine callType_new F.called_enumerate (by decide) (F.typeCall_enumerate_1 _) (F.newCall_enumerate_1 _) (fun obj => F.args_object_init_2 obj _) F.entry_enumerate_new
    (meets_enumerate_newT B) ⟨h1, ?_⟩
  have hz : (s.heap.push o).objs.size = s.heap.objs.size + 1 := Heap.size_push ..
  show _ ∧ _
  rw [hz]
  have he : IsEnum ((s.heap.push o).push { cls := .type "enumerate", data := .fields #[.none, .bool false, .ref s.heap.objs.size, rawInt 0, .none, .none] }) (s.heap.objs.size + 1) s.heap.objs.size 0 .none := by
    have := Heap.get?_push_size (s.heap.push o) (o := { cls := .type "enumerate", data := .fields #[.none, .bool false, .ref s.heap.objs.size, rawInt 0, .none, .none] }) rfl
    rw [hz] at this; exact this
  refine ⟨⟨_, he, rfl⟩, h _ he (Heap.get?_push_of_some _ (Heap.get?_push_size _ B.free)) (by rw [Heap.size_push, hz]) fun b o x => Heap.get?_push_of_some _ (Heap.get?_push_of_some _ x)⟩
end
/-- the tuple at a, each item in a new pair -/
def IteT (K : PySem.W.Frag) (a : Addr) : It :=
  ⟨fun i H => ∃ (xs : List V) (x : V), SqT K H a xs ∧ xs[i]? = some x, fun i H v H' => ∃ T x, v = .ref T ∧ H T = none ∧ H' = upd H T (.tup [.int (i : Nat), x]) ∧ ∀ xs, SqT K H a xs → xs[i]? = some x, fun i H => ∃ xs : List V, SqT K H a xs ∧ xs.length = i⟩
theorem turn_enumT {P : Program} {w : World} {K : PySem.W.Frag} {elts : List Expr} {kk : Nat} {tpos : Pos} (a e it : Addr) (hat : a ≠ it) :
    Turn P w K (.Tuple elts kk tpos) (IteT K a) [e, it] e (fun i h => (∃ old, IsEnum h e it ((i : Nat) : Int) old) ∧ h.IsTupleIter it a i ∧ e ≠ it ∧ e ≠ a) where
  mem := by simp
  obj := fun i h st b hb => by
    obtain ⟨⟨old, he⟩, ⟨o, ho, hc, hd⟩, _⟩ := st
    have e' : b = e ∨ b = it := by simpa using hb
    rcases e' with z | z
    · rw [z]; exact ⟨_, he, fun v q => nomatch q⟩
    · rw [z]; exact ⟨o, ho, fun v q => by rw [hd] at q; cases q⟩
  keep := fun i h h' st k => let ⟨⟨old, he⟩, hi, hne, hea⟩ := st; ⟨⟨old, k e (by simp) _ he⟩, hi.at fun o q => k it (by simp) o q, hne, hea⟩
  item := by
    intro X hP hw hK hc i pins s σ H E I hf st hg
    subst hP hw hK
    obtain ⟨⟨old, he⟩, hit, hne, hea⟩ := st
    obtain ⟨xs, x, hq, hx⟩ := hg
    obtain ⟨its, rv, p, hz⟩ := I.tuple hq
    obtain ⟨u, hu, ru⟩ := rv.get hx
    have hel : e < s.heap.objs.size := Heap.lt_size he
    have hil : it < s.heap.objs.size := by obtain ⟨_, q, _⟩ := hit; exact Heap.lt_size q
    have hlt : i < its.toArray.size := by
      have := (List.getElem?_eq_some_iff.mp hu).1
      simpa using this
    have hh : X.A.in1.in1.handled = none := I.ok.hd hc
    refine wpAny_pyNext_enum_itemC (c := (i : Int)) (Draws.tuple (A := X.A.in1) (I.ok.hd hc) it a hat its.toArray) he ⟨hit, (show s.heap.IsTuple a its.toArray from p)⟩ hlt hne ?_ fun x' h' tk hPx ho hst' hT hsz hk => ?_
    · intro hm
      have : e = it ∨ e = a := by simpa using hm
      rcases this with z | z
      · exact hne z
      · exact hea z
    have ex : x' = u := by
      have h1 : its.toArray[i]? = some x' := hPx
      have h2 : its.toArray[i]? = some u := by simpa using hu
      rw [h2] at h1
      exact (Option.some.inj h1).symm
    subst ex
    refine ⟨_, rfl, wpAny_letOwnedTupleGo_enum (s := { s with heap := h', toks := tk + 1 }) ho fun h'' he' sb => ?_⟩
    have hT2 : h''.get? s.heap.objs.size = some { cls := .type "tuple", data := .seq #[.int i tk, x'] } := (sb.2 _ (Nat.ne_of_gt hel)).trans hT
    have new : ObjOk X.prog X.w (upd H s.heap.objs.size (.tup [.int (i : Nat), x])) h'' s.heap.objs.size (.tup [.int (i : Nat), x]) :=
      ⟨by show 2 ≤ sizeLine; decide, [.int i tk, x'], .cons ⟨_, rfl⟩ (.cons ru .nil), ⟨_, hT2, rfl, _, rfl⟩⟩
    have I1 : Inv X pins σ (upd H s.heap.objs.size (.tup [.int (i : Nat), x])) { s with heap := h'', toks := tk + 1 } :=
      I.turnedNew (ch := [e, it]) (fun b ob hb q => (sb.2 b (fun z => hb (by simp [z]))).trans (hk b ob (fun z => hb (by simp [z])) (fun z => hb (by simp [z])) q)) hf (Nat.le_refl _) new
    refine ⟨.ref s.heap.objs.size, _, I1, rfl, ⟨_, x, rfl, I.hok.fresh (Nat.le_refl _), rfl, fun ys hy => by rw [I.tuple_inj hy hq]; exact hx⟩, ⟨⟨x', ?_⟩, hst'.1.at fun o q => (sb.2 it (Ne.symm hne)).trans q, hne, hea⟩, fun b hb => ?_⟩
    · have e1 : ((i + 1 : Nat) : Int) = (i : Int) + 1 := by omega
      rw [e1]; exact he'
    · have hb' : b < s.heap.objs.size := by
        have e' : b = e ∨ b = it := by simpa using hb
        rcases e' with z | z
        · rw [z]; exact hel
        · rw [z]; exact hil
      rw [upd_ne (Nat.ne_of_lt hb')]
      exact (hf b hb).1
  done := by
    intro X hP hw hK hc i pins s σ H E I hf st hg
    subst hP hw hK
    obtain ⟨⟨old, he⟩, hit, hne, hea⟩ := st
    obtain ⟨xs, hq, hx⟩ := hg
    obtain ⟨its, rv, p, hz⟩ := I.tuple hq
    obtain ⟨f0, f1, f2, f3, f4, f5⟩ := hf it (by simp)
    have hl := rv.length
    have hi : i = its.toArray.size := by simp; omega
    subst hi
    have hD := Draws.tuple (prog := X.prog) (w := X.w) (A := X.A.in1) (I.ok.hd hc) it a hat its.toArray
    exact wpAny_pyNext_enum_endD hD he ⟨hit, (show s.heap.IsTuple a its.toArray from p)⟩ fun h' eb => ⟨rfl, I.turned (t' := s.toks) (fun b o hb q => eb b o hb q) f0 f1 f3 f4 f5⟩
  self := fun A i s Q E st h => let ⟨⟨_, he⟩, _⟩ := st; wpAny_pyIter_enum he h
def iEnumT (K : PySem.W.Frag) (ta : TA) : TI := fun σ H R => ta σ H fun vs H1 => ∃ a xs, vs = [.ref a] ∧ SqT K H1 a xs ∧ R (IteT K a) H1
theorem pi_enumT {X : Cx} {e : Expr} {ta : TA} {p pos tpos : Pos} {elts : List Expr} {kk : Nat} (hg : Gl X "enumerate") (hm : X.mg "enumerate" = none) (ha : PA X [e] ta) (hs : starEach [e] X.env = [(false, eval e X.env)] := by rfl) :
    PI X (.Tuple elts kk tpos) (.Call (.Name "enumerate" p) [e] [] pos) (iEnumT X.K ta) := by
  refine ⟨fun pins s σ H R I h => ?_⟩
  refine Call_ (ld_blt I hg hm boot_enumerate (PyProof.Rows.callWith_type1 (thn (ha.run pos pins s σ H _ I h) fun us s1 ⟨vs, H1, I1, r1, q1⟩ => ?_) hs rfl))
  obtain ⟨a, xs, ex, hq, q⟩ := q1
  subst ex
  cases r1 with
  | cons r rr =>
    cases rr
    cases r
    obtain ⟨its, rv, p', hz⟩ := I1.tuple hq
    have pt : s1.heap.IsTuple a its.toArray := p'
    have hal : a < s1.heap.objs.size := by obtain ⟨o, ho, _⟩ := id pt; exact Heap.lt_size ho
    refine call_enumerate_tuple (begins_tuple a its.toArray) pt fun h' he hit hsz hk => wpAny_pyIter_enum he ?_
    have I2 : Inv X pins σ H1 { s1 with heap := h' } := I1.kept (t' := s1.toks) hk
    refine ⟨s1.heap.objs.size + 1, [s1.heap.objs.size + 1, s1.heap.objs.size], _, _, H1, rfl, I2, turn_enumT a (s1.heap.objs.size + 1) s1.heap.objs.size (Nat.ne_of_lt hal), ⟨⟨.none, he⟩, ⟨_, hit, rfl, rfl⟩, Nat.succ_ne_self _, Ne.symm (Nat.ne_of_lt (Nat.lt_succ_of_lt hal))⟩, fun b hb => ?_, q⟩
    have e' : b = s1.heap.objs.size + 1 ∨ b = s1.heap.objs.size := by simpa using hb
    have hle : s1.heap.objs.size ≤ b := by
      rcases e' with z | z
      · rw [z]; exact Nat.le_add_right _ _
      · rw [z]; exact Nat.le_refl _
    exact I1.fpOk hle (I1.hok.fresh hle)
end RW

namespace DL
open PySem PySem.Spec PyProof.Rows L2

/-! ### readings over data: expressions, tests, argument lists -/
abbrev DK := D → Nat → Prop
abbrev DE := List Slot → Nat → DK → Prop
abbrev DT := List Slot → Nat → (Bool → Nat → Prop) → Prop
abbrev DA := List Slot → Nat → (List D → Nat → Prop) → Prop
abbrev DKt := Bool → Nat → Prop
abbrev DKa := List D → Nat → Prop
/-- what stands behind an expression -/
def Ek (K : PySem.W.Frag) (c : Ct) (F H : Hp) (k : DK) (Q : VK) : Prop := ∀ v d F' H' n', Step c.t F H F' H' → TinOk c.t F' H' n' → Is K F' v d → k d n' → Q v H'
def Tk (K : PySem.W.Frag) (c : Ct) (F H : Hp) (k : DKt) (Q : Bool → Hp → Prop) : Prop := ∀ b F' H' n', Step c.t F H F' H' → TinOk c.t F' H' n' → k b n' → Q b H'
def Ak (K : PySem.W.Frag) (c : Ct) (F H : Hp) (m : Nat) (k : DKa) (Q : List V → Hp → Prop) : Prop := ∀ vs ds F' H' n', Step c.t F H F' H' → TinOk c.t F' H' n' → Iss K F' vs ds → ds.length = m → k ds n' → Q vs H'
def RelE (K : PySem.W.Frag) (te : TE) (t : DE) : Prop := ∀ (c : Ct) (F H : Hp) (σ : L2.St) (ρ : List Slot) (n : Nat) (Q : VK) (k : DK), Sat K c F H σ ρ n → t ρ n k → Ek K c F H k Q → te σ H Q
def RelT (K : PySem.W.Frag) (te : TT) (t : DT) : Prop := ∀ (c : Ct) (F H : Hp) (σ : L2.St) (ρ : List Slot) (n : Nat) (Q : Bool → Hp → Prop) (k : DKt), Sat K c F H σ ρ n → t ρ n k → Tk K c F H k Q → te σ H Q
def RelA (K : PySem.W.Frag) (m : Nat) (te : TA) (t : DA) : Prop := ∀ (c : Ct) (F H : Hp) (σ : L2.St) (ρ : List Slot) (n : Nat) (Q : List V → Hp → Prop) (k : DKa), Sat K c F H σ ρ n → t ρ n k → Ak K c F H m k Q → te σ H Q
structure AE (X : Cx) (e : Expr) (te : TE) (t : DE) : Prop where
  pe : PE X e te
  rel : RelE X.K te t
structure AT (X : Cx) (e : Expr) (te : TT) (t : DT) : Prop where
  pe : PT X e te
  rel : RelT X.K te t
structure AW (X : Cx) (e : Expr) (te : TT) (t : DT) : Prop where
  pe : PW X e te
  rel : RelT X.K te t
structure AD (X : Cx) (es : List Expr) (te : TA) (t : DA) : Prop where
  pe : PA X es te
  rel : RelA X.K es.length te t

section
variable {X : Cx} {a b e : Expr} {ta' tb' te' tc' : TE} {ta tb te tc : DE} {pos : Pos}
theorem AW.at_ {te' : TT} {t : DT} (h : AW X e te' t) : AT X e te' t := ⟨h.pe.pt, h.rel⟩

/-! ### names and constants -/
def dVar (i : Nat) : DE := fun ρ n k => ∃ d, ρ[i]? = some (.d d) ∧ k d n
def dC (d : D) : DE := fun _ n k => k d n
theorem ae_var (i : Nat) {x : Str} (hN : X.N[i]? = some x := by rfl) (hv : Vis X.env.scope x := by first | exact Or.inl rfl | exact Or.inr (Or.inl rfl) | exact Or.inr (Or.inr rfl)) (hd : (x == ("__debug__" : Str)) = false := by decide)
    (hcd : (x == ("__classdict__" : Str)) = false := by decide) : AE X (.Name x pos) (tVar i) (dVar i) := by
  refine ⟨pe_var hN hv hd hcd, fun c F H σ ρ n Q k S h q => ?_⟩
  obtain ⟨d, e1, h⟩ := h
  obtain ⟨w, e2, hw⟩ := S.get e1
  exact ⟨w, e2, q w d F H n (Step.refl S.sub) S.tin hw h⟩
theorem rel_c {K : PySem.W.Frag} {v : V} {d : D} (h : ∀ F, Is K F v d) : RelE K (tC v) (dC d) := fun c F H σ ρ n Q k S h' q => q _ _ F H n (Step.refl S.sub) S.tin (h F) h'
theorem ae_int {i j} : AE X (.Constant (.int i) j pos) (tC (.int i)) (dC (.int i)) := ⟨pe_int, rel_c fun _ => .int i⟩
theorem ae_bl {i j} : AE X (.Constant (.bool i) j pos) (tC (.bl i)) (dC (.bl i)) := ⟨pe_bl, rel_c fun _ => .bl i⟩
theorem ae_non {j} : AE X (.Constant .none j pos) (tC .non) (dC .non) := ⟨pe_non, rel_c fun _ => .non⟩
theorem ae_str {i j} : AE X (.Constant (.str i) j pos) (tC (.str i)) (dC (.str i)) := ⟨pe_str, rel_c fun _ => .str i⟩
/-- a module's constant -/
theorem ae_glob {x : Str} {v : V} {u : Value} {d : D} (hg : Gl X x) (hm : X.mg x = some u) (r : RelV v u) (hd : ∀ F, Is X.K F v d) (hdb : (x == ("__debug__" : Str)) = false := by decide) : AE X (.Name x pos) (tC v) (dC d) :=
  ⟨pe_glob hg hm r hdb, rel_c hd⟩

/-! ### two operands -/
abbrev P2 := D → D → (D → Prop) → Prop
def dOp (p : P2) (ta tb : DE) : DE := fun ρ n k => ta ρ n fun x n1 => tb ρ n1 fun y n2 => p x y fun d => k d n2
def RelR (K : PySem.W.Frag) (r : R2) (p : P2) : Prop := ∀ (F H : Hp) (v u : V) (x y : D) (Q : VK) (k : D → Prop), Same F H → Is K F v x → Is K F u y → p x y k → (∀ w d F' H', Step none F H F' H' → Is K F' w d → k d → Q w H') → r v u H Q
structure OpD (X : Cx) (f : Value → Value → Sem Value) (r : R2) (p : P2) : Prop where
  op : OpR X f r
  rel : RelR X.K r p
theorem two {K : PySem.W.Frag} {p : P2} {r : R2} (fa : RelE K ta' ta) (fb : RelE K tb' tb) (hr : RelR K r p) : RelE K (tOp r ta' tb') (dOp p ta tb) := fun c F H σ ρ n Q k S h q => by
  refine fa c F H σ ρ n _ _ S h fun v x F1 H1 n1 s1 t1 i1 h1 => ?_
  have S1 := S.step s1 t1
  refine fb c F1 H1 σ ρ n1 _ _ S1 h1 fun u y F2 H2 n2 s2 t2 i2 h2 => ?_
  refine hr F2 H2 v u x y Q _ s2.sub (i1.mono s2.le) i2 h2 fun w d F3 H3 s3 i3 h3 => ?_
  exact q w d F3 H3 n2 ((s1.trans s2).trans s3.weak) (t2.step0 s3) i3 h3
theorem ae_op {op : Operator} {r : R2} {p : P2} (ho : OpD X (binaryOp op) r p) (ha : AE X a ta' ta) (hb : AE X b tb' tb) : AE X (.BinOp a op b pos) (tOp r ta' tb') (dOp p ta tb) :=
  ⟨pe_op ho.op ha.pe hb.pe, two ha.rel hb.rel ho.rel⟩
theorem ae_cmp {op : CmpOp} {r : R2} {p : P2} (ho : OpD X (compareOp op) r p) (ha : AE X a ta' ta) (hb : AE X b tb' tb) (hm : behindInMarks op b = false) : AE X (.Compare a [op] [b] pos) (tOp r ta' tb') (dOp p ta tb) :=
  ⟨pe_cmpR ho.op ha.pe hb.pe hm, two ha.rel hb.rel ho.rel⟩
/-- a value that is a bool, as a test -/
def dTest (t : DE) : DT := fun ρ n k => t ρ n fun x n1 => ∃ b, x = .bl b ∧ k b n1
theorem rel_test {K : PySem.W.Frag} (fa : RelE K te' te) : RelT K (tTest te') (dTest te) := fun c F H σ ρ n Q k S h q => by
  refine fa c F H σ ρ n _ (fun x n1 => ∃ b, x = .bl b ∧ k b n1) S h fun v d F' H' n' s t i h' => ?_
  obtain ⟨z, rfl, h'⟩ := h'
  cases i
  exact ⟨z, rfl, q z F' H' n' s t h'⟩
theorem at_cmp {op : CmpOp} {r : R2} {p : P2} (ho : OpD X (compareOp op) r p) (ha : AE X a ta' ta) (hb : AE X b tb' tb) (hm : behindInMarks op b = false) : AT X (.Compare a [op] [b] pos) (tTest (tOp r ta' tb')) (dTest (dOp p ta tb)) :=
  ⟨pt_cmpR ho.op ha.pe hb.pe hm, rel_test (two ha.rel hb.rel ho.rel)⟩
theorem at_val (ha : AE X e te' te) (he : ∀ whole, isTrue e X.env whole = (do let v ← whole; standAt e.pos; holding [v] (truthy v)) := by intro _; rfl) : AT X e (tB te') (dTest te) :=
  ⟨pt_val ha.pe he, rel_test ha.rel⟩
/-- a op b op' c -/
def dChain (p p' : P2) (ta tb tc : DE) : DE := fun ρ n k => ta ρ n fun x n1 => tb ρ n1 fun y n2 => p x y fun z => ∃ b, z = .bl b ∧ if b = true then tc ρ n2 fun w n3 => p' y w fun d => k d n3 else k (.bl false) n2
theorem rel_chain {K : PySem.W.Frag} {r r' : R2} {p p' : P2} (fa : RelE K ta' ta) (fb : RelE K tb' tb) (fc : RelE K tc' tc) (fr : RelR K r p) (fr' : RelR K r' p') : RelE K (tChain r r' ta' tb' tc') (dChain p p' ta tb tc) := fun c F H σ ρ n Q k S h q => by
  refine fa c F H σ ρ n _ _ S h fun v x F1 H1 n1 s1 t1 i1 h1 => ?_
  have S1 := S.step s1 t1
  refine fb c F1 H1 σ ρ n1 _ _ S1 h1 fun u y F2 H2 n2 s2 t2 i2 h2 => ?_
  have S2 := S1.step s2 t2
  refine fr F2 H2 v u x y _ _ s2.sub (i1.mono s2.le) i2 h2 fun w d F3 H3 s3 i3 h3 => ?_
  obtain ⟨z, rfl, h3⟩ := h3
  cases i3
  have S3 := S2.step0 s3
  refine ⟨z, rfl, ?_⟩
  cases z with
  | false => exact q _ _ F3 H3 n2 ((s1.trans s2).trans s3.weak) S3.tin (.bl false) h3
  | true =>
    rw [if_pos rfl] at h3 ⊢
    refine fc c F3 H3 σ ρ n2 _ _ S3 h3 fun w d F4 H4 n4 s4 t4 i4 h4 => ?_
    refine fr' F4 H4 u w y d _ _ s4.sub ((i2.mono s3.le).mono s4.le) i4 h4 fun w' d' F5 H5 s5 i5 h5 => ?_
    exact q w' d' F5 H5 n4 ((((s1.trans s2).trans s3.weak).trans s4).trans s5.weak) (t4.step0 s5) i5 h5
theorem ae_chain {op op' : CmpOp} {r r' : R2} {p p' : P2} {c : Expr} (ho : OpD X (compareOp op) r p) (ho' : OpD X (compareOp op') r' p') (ha : AE X a ta' ta) (hb : AE X b tb' tb) (hc : AE X c tc' tc)
    (hm : lastMarks [op, op'] [b, c] = false := by with_unfolding_all rfl) : AE X (.Compare a [op, op'] [b, c] pos) (tChain r r' ta' tb' tc') (dChain p p' ta tb tc) :=
  ⟨pe_chain ho.op ho'.op ha.pe hb.pe hc.pe hm, rel_chain ha.rel hb.rel hc.rel ho.rel ho'.rel⟩
theorem at_chain {op op' : CmpOp} {r r' : R2} {p p' : P2} {c : Expr} (ho : OpD X (compareOp op) r p) (ho' : OpD X (compareOp op') r' p') (ha : AE X a ta' ta) (hb : AE X b tb' tb) (hc : AE X c tc' tc)
    (hm : lastMarks [op, op'] [b, c] = false := by with_unfolding_all rfl) : AT X (.Compare a [op, op'] [b, c] pos) (tTest (tChain r r' ta' tb' tc')) (dTest (dChain p p' ta tb tc)) :=
  ⟨pt_chain ho.op ho'.op ha.pe hb.pe hc.pe hm, rel_test (rel_chain ha.rel hb.rel hc.rel ho.rel ho'.rel)⟩

/-! ### operators -/
def pI (C : Int → Int → Prop) (g : Int → Int → D) : P2 := fun x y k => ∃ i j, x = .int i ∧ y = .int j ∧ C i j ∧ k (g i j)
def pI0 (g : Int → Int → D) : P2 := fun x y k => ∃ i j, x = .int i ∧ y = .int j ∧ k (g i j)
theorem od_int {f : Value → Value → Sem Value} {C : Int → Int → Prop} {g : Int → Int → Int} (h : OpR X f (rI C fun i j => .int (g i j))) : OpD X f (rI C fun i j => .int (g i j)) (pI C fun i j => .int (g i j)) :=
  ⟨h, fun F H v u x y Q k e i1 i2 p q => by
    obtain ⟨i, j, rfl, rfl, hc, p⟩ := p
    cases i1
    cases i2
    exact ⟨i, j, rfl, rfl, hc, q _ _ F H (Step.refl e) (.int _) p⟩⟩
theorem od_int0 {f : Value → Value → Sem Value} {g : Int → Int → Int} (h : OpR X f (rI0 fun i j => .int (g i j))) : OpD X f (rI0 fun i j => .int (g i j)) (pI0 fun i j => .int (g i j)) :=
  ⟨h, fun F H v u x y Q k e i1 i2 p q => by
    obtain ⟨i, j, rfl, rfl, p⟩ := p
    cases i1
    cases i2
    exact ⟨i, j, rfl, rfl, q _ _ F H (Step.refl e) (.int _) p⟩⟩
theorem od_bool0 {f : Value → Value → Sem Value} {g : Int → Int → Bool} (h : OpR X f (rI0 fun i j => .bl (g i j))) : OpD X f (rI0 fun i j => .bl (g i j)) (pI0 fun i j => .bl (g i j)) :=
  ⟨h, fun F H v u x y Q k e i1 i2 p q => by
    obtain ⟨i, j, rfl, rfl, p⟩ := p
    cases i1
    cases i2
    exact ⟨i, j, rfl, rfl, q _ _ F H (Step.refl e) (.bl _) p⟩⟩
abbrev pAdd : P2 := pI0 fun i j => .int (i + j)
abbrev pSub : P2 := pI0 fun i j => .int (i - j)
abbrev pMul : P2 := pI CMul fun i j => .int (i * j)
abbrev pFdiv : P2 := pI CDivW fun i j => .int (i / j)
abbrev pMod : P2 := pI (fun _ j => 0 < j) fun i j => .int (i % j)
abbrev pPow : P2 := pI CPow fun i j => .int (i ^ j.toNat)
abbrev pLt : P2 := pI0 fun i j => .bl (decide (i < j))
abbrev pLe : P2 := pI0 fun i j => .bl (decide (i ≤ j))
abbrev pGt : P2 := pI0 fun i j => .bl (decide (j < i))
abbrev pGe : P2 := pI0 fun i j => .bl (decide (j ≤ i))
theorem od_add : OpD X (binaryOp .Add) (rI0 fun i j => .int (i + j)) pAdd := od_int0 op_add
theorem od_sub : OpD X (binaryOp .Sub) (rI0 fun i j => .int (i - j)) pSub := od_int0 op_sub
theorem od_mul : OpD X (binaryOp .Mult) (rI CMul fun i j => .int (i * j)) pMul := od_int op_mul
theorem od_fdiv : OpD X (binaryOp .FloorDiv) (rI CDivW fun i j => .int (i / j)) pFdiv := od_int op_fdivW
theorem od_mod : OpD X (binaryOp .Mod) (rI (fun _ j => 0 < j) fun i j => .int (i % j)) pMod := od_int op_mod
theorem od_pow : OpD X (binaryOp .Pow) (rI CPow fun i j => .int (i ^ j.toNat)) pPow := od_int op_pow
theorem od_lt : OpD X (compareOp .Lt) (rI0 fun i j => .bl (decide (i < j))) pLt := od_bool0 op_lt
theorem od_le : OpD X (compareOp .LtE) (rI0 fun i j => .bl (decide (i ≤ j))) pLe := od_bool0 op_le
theorem od_gt : OpD X (compareOp .Gt) (rI0 fun i j => .bl (decide (j < i))) pGt := od_bool0 op_gt
theorem od_ge : OpD X (compareOp .GtE) (rI0 fun i j => .bl (decide (j ≤ i))) pGe := od_bool0 op_ge
/-- scalars -/
def scalD : D → D → Bool
  | .non, .non => true | .int _, .int _ => true | .bl _, .bl _ => true | .str _, .str _ => true | _, _ => false
def eqS : D → D → Bool
  | .non, .non => true | .int i, .int j => decide (i = j) | .bl i, .bl j => decide (i = j) | .str i, .str j => decide (i = j) | _, _ => false
def pEq : P2 := fun x y k => scalD x y = true ∧ k (.bl (eqS x y))
def pNe : P2 := fun x y k => scalD x y = true ∧ k (.bl (!eqS x y))
theorem scal_of {K : PySem.W.Frag} {F : Hp} {v u : V} {x y : D} (h1 : Is K F v x) (h2 : Is K F u y) (h : scalD x y = true) : scal v u = true ∧ decide (v = u) = eqS x y := by
  cases h1 <;> cases h2 <;> first
    | exact ⟨rfl, by simp [eqS]⟩
    | (exact absurd h (by simp [scalD]))
theorem od_eq : OpD X (compareOp .Eq) rEq pEq := ⟨op_eq, fun F H v u x y Q k e i1 i2 p q => by
  obtain ⟨h1, h2⟩ := scal_of i1 i2 p.1
  refine ⟨h1, ?_⟩
  rw [h2]
  exact q _ _ F H (Step.refl e) (.bl _) p.2⟩
theorem od_ne : OpD X (compareOp .NotEq) rNe pNe := ⟨op_ne, fun F H v u x y Q k e i1 i2 p q => by
  obtain ⟨h1, h2⟩ := scal_of i1 i2 p.1
  refine ⟨h1, ?_⟩
  rw [h2]
  exact q _ _ F H (Step.refl e) (.bl _) p.2⟩
/-- is None -/
def isNon : D → Bool
  | .non => true
  | _ => false
def pIsN : P2 := fun x y k => y = .non ∧ k (.bl (isNon x))
def pNotN : P2 := fun x y k => y = .non ∧ k (.bl (!isNon x))
theorem non_of {K : PySem.W.Frag} {F : Hp} {v : V} {x : D} (h : Is K F v x) : decide (v = .non) = isNon x := by
  cases h <;> simp [isNon]
theorem od_isN : OpD X (compareOp .Is) rIsN pIsN := ⟨op_isN1, fun F H v u x y Q k e i1 i2 p q => by
  obtain ⟨rfl, p⟩ := p
  cases i2
  refine ⟨rfl, ?_⟩
  rw [non_of i1]
  exact q _ _ F H (Step.refl e) (.bl _) p⟩
theorem od_notN : OpD X (compareOp .IsNot) rNotN pNotN := ⟨op_notN1, fun F H v u x y Q k e i1 i2 p q => by
  obtain ⟨rfl, p⟩ := p
  cases i2
  refine ⟨rfl, ?_⟩
  rw [non_of i1]
  exact q _ _ F H (Step.refl e) (.bl _) p⟩
/-- tuple + tuple -/
def pCatT : P2 := fun x y k => ∃ xs ys, x = .tup xs ∧ y = .tup ys ∧ xs.length ≤ 1000 ∧ ys.length ≤ 1000 ∧ k (.tup (xs ++ ys))
theorem Is.tupE {K : PySem.W.Frag} {F : Hp} {v : V} {ds : List D} (h : Is K F v (.tup ds)) : ∃ a xs, v = .ref a ∧ TupAt K F a xs ∧ Iss K F xs ds := by
  cases h with
  | tup h hl hi => exact ⟨_, _, rfl, h, hl, hi⟩
theorem Is.lstE {K : PySem.W.Frag} {F : Hp} {v : V} {ds : List D} (h : Is K F v (.lst ds)) : ∃ a xs, v = .ref a ∧ F a = some (.lst xs) ∧ Iss K F xs ds := by
  cases h with
  | lst h hl hi => exact ⟨_, _, rfl, h, hl, hi⟩
theorem small2 {a b : Nat} (h1 : a ≤ 1000) (h2 : b ≤ 1000) : a + b ≤ sizeLine := Nat.le_trans (Nat.add_le_add h1 h2) (by decide)
theorem od_catT : OpD X (binaryOp .Add) (rCatA X.K) pCatT := ⟨op_catA, fun F H v u x y Q k e i1 i2 p q => by
  obtain ⟨xs, ys, rfl, rfl, l1, l2, p⟩ := p
  obtain ⟨a, vs, rfl, h1, s1⟩ := i1.tupE
  obtain ⟨b, us, rfl, h2, s2⟩ := i2.tupE
  refine ⟨a, b, vs, us, rfl, rfl, h1.sqt e, h2.sqt e, small2 (by rw [s1.1]; exact l1) (by rw [s2.1]; exact l2), fun z => ?_, fun z1 z => ?_, fun z1 z2 p' hp => ?_⟩
  · subst z
    have : xs = [] := by cases xs with
      | nil => rfl
      | cons _ _ => exact absurd s1.1 (by simp)
    subst this
    exact q _ _ F H (Step.refl e) i2 p
  · subst z
    have : ys = [] := by cases ys with
      | nil => rfl
      | cons _ _ => exact absurd s2.1 (by simp)
    subst this
    rw [List.append_nil] at p
    exact q _ _ F H (Step.refl e) i1 p
  · have st := Step.frz (o := .tup (vs ++ us)) e hp
    have s3 : Iss X.K (upd F p' (.tup (vs ++ us))) (vs ++ us) (xs ++ ys) := (s1.append s2).mono st.le
    exact q _ _ _ _ st (.tup (.inl upd_same) s3.1 s3.2) p⟩
/-- list + list: a new one -/
def pCatL : P2 := fun x y k => ∃ xs ys, x = .lst xs ∧ y = .lst ys ∧ xs.length ≤ 1000 ∧ ys.length ≤ 1000 ∧ k (.lst (xs ++ ys))
theorem od_catL : OpD X (binaryOp .Add) rCat pCatL := ⟨op_cat, fun F H v u x y Q k e i1 i2 p q => by
  obtain ⟨xs, ys, rfl, rfl, l1, l2, p⟩ := p
  obtain ⟨a, vs, rfl, h1, s1⟩ := i1.lstE
  obtain ⟨b, us, rfl, h2, s2⟩ := i2.lstE
  refine ⟨a, b, vs, us, rfl, rfl, e _ _ h1, e _ _ h2, small2 (by rw [s1.1]; exact l1) (by rw [s2.1]; exact l2), fun p' hp => ?_⟩
  have st := Step.frz (o := .lst (vs ++ us)) e hp
  have s3 : Iss X.K (upd F p' (.lst (vs ++ us))) (vs ++ us) (xs ++ ys) := (s1.append s2).mono st.le
  exact q _ _ _ _ st (.lst upd_same s3.1 s3.2) p⟩
/-- x in a tuple of texts -/
def pInT (neg : Bool) : P2 := fun x y k => ∃ (z : Str) (ws : List Str), x = .str z ∧ y = .tup (ws.map D.str) ∧ k (.bl (if neg then !decide (z ∈ ws) else decide (z ∈ ws)))
theorem inV_strs (z : Str) : ∀ ws : List Str, inV (.str z) (ws.map V.str) = decide (z ∈ ws)
  | [] => by simp [inV]
  | w :: ws => by
    have ih := inV_strs z ws
    unfold inV at ih ⊢
    rw [List.map_cons, List.any_cons, ih]
    by_cases h : w = z
    · subst h
      simp [eqV]
    · have h2 : ¬ z = w := fun q => h q.symm
      simp [eqV, h, h2]
theorem flat_strs : ∀ ws : List Str, (ws.map V.str).all flatV = true
  | [] => rfl
  | w :: ws => by
    rw [List.map_cons, List.all_cons, flat_strs ws]
    rfl
theorem od_inT : OpD X (compareOp .In) (rIn X.K false) (pInT false) := ⟨op_in_seq, fun F H v u x y Q k e i1 i2 p q => by
  obtain ⟨z, ws, rfl, rfl, p⟩ := p
  cases i1
  obtain ⟨a, xs, rfl, h, s⟩ := i2.tupE
  have ex := s.strs
  subst ex
  refine ⟨a, _, rfl, .inr (h.sqt e), rfl, flat_strs ws, ?_⟩
  rw [inV_strs]
  exact q _ _ F H (Step.refl e) (.bl _) p⟩

/-! ### one operand -/
def dUn (p : D → (D → Prop) → Prop) (ta : DE) : DE := fun ρ n k => ta ρ n fun x n1 => p x fun d => k d n1
def pNeg : D → (D → Prop) → Prop := fun x k => ∃ i, x = .int i ∧ k (.int (-i))
theorem ae_neg (ha : AE X a ta' ta) : AE X (.UnaryOp .USub a pos) (tUn (rU fun i => .int (-i)) ta') (dUn pNeg ta) := by
  refine ⟨pe_un un_neg ha.pe, fun c F H σ ρ n Q k S h q => ?_⟩
  refine ha.rel c F H σ ρ n _ _ S h fun v x F1 H1 n1 s1 t1 i1 h1 => ?_
  obtain ⟨i, rfl, h1⟩ := h1
  cases i1
  exact ⟨i, rfl, q _ _ F1 H1 n1 s1 t1 (.int _) h1⟩

/-! ### and, or, not, if -/
variable {tA' tB' : TT} {tA tB : DT} {rest : List Expr}
def dAnd (t u : DT) : DT := fun ρ n k => t ρ n fun b n1 => if b = true then u ρ n1 k else k false n1
def dOr (t u : DT) : DT := fun ρ n k => t ρ n fun b n1 => if b = true then k true n1 else u ρ n1 k
def dNot (t : DT) : DT := fun ρ n k => t ρ n fun b n1 => k (!b) n1
theorem aw_and1 (ha : AT X a tA' tA) : AW X (.BoolOp .And [a] pos) tA' tA := ⟨pw_and1 ha.pe, ha.rel⟩
theorem aw_or1 (ha : AT X a tA' tA) : AW X (.BoolOp .Or [a] pos) tA' tA := ⟨pw_or1 ha.pe, ha.rel⟩
theorem aw_and (ha : AT X a tA' tA) (hb : AW X (.BoolOp .And (b :: rest) pos) tB' tB) : AW X (.BoolOp .And (a :: b :: rest) pos) (tAnd tA' tB') (dAnd tA tB) := by
  refine ⟨pw_and ha.pe hb.pe, fun c F H σ ρ n Q k S h q => ?_⟩
  refine ha.rel c F H σ ρ n _ _ S h fun v F1 H1 n1 s1 t1 h1 => ?_
  cases v with
  | true => exact hb.rel c F1 H1 σ ρ n1 _ _ (S.step s1 t1) h1 fun v F2 H2 n2 s2 t2 h2 => q v F2 H2 n2 (s1.trans s2) t2 h2
  | false => exact q false F1 H1 n1 s1 t1 h1
theorem aw_or (ha : AT X a tA' tA) (hb : AW X (.BoolOp .Or (b :: rest) pos) tB' tB) : AW X (.BoolOp .Or (a :: b :: rest) pos) (tOr tA' tB') (dOr tA tB) := by
  refine ⟨pw_or ha.pe hb.pe, fun c F H σ ρ n Q k S h q => ?_⟩
  refine ha.rel c F H σ ρ n _ _ S h fun v F1 H1 n1 s1 t1 h1 => ?_
  cases v with
  | false => exact hb.rel c F1 H1 σ ρ n1 _ _ (S.step s1 t1) h1 fun v F2 H2 n2 s2 t2 h2 => q v F2 H2 n2 (s1.trans s2) t2 h2
  | true => exact q true F1 H1 n1 s1 t1 h1
theorem at_not (ha : AT X a tA' tA) : AT X (.UnaryOp .Not a pos) (tNot tA') (dNot tA) :=
  ⟨pt_not ha.pe, fun c F H σ ρ n Q k S h q => ha.rel c F H σ ρ n _ _ S h fun v F1 H1 n1 s1 t1 h1 => q _ F1 H1 n1 s1 t1 h1⟩
def dAndV (ta tb : DE) : DE := fun ρ n k => ta ρ n fun x n1 => ∃ b, x = .bl b ∧ if b = true then tb ρ n1 k else k (.bl false) n1
def dOrV (ta tb : DE) : DE := fun ρ n k => ta ρ n fun x n1 => ∃ b, x = .bl b ∧ if b = true then k (.bl true) n1 else tb ρ n1 k
def dNotV (ta : DE) : DE := fun ρ n k => ta ρ n fun x n1 => ∃ b, x = .bl b ∧ k (.bl (!b)) n1
theorem ae_one {op} (h : AE X a ta' ta) : AE X (.BoolOp op [a] pos) ta' ta := ⟨pe_one h.pe, h.rel⟩
theorem ae_and (ha : AE X a ta' ta) (hb : AE X (.BoolOp .And (b :: rest) pos) tb' tb) : AE X (.BoolOp .And (a :: b :: rest) pos) (tAndV ta' tb') (dAndV ta tb) := by
  refine ⟨pe_and ha.pe hb.pe, fun c F H σ ρ n Q k S h q => ?_⟩
  refine ha.rel c F H σ ρ n _ _ S h fun v x F1 H1 n1 s1 t1 i1 h1 => ?_
  obtain ⟨z, rfl, h1⟩ := h1
  cases i1
  refine ⟨z, rfl, ?_⟩
  cases z with
  | true => exact hb.rel c F1 H1 σ ρ n1 _ _ (S.step s1 t1) h1 fun v d F2 H2 n2 s2 t2 i2 h2 => q v d F2 H2 n2 (s1.trans s2) t2 i2 h2
  | false => exact q _ _ F1 H1 n1 s1 t1 (.bl false) h1
theorem ae_or (ha : AE X a ta' ta) (hb : AE X (.BoolOp .Or (b :: rest) pos) tb' tb) : AE X (.BoolOp .Or (a :: b :: rest) pos) (tOrV ta' tb') (dOrV ta tb) := by
  refine ⟨pe_or ha.pe hb.pe, fun c F H σ ρ n Q k S h q => ?_⟩
  refine ha.rel c F H σ ρ n _ _ S h fun v x F1 H1 n1 s1 t1 i1 h1 => ?_
  obtain ⟨z, rfl, h1⟩ := h1
  cases i1
  refine ⟨z, rfl, ?_⟩
  cases z with
  | false => exact hb.rel c F1 H1 σ ρ n1 _ _ (S.step s1 t1) h1 fun v d F2 H2 n2 s2 t2 i2 h2 => q v d F2 H2 n2 (s1.trans s2) t2 i2 h2
  | true => exact q _ _ F1 H1 n1 s1 t1 (.bl true) h1
theorem ae_not (ha : AE X a ta' ta) : AE X (.UnaryOp .Not a pos) (tNotV ta') (dNotV ta) := by
  refine ⟨pe_not ha.pe, fun c F H σ ρ n Q k S h q => ?_⟩
  refine ha.rel c F H σ ρ n _ _ S h fun v x F1 H1 n1 s1 t1 i1 h1 => ?_
  obtain ⟨z, rfl, h1⟩ := h1
  cases i1
  exact ⟨z, rfl, q _ _ F1 H1 n1 s1 t1 (.bl _) h1⟩
def dIf (t : DT) (ta tb : DE) : DE := fun ρ n k => t ρ n fun b n1 => if b = true then ta ρ n1 k else tb ρ n1 k
theorem ae_if {c : Expr} (hc : AT X c tA' tA) (ha : AE X a ta' ta) (hb : AE X b tb' tb) : AE X (.IfExp c a b pos) (tIf tA' ta' tb') (dIf tA ta tb) := by
  refine ⟨pe_ifExp hc.pe ha.pe hb.pe, fun c F H σ ρ n Q k S h q => ?_⟩
  refine hc.rel c F H σ ρ n _ _ S h fun v F1 H1 n1 s1 t1 h1 => ?_
  cases v with
  | true => exact ha.rel c F1 H1 σ ρ n1 _ _ (S.step s1 t1) h1 fun v d F2 H2 n2 s2 t2 i2 h2 => q v d F2 H2 n2 (s1.trans s2) t2 i2 h2
  | false => exact hb.rel c F1 H1 σ ρ n1 _ _ (S.step s1 t1) h1 fun v d F2 H2 n2 s2 t2 i2 h2 => q v d F2 H2 n2 (s1.trans s2) t2 i2 h2

/-! ### argument lists of data, tuples -/
variable {es : List Expr} {t' : TA} {t : DA}
def dNil : DA := fun _ n k => k [] n
def dCons (te : DE) (tr : DA) : DA := fun ρ n k => te ρ n fun x n1 => tr ρ n1 fun xs n2 => k (x :: xs) n2
theorem ad_nil : AD X [] tNil dNil := ⟨pa_nil, fun c F H σ ρ n Q k S h q => q [] [] F H n (Step.refl S.sub) S.tin .nil rfl h⟩
theorem ad_cons (he : AE X e te' te) (hr : AD X es t' t) (hs : starEach (e :: es) X.env = (false, eval e X.env) :: starEach es X.env := by rfl) : AD X (e :: es) (tCons te' t') (dCons te t) := by
  refine ⟨pa_cons he.pe hr.pe hs, fun c F H σ ρ n Q k S h q => ?_⟩
  refine he.rel c F H σ ρ n _ _ S h fun v x F1 H1 n1 s1 t1 i1 h1 => ?_
  refine hr.rel c F1 H1 σ ρ n1 _ _ (S.step s1 t1) h1 fun vs ds F2 H2 n2 s2 t2 i2 l2 h2 => ?_
  exact q (v :: vs) (x :: ds) F2 H2 n2 (s1.trans s2) t2 (.cons (i1.mono s2.le) i2) (by simp [l2]) h2
def dTup (t : DA) : DE := fun ρ n k => t ρ n fun ds n1 => k (.tup ds) n1
def dLst (t : DA) : DE := fun ρ n k => t ρ n fun ds n1 => k (.lst ds) n1
theorem small {a : Nat} (h : a ≤ 1000) : a ≤ sizeLine := Nat.le_trans h (by decide)
theorem ae_tup {x1} (h : AD X es t' t) (hl : es.length ≤ 1000 := by decide) : AE X (.Tuple es x1 pos) (tTup t') (dTup t) := by
  refine ⟨pe_tup h.pe, fun c F H σ ρ n Q k S h0 q => ?_⟩
  refine h.rel c F H σ ρ n _ _ S h0 fun vs ds F1 H1 n1 s1 t1 i1 l1 h1 => ?_
  refine ⟨small (by rw [i1.1, l1]; exact hl), fun p hp => ?_⟩
  have st := Step.frz (o := .tup vs) s1.sub hp
  have i2 := i1.mono st.le
  exact q _ _ _ _ n1 (s1.trans st.weak) (t1.step0 st) (.tup (.inl upd_same) i2.1 i2.2) h1
theorem ae_lst (h : AD X es t' t) (hl : es.length ≤ 1000 := by decide) : AE X (.List es pos) (tLst t') (dLst t) := by
  refine ⟨pe_lst h.pe, fun c F H σ ρ n Q k S h0 q => ?_⟩
  refine h.rel c F H σ ρ n _ _ S h0 fun vs ds F1 H1 n1 s1 t1 i1 l1 h1 => ?_
  refine ⟨small (by rw [i1.1, l1]; exact hl), fun p hp => ?_⟩
  have st := Step.frz (o := .lst vs) s1.sub hp
  have i2 := i1.mono st.le
  exact q _ _ _ _ n1 (s1.trans st.weak) (t1.step0 st) (.lst upd_same i2.1 i2.2) h1

/-! ### subscripts -/
def elems : D → Option (List D)
  | .tup l => some l
  | .tz l => some l
  | .lst l => some l
  | _ => none
def pIx : P2 := fun x y k => ∃ l i d, elems x = some l ∧ y = .int i ∧ atI l i = some d ∧ k d
theorem Iss.atI {K : PySem.W.Frag} {F : Hp} {xs : List V} {ds : List D} (h : Iss K F xs ds) {i : Int} {d : D} (e : L2.atI ds i = some d) : ∃ v, L2.atI xs i = some v ∧ Is K F v d := by
  unfold L2.atI at e ⊢
  rw [h.1]
  cases q : ixN ds.length i with
  | none => rw [q] at e; cases e
  | some j =>
    rw [q] at e
    exact h.get e
theorem Is.seqE {K : PySem.W.Frag} {F : Hp} {v : V} {x : D} {l : List D} (h : Is K F v x) (hl : elems x = some l) : ∃ a xs, v = .ref a ∧ Iss K F xs l ∧ ((x = .lst l ∧ F a = some (.lst xs)) ∨ ((x = .tup l ∨ x = .tz l) ∧ TupAt K F a xs)) := by
  cases x with
  | tup ds =>
    cases hl
    obtain ⟨a, xs, rfl, h1, s1⟩ := h.tupE
    exact ⟨a, xs, rfl, s1, .inr ⟨.inl rfl, h1⟩⟩
  | tz ds =>
    cases hl
    obtain ⟨a, xs, rfl, h1, s1⟩ := h.untz.tupE
    exact ⟨a, xs, rfl, s1, .inr ⟨.inr rfl, h1⟩⟩
  | lst ds =>
    cases hl
    obtain ⟨a, xs, rfl, h1, s1⟩ := h.lstE
    exact ⟨a, xs, rfl, s1, .inl ⟨rfl, h1⟩⟩
  | _ => cases hl
theorem rel_ix {K : PySem.W.Frag} : RelR K (rIx K) pIx := fun F H v u x y Q k e i1 i2 p q => by
  obtain ⟨l, i, d, hl, rfl, ha, p⟩ := p
  cases i2
  obtain ⟨a, xs, rfl, s1, h1 | h1⟩ := i1.seqE hl
  · obtain ⟨w, e1, iw⟩ := s1.atI ha
    exact .inl ⟨a, xs, i, w, rfl, rfl, .of (e _ _ h1.2), e1, q _ _ F H (Step.refl e) iw p⟩
  · obtain ⟨w, e1, iw⟩ := s1.atI ha
    exact .inr (.inl ⟨a, xs, i, w, rfl, rfl, h1.2.sqt e, e1, q _ _ F H (Step.refl e) iw p⟩)
theorem ae_ix (ha : AE X a ta' ta) (hb : AE X b tb' tb) (hs : PlainIx b := by exact fun _ _ => rfl) : AE X (.Subscript a b pos) (tOp (rIx X.K) ta' tb') (dOp pIx ta tb) :=
  ⟨pe_ix ix_seq ha.pe hb.pe hs, two ha.rel hb.rel rel_ix⟩
end
end DL

namespace DL
open PySem PySem.Spec PyProof.Rows L2

section
variable {X : Cx} {a b e : Expr} {ta' tb' te' tc' : TE} {ta tb te tc : DE} {pos p2 : Pos}
/-! ### slices -/
abbrev DO := List Slot → Nat → (Option Int → Nat → Prop) → Prop
def RelO (K : PySem.W.Frag) (te : TO) (t : DO) : Prop := ∀ (c : Ct) (F H : Hp) (σ : L2.St) (ρ : List Slot) (n : Nat) (Q : Option Int → Hp → Prop) (k : Option Int → Nat → Prop), Sat K c F H σ ρ n → t ρ n k →
  (∀ b F' H' n', Step c.t F H F' H' → TinOk c.t F' H' n' → k b n' → Q b H') → te σ H Q
structure AO (X : Cx) (e : Option Expr) (te : TO) (t : DO) : Prop where
  pe : PO X e te
  rel : RelO X.K te t
def dNoPart : DO := fun _ n k => k none n
def dPart (t : DE) : DO := fun ρ n k => t ρ n fun x n1 => ∃ i, x = .int i ∧ k (some i) n1
theorem ao_none : AO X none tNoPart dNoPart := ⟨po_none, fun c F H σ ρ n Q k S h q => q none F H n (Step.refl S.sub) S.tin h⟩
theorem ao_some (h : AE X e te' te) : AO X (some e) (tPart te') (dPart te) := ⟨po_some h.pe, fun c F H σ ρ n Q k S h0 q => by
  refine h.rel c F H σ ρ n _ _ S h0 fun v x F1 H1 n1 s1 t1 i1 h1 => ?_
  obtain ⟨i, rfl, h1⟩ := h1
  cases i1
  exact ⟨i, rfl, q _ F1 H1 n1 s1 t1 h1⟩⟩
def cutD {α : Type} (xs : List α) (lo hi : Option Int) : List α := (xs.drop (HT.sIx xs.length 0 lo)).take (HT.sIx xs.length xs.length hi - HT.sIx xs.length 0 lo)
def dSl (ta : DE) (tl th : DO) : DE := fun ρ n k => ta ρ n fun x n1 => tl ρ n1 fun lo n2 => th ρ n2 fun hi n3 => match x with
  | .tup l => k (.tup (cutD l lo hi)) n3
  | .lst l => k (.lst (cutD l lo hi)) n3
  | _ => False
theorem Iss.cut {K : PySem.W.Frag} {F : Hp} {xs : List V} {ds : List D} (h : Iss K F xs ds) (lo hi : Option Int) : Iss K F (cutV xs lo hi) (cutD ds lo hi) := by
  unfold cutV cutD
  rw [h.1]
  exact (h.drop _).take _
theorem cut_whole {α : Type} {xs : List α} {lo hi : Option Int} (h : HT.sIx xs.length 0 lo = 0 ∧ HT.sIx xs.length xs.length hi = xs.length) : cutD xs lo hi = xs := by
  unfold cutD
  rw [h.1, h.2, List.drop_zero, Nat.sub_zero, List.take_length]
theorem ae_slice {lo hi : Option Expr} {tl' th' : TO} {tl th : DO} (ha : AE X a ta' ta) (hl : AO X lo tl' tl) (hu : AO X hi th' th) :
    AE X (.Subscript a (.Slice lo hi none p2) pos) (tSl (fun x lo hi H Q => rSlL X.K x lo hi H Q ∨ rSlA X.K x lo hi H Q) ta' tl' th') (dSl ta tl th) := by
  refine ⟨pe_slice (sl_list.or sl_tupA) ha.pe hl.pe hu.pe, fun c F H σ ρ n Q k S h q => ?_⟩
  refine ha.rel c F H σ ρ n _ _ S h fun v x F1 H1 n1 s1 t1 i1 h1 => ?_
  have S1 := S.step s1 t1
  refine hl.rel c F1 H1 σ ρ n1 _ _ S1 h1 fun l F2 H2 n2 s2 t2 h2 => ?_
  have S2 := S1.step s2 t2
  refine hu.rel c F2 H2 σ ρ n2 _ _ S2 h2 fun u F3 H3 n3 s3 t3 h3 => ?_
  have i3 := (i1.mono s2.le).mono s3.le
  have st := (s1.trans s2).trans s3
  cases x with
  | tup ds =>
    obtain ⟨a, xs, rfl, g, is⟩ := i3.tupE
    refine .inr ⟨a, xs, rfl, g.sqt s3.sub, fun hw => ?_, fun hw p hp => ?_⟩
    · rw [is.1] at hw
      have h4 : k (.tup (cutD ds l u)) n3 := h3
      rw [cut_whole hw] at h4
      exact q _ _ F3 H3 n3 st t3 i3 h4
    · have s4 := Step.frz (o := .tup (cutV xs l u)) s3.sub hp
      have i4 := (is.cut l u).mono s4.le
      exact q _ _ _ _ n3 (st.trans s4.weak) (t3.step0 s4) (.tup (.inl upd_same) i4.1 i4.2) h3
  | lst ds =>
    obtain ⟨a, xs, rfl, g, is⟩ := i3.lstE
    refine .inl ⟨a, xs, rfl, .of (s3.sub _ _ g), fun p hp => ?_⟩
    have s4 := Step.frz (o := .lst (cutV xs l u)) s3.sub hp
    have i4 := (is.cut l u).mono s4.le
    exact q _ _ _ _ n3 (st.trans s4.weak) (t3.step0 s4) (.lst upd_same i4.1 i4.2) h3
  | _ => exact h3.elim
/-- t[::-1] -/
def dRev (ta : DE) : DE := fun ρ n k => ta ρ n fun x n1 => ∃ l, x = .tup l ∧ k (.tup l.reverse) n1
theorem ae_rev {j : Nat} {p1 p3 p4 : Pos} (ha : AE X a ta' ta) : AE X (.Subscript a (.Slice none none (some (.UnaryOp .USub (.Constant (.int 1) j p1) p3)) p4) pos) (RW.tRevT X.K ta') (dRev ta) := by
  refine ⟨RW.pe_revT ha.pe, fun c F H σ ρ n Q k S h q => ?_⟩
  refine ha.rel c F H σ ρ n _ _ S h fun v x F1 H1 n1 s1 t1 i1 h1 => ?_
  obtain ⟨l, rfl, h1⟩ := h1
  obtain ⟨a, xs, rfl, g, is⟩ := i1.tupE
  refine ⟨a, xs, rfl, g.sqt s1.sub, fun p hp => ?_⟩
  have s4 := Step.frz (o := .tup xs.reverse) s1.sub hp
  have i4 := is.reverse.mono s4.le
  exact q _ _ _ _ n1 (s1.trans s4.weak) (t1.step0 s4) (.tup (.inl upd_same) i4.1 i4.2) h1

/-! ### calls of built-ins -/
abbrev PC1 := List D → (D → Prop) → Prop
def RelC (K : PySem.W.Frag) (r : List V → Hp → VK → Prop) (p : PC1) : Prop := ∀ (F H : Hp) (vs : List V) (ds : List D) (Q : VK) (k : D → Prop), Same F H → Iss K F vs ds → p ds k → (∀ w d F' H', Step none F H F' H' → Is K F' w d → k d → Q w H') → r vs H Q
structure CallD (X : Cx) (f : Value) (r : List V → Hp → VK → Prop) (p : PC1) : Prop where
  op : CallR X f r
  rel : RelC X.K r p
def dCall (p : PC1) (t : DA) : DE := fun ρ n k => t ρ n fun ds n1 => p ds fun d => k d n1
theorem rel_call {K : PySem.W.Frag} {m : Nat} {r : List V → Hp → VK → Prop} {p : PC1} {t' : TA} {t : DA} (ha : RelA K m t' t) (hr : RelC K r p) : RelE K (tCB r t') (dCall p t) := fun c F H σ ρ n Q k S h q => by
  refine ha c F H σ ρ n _ _ S h fun vs ds F1 H1 n1 s1 t1 i1 l1 h1 => ?_
  exact hr F1 H1 vs ds Q _ s1.sub i1 h1 fun w d F2 H2 s2 i2 h2 => q w d F2 H2 n1 (s1.trans s2.weak) (t1.step0 s2) i2 h2
section
variable {x : Str} {id T : String} {p : Pos} {es : List Expr} {t' : TA} {t : DA} {r : List V → Hp → VK → Prop} {pc : PC1}
theorem ae_callB (hc : CallD X (.builtin id) r pc) (hg : Gl X x) (hm : X.mg x = none) (hv : bootBuiltins x = some (.builtin id)) (ha : AD X (e :: es) t' t) (hn : x ≠ "__name__" := by decide) (hdb : (x == ("__debug__" : Str)) = false := by decide)
    (he : starEach (e :: es) X.env = (false, eval e X.env) :: starEach es X.env := by rfl) (hpl : (backTo pos (starEach es X.env)).any (·.1) = false := by rfl) : AE X (.Call (.Name x p) (e :: es) [] pos) (tCB r t') (dCall pc t) :=
  ⟨pe_callB hc.op hg hm hv ha.pe hn hdb he hpl, rel_call ha.rel hc.rel⟩
theorem ae_callTy (hc : CallD X (.type T) r pc) (hg : Gl X x) (hm : X.mg x = none) (hv : bootBuiltins x = some (.type T)) (ha : AD X (e :: es) t' t) (hn : x ≠ "__name__" := by decide) (hdb : (x == ("__debug__" : Str)) = false := by decide)
    (he : starEach (e :: es) X.env = (false, eval e X.env) :: starEach es X.env := by rfl) (hpl : (backTo pos (starEach es X.env)).any (·.1) = false := by rfl) : AE X (.Call (.Name x p) (e :: es) [] pos) (tCB r t') (dCall pc t) :=
  ⟨pe_callTy hc.op hg hm hv ha.pe hn hdb he hpl, rel_call ha.rel hc.rel⟩
/-- a module's name for a built-in function -/
theorem ae_callFun (hc : CallD X (.builtin id) r pc) (hg : Gl X x) (hm : X.mg x = some (.builtin id)) (ha : AD X (e :: es) t' t) (hdb : (x == ("__debug__" : Str)) = false := by decide)
    (he : starEach (e :: es) X.env = (false, eval e X.env) :: starEach es X.env := by rfl) (hpl : (backTo pos (starEach es X.env)).any (·.1) = false := by rfl) : AE X (.Call (.Name x p) (e :: es) [] pos) (tCB r t') (dCall pc t) :=
  ⟨pe_callBfun hc.op hg hm ha.pe hdb he hpl, rel_call ha.rel hc.rel⟩
end
theorem Iss.one {K : PySem.W.Frag} {F : Hp} {vs : List V} {d : D} (h : Iss K F vs [d]) : ∃ v, vs = [v] ∧ Is K F v d := by
  obtain ⟨v, ys, rfl, h1, h2⟩ := h.headD
  rw [h2.nilD]
  exact ⟨v, rfl, h1⟩
theorem Iss.two {K : PySem.W.Frag} {F : Hp} {vs : List V} {d d' : D} (h : Iss K F vs [d, d']) : ∃ v v', vs = [v, v'] ∧ Is K F v d ∧ Is K F v' d' := by
  obtain ⟨v, ys, rfl, h1, h2⟩ := h.headD
  obtain ⟨v', rfl, h3⟩ := h2.one
  exact ⟨v, v', rfl, h1, h3⟩
def pLen : PC1 := fun ds k => ∃ x l, ds = [x] ∧ elems x = some l ∧ k (.int (l.length : Int))
theorem cd_len : CallD X (.builtin "len") (fun xs H Q => ∃ p ys, xs = [.ref p] ∧ (SqL X.K H p ys ∨ SqT X.K H p ys) ∧ Q (.int ys.length) H) pLen := ⟨call_len_seq, fun F H vs ds Q k e is p q => by
  obtain ⟨x, l, rfl, hl, p⟩ := p
  obtain ⟨v, rfl, i1⟩ := is.one
  obtain ⟨a, xs, rfl, s1, h1 | h1⟩ := i1.seqE hl
  · refine ⟨a, xs, rfl, .inl (.of (e _ _ h1.2)), ?_⟩
    rw [s1.1]
    exact q _ _ F H (Step.refl e) (.int _) p
  · refine ⟨a, xs, rfl, .inr (h1.2.sqt e), ?_⟩
    rw [s1.1]
    exact q _ _ F H (Step.refl e) (.int _) p⟩
def pLenS : PC1 := fun ds k => ∃ z, ds = [.str z] ∧ z.length ≤ 1000 ∧ k (.int (z.length : Int))
theorem cd_lenS : CallD X (.builtin "len") (fun xs H Q => ∃ z, xs = [.str z] ∧ z.length ≤ sizeLine ∧ Q (.int z.length) H) pLenS := ⟨call_len_str, fun F H vs ds Q k e is p q => by
  obtain ⟨z, rfl, hl, p⟩ := p
  obtain ⟨v, rfl, i1⟩ := is.one
  cases i1
  exact ⟨z, rfl, small hl, q _ _ F H (Step.refl e) (.int _) p⟩⟩
def pAbs : PC1 := fun ds k => ∃ i, ds = [.int i] ∧ k (.int (if i < 0 then -i else i))
theorem cd_abs : CallD X (.builtin "abs") (fun xs H Q => ∃ i, xs = [.int i] ∧ Q (.int (if i < 0 then -i else i)) H) pAbs := ⟨call_abs, fun F H vs ds Q k e is p q => by
  obtain ⟨i, rfl, p⟩ := p
  obtain ⟨v, rfl, i1⟩ := is.one
  cases i1
  exact ⟨i, rfl, q _ _ F H (Step.refl e) (.int _) p⟩⟩
def pInt : PC1 := fun ds k => (∃ i, ds = [.int i] ∧ k (.int i)) ∨ ∃ b, ds = [.bl b] ∧ k (.int (if b then 1 else 0))
theorem cd_int : CallD X (.type "int") (fun xs H Q => (∃ i, xs = [.int i] ∧ Q (.int i) H) ∨ ∃ k, xs = [.bl k] ∧ Q (.int (if k then 1 else 0)) H) pInt := ⟨call_int1, fun F H vs ds Q k e is p q => by
  rcases p with ⟨i, rfl, p⟩ | ⟨b, rfl, p⟩
  · obtain ⟨v, rfl, i1⟩ := is.one
    cases i1
    exact .inl ⟨i, rfl, q _ _ F H (Step.refl e) (.int _) p⟩
  · obtain ⟨v, rfl, i1⟩ := is.one
    cases i1
    exact .inr ⟨b, rfl, q _ _ F H (Step.refl e) (.int _) p⟩⟩
def pMax2 : PC1 := fun ds k => ∃ i j, ds = [.int i, .int j] ∧ k (.int (if j > i then j else i))
theorem cd_max2 (hc : X.calm = true) : CallD X (.builtin "max") (fun xs H Q => ∃ i j, xs = [.int i, .int j] ∧ Q (.int (if j > i then j else i)) H) pMax2 := ⟨call_max2 hc, fun F H vs ds Q k e is p q => by
  obtain ⟨i, j, rfl, p⟩ := p
  obtain ⟨v, v', rfl, i1, i2⟩ := is.two
  cases i1
  cases i2
  exact ⟨i, j, rfl, q _ _ F H (Step.refl e) (.int _) p⟩⟩
def pGcd : PC1 := fun ds k => ∃ i j : Int, ds = [.int i, .int j] ∧ k (.int ((Nat.gcd i.natAbs j.natAbs : Nat) : Int))
theorem cd_gcd : CallD X (.builtin "math.gcd") rGcd pGcd := ⟨cr_gcd, fun F H vs ds Q k e is p q => by
  obtain ⟨i, j, rfl, p⟩ := p
  obtain ⟨v, v', rfl, i1, i2⟩ := is.two
  cases i1
  cases i2
  exact ⟨i, j, rfl, q _ _ F H (Step.refl e) (.int _) p⟩⟩
def pSum : PC1 := fun ds k => ∃ ns : List Int, ds = [.lst (ns.map D.int)] ∧ k (.int ns.sum)
theorem cd_sum (hc : X.calm = true) : CallD X (.builtin "sum") (rSum X.K) pSum := ⟨cr_sum hc, fun F H vs ds Q k e is p q => by
  obtain ⟨ns, rfl, p⟩ := p
  obtain ⟨v, rfl, i1⟩ := is.one
  obtain ⟨a, xs, rfl, g, s⟩ := i1.lstE
  rw [s.ints] at g
  exact ⟨a, ns, rfl, .of (e _ _ g), q _ _ F H (Step.refl e) (.int _) p⟩⟩
def pMax : PC1 := fun ds k => ∃ ns : List Int, ds = [.lst (ns.map D.int)] ∧ 0 < ns.length ∧ ∀ m, m ∈ ns → (∀ y, y ∈ ns → y ≤ m) → k (.int m)
theorem cd_max (hc : X.calm = true) : CallD X (.builtin "max") (rMax X.K) pMax := ⟨cr_max hc, fun F H vs ds Q k e is p q => by
  obtain ⟨ns, rfl, h0, p⟩ := p
  obtain ⟨v, rfl, i1⟩ := is.one
  obtain ⟨a, xs, rfl, g, s⟩ := i1.lstE
  rw [s.ints] at g
  exact ⟨a, ns, rfl, .of (e _ _ g), h0, fun m h1 h2 => q _ _ F H (Step.refl e) (.int _) (p m h1 h2)⟩⟩
def pMin : PC1 := fun ds k => ∃ ns : List Int, ds = [.lst (ns.map D.int)] ∧ 0 < ns.length ∧ ∀ m, m ∈ ns → (∀ y, y ∈ ns → m ≤ y) → k (.int m)
theorem cd_min (hc : X.calm = true) : CallD X (.builtin "min") (rMin X.K) pMin := ⟨cr_min hc, fun F H vs ds Q k e is p q => by
  obtain ⟨ns, rfl, h0, p⟩ := p
  obtain ⟨v, rfl, i1⟩ := is.one
  obtain ⟨a, xs, rfl, g, s⟩ := i1.lstE
  rw [s.ints] at g
  exact ⟨a, ns, rfl, .of (e _ _ g), h0, fun m h1 h2 => q _ _ F H (Step.refl e) (.int _) (p m h1 h2)⟩⟩
def pAll : PC1 := fun ds k => ∃ bs : List Bool, ds = [.lst (bs.map D.bl)] ∧ k (.bl (bs.all id))
theorem cd_all (hc : X.calm = true) : CallD X (.builtin "all") (rAll X.K) pAll := ⟨cr_all hc, fun F H vs ds Q k e is p q => by
  obtain ⟨ns, rfl, p⟩ := p
  obtain ⟨v, rfl, i1⟩ := is.one
  obtain ⟨a, xs, rfl, g, s⟩ := i1.lstE
  rw [s.bls] at g
  exact ⟨a, ns, rfl, .of (e _ _ g), q _ _ F H (Step.refl e) (.bl _) p⟩⟩
/-- tuple(a list) -/
def pTuple : PC1 := fun ds k => ∃ l, ds = [.lst l] ∧ k (.tup l)
theorem cd_tuple : CallD X (.type "tuple") (fun xs H Q => ∃ p ys, xs = [.ref p] ∧ ((SqL X.K H p ys ∧ ∀ l, H l = none → Q (.ref l) (upd H l (.tup ys))) ∨ (SqT X.K H p ys ∧ Q (.ref p) H))) pTuple := ⟨call_tuple_of, fun F H vs ds Q k e is p q => by
  obtain ⟨l, rfl, p⟩ := p
  obtain ⟨v, rfl, i1⟩ := is.one
  obtain ⟨a, xs, rfl, g, s⟩ := i1.lstE
  refine ⟨a, xs, rfl, .inl ⟨.of (e _ _ g), fun l' hl => ?_⟩⟩
  have s4 := Step.frz (o := .tup xs) e hl
  have i4 := s.mono s4.le
  exact q _ _ _ _ s4 (.tup (.inl upd_same) i4.1 i4.2) p⟩
/-- tuple(a list), known to the object -/
theorem call_tuple_z {X : Cx} : CallR X (.type "tuple") (fun xs H Q => ∃ p ys, xs = [.ref p] ∧ SqL X.K H p ys ∧ ∀ l o, H l = none → o.cls = .type "tuple" → o.dict = none → Q (.ref l) (upd H l (.frz o (.tup ys)))) := by
  intro pins s σ H xs us Q I r h
  obtain ⟨p, ys, rfl, hq, q⟩ := h
  obtain ⟨u, rfl, rx⟩ := vals1 r
  cases rx
  obtain ⟨its, r', pl, hz⟩ := I.list hq
  have hlen := r'.length
  refine call_tuple_list pl.isList (fun h' kp => ?_) (by simp only [List.size_toArray] <;> omega)
  have I1 : Inv X pins σ H { s with heap := h' } := I.kept (t' := s.toks) kp
  have I2 : Inv X pins σ (upd H h'.objs.size (.frz { cls := .type "tuple", data := .seq its.toArray } (.tup ys))) { s with heap := h'.push { cls := .type "tuple", data := .seq its.toArray } } :=
    I1.laid (t' := s.toks) (fun b o e => Heap.get?_push_of_some _ e) (Nat.le_refl _) (show ObjOk X.prog X.w _ _ _ (.frz _ (.tup ys)) from ⟨Heap.get?_push_size _ rfl, hz, its, r', IsTup.new _ _⟩)
  exact ⟨.ref h'.objs.size, _, I2, rfl, q _ _ (I1.hok.fresh (Nat.le_refl _)) rfl rfl⟩
def pTupleZ : PC1 := fun ds k => ∃ l, ds = [.lst l] ∧ (k (.tup l) ∨ k (.tz l))
theorem cd_tupleZ : CallD X (.type "tuple") (fun xs H Q => ∃ p ys, xs = [.ref p] ∧ SqL X.K H p ys ∧ ∀ l o, H l = none → o.cls = .type "tuple" → o.dict = none → Q (.ref l) (upd H l (.frz o (.tup ys)))) pTupleZ := ⟨call_tuple_z, fun F H vs ds Q k e is p q => by
  obtain ⟨l, rfl, p⟩ := p
  obtain ⟨v, rfl, i1⟩ := is.one
  obtain ⟨a, xs, rfl, g, s⟩ := i1.lstE
  refine ⟨a, xs, rfl, .of (e _ _ g), fun l' o hl hc hd => ?_⟩
  have s4 := Step.frz (o := .frz o (.tup xs)) e hl
  have i4 := s.mono s4.le
  have i5 : Is X.K (upd F l' (.frz o (.tup xs))) (.ref l') (.tz l) := .tz upd_same hc hd i4.1 i4.2
  rcases p with p | p
  · exact q _ _ _ _ s4 i5.untz p
  · exact q _ _ _ _ s4 i5 p⟩
/-- list(a list or a tuple) -/
def pList : PC1 := fun ds k => ∃ x l, ds = [x] ∧ elems x = some l ∧ k (.lst l)
theorem cd_list : CallD X (.type "list") (fun xs H Q => ∃ p ys, xs = [.ref p] ∧ (SqL X.K H p ys ∨ SqT X.K H p ys) ∧ ∀ l, H l = none → Q (.ref l) (upd H l (.lst ys))) pList := ⟨call_list_of, fun F H vs ds Q k e is p q => by
  obtain ⟨x, l, rfl, hl, p⟩ := p
  obtain ⟨v, rfl, i1⟩ := is.one
  obtain ⟨a, xs, rfl, s1, h1⟩ := i1.seqE hl
  have sq : SqL X.K H a xs ∨ SqT X.K H a xs := by
    rcases h1 with h1 | h1
    · exact .inl (.of (e _ _ h1.2))
    · exact .inr (h1.2.sqt e)
  refine ⟨a, xs, rfl, sq, fun l' hl => ?_⟩
  have s4 := Step.frz (o := .lst xs) e hl
  have i4 := s1.mono s4.le
  exact q _ _ _ _ s4 (.lst upd_same i4.1 i4.2) p⟩

/-! ### isinstance -/
def tyN : D → String
  | .non => "NoneType" | .bl _ => "bool" | .int _ => "int" | .str _ => "str" | .tup _ => "tuple" | .tz _ => "tuple" | .lst _ => "list" | .scr _ => "list" | .dk _ => "dict" | .dt _ => "dict"
theorem tyx_of {K : PySem.W.Frag} {F H : Hp} {v : V} {d : D} (e : Same F H) (h : Is K F v d) : TyX K H v (.type (tyN d)) := by
  cases h with
  | non => exact .base .non
  | bl b => exact .base (.bl b)
  | int i => exact .base (.int i)
  | str x => exact .base (.str x)
  | tup h _ _ =>
    rcases h with h | ⟨o, h⟩ | ⟨o, its, n, hk, hc, _⟩
    · exact .base (.tup (e _ _ h))
    · exact .fTuple (e _ _ h)
    · exact .kTuple hk hc
  | tz h _ _ _ _ => exact .fTuple (e _ _ h)
  | lst h _ _ => exact .base (.lst (e _ _ h))
  | scr h _ _ =>
    rcases h with h | ⟨o, h⟩ | ⟨o, its, n, hk, hc, _⟩
    · exact .base (.lst (e _ _ h))
    · exact .base (.frz (e _ _ h))
    · exact .kList hk hc
  | dk h _ _ => exact .base (.dK (e _ _ h))
  | dt h _ _ => exact .base (.dT (e _ _ h))
def dIsi (T : String) (te : DE) : DE := fun ρ n k => te ρ n fun x n1 => ∃ b, kitB (tyN x) T = some b ∧ k (.bl b) n1
theorem ae_isi {T : String} {y : Str} {p q : Pos} (ha : AE X e te' te) (hg : Gl X "isinstance") (hm : X.mg "isinstance" = none) (hg2 : Gl X y) (hm2 : X.mg y = none) (hv : bootBuiltins y = some (.type T)) (hn : y ≠ "__name__" := by decide) (hdb : (y == ("__debug__" : Str)) = false := by decide)
    (hs : starEach [e, .Name y q] X.env = (false, eval e X.env) :: starEach [.Name y q] X.env := by rfl) (hs2 : starEach [.Name y q] X.env = (false, eval (.Name y q) X.env) :: starEach [] X.env := by rfl) (hpl : (backTo pos (starEach [.Name y q] X.env)).any (·.1) = false := by rfl) :
    AE X (.Call (.Name "isinstance" p) [e, .Name y q] [] pos) (tCB (rIsi X.K) (tCons te' (tCons (tC (.ty T)) tNil))) (dIsi T te) := by
  refine ⟨pe_callB call_isi hg hm (by decide +kernel) (pa_cons ha.pe (pa_cons (pe_bltn (v := .ty T) hg2 hm2 hv rfl hn hdb) pa_nil hs2) hs) (by decide) (by decide) hs hpl, fun c F H σ ρ n Q k S h q => ?_⟩
  refine ha.rel c F H σ ρ n _ _ S h fun v x F1 H1 n1 s1 t1 i1 h1 => ?_
  obtain ⟨b, hb, h1⟩ := h1
  exact ⟨v, .ty T, .type (tyN x), .type T, b, rfl, .ty T, tyx_of s1.sub i1, kit_ty hb, q _ _ F1 H1 n1 s1 t1 (.bl b) h1⟩
def dIsi2 (T T2 : String) (te : DE) : DE := fun ρ n k => te ρ n fun x n1 => ∃ b b2, kitB (tyN x) T = some b ∧ kitB (tyN x) T2 = some b2 ∧ k (.bl (b || b2)) n1
theorem ae_isi2 {T T2 : String} {y z : Str} {p q q2 q3 : Pos} {j} (ha : AE X e te' te) (hg : Gl X "isinstance") (hm : X.mg "isinstance" = none) (hg2 : Gl X y) (hm2 : X.mg y = none) (hv : bootBuiltins y = some (.type T)) (hg3 : Gl X z) (hm3 : X.mg z = none) (hv3 : bootBuiltins z = some (.type T2))
    (hn : y ≠ "__name__" := by decide) (hdb : (y == ("__debug__" : Str)) = false := by decide) (hn3 : z ≠ "__name__" := by decide) (hdb3 : (z == ("__debug__" : Str)) = false := by decide)
    (hs : starEach [e, .Tuple [.Name y q, .Name z q2] j q3] X.env = (false, eval e X.env) :: starEach [.Tuple [.Name y q, .Name z q2] j q3] X.env := by rfl)
    (hs2 : starEach [.Tuple [.Name y q, .Name z q2] j q3] X.env = (false, eval (.Tuple [.Name y q, .Name z q2] j q3) X.env) :: starEach [] X.env := by rfl)
    (hs3 : starEach [.Name y q, .Name z q2] X.env = (false, eval (.Name y q) X.env) :: starEach [.Name z q2] X.env := by rfl) (hs4 : starEach [.Name z q2] X.env = (false, eval (.Name z q2) X.env) :: starEach [] X.env := by rfl)
    (hpl : (backTo pos (starEach [.Tuple [.Name y q, .Name z q2] j q3] X.env)).any (·.1) = false := by rfl) :
    AE X (.Call (.Name "isinstance" p) [e, .Tuple [.Name y q, .Name z q2] j q3] [] pos) (tCB (rIsiT X.K) (tCons te' (tCons (tTup (tCons (tC (.ty T)) (tCons (tC (.ty T2)) tNil))) tNil))) (dIsi2 T T2 te) := by
  refine ⟨pe_callB call_isiT hg hm (by decide +kernel) (pa_cons ha.pe (pa_cons (pe_tup (pa_cons (pe_bltn (v := .ty T) hg2 hm2 hv rfl hn hdb) (pa_cons (pe_bltn (v := .ty T2) hg3 hm3 hv3 rfl hn3 hdb3) pa_nil hs4) hs3)) pa_nil hs2) hs) (by decide) (by decide) hs hpl, fun c F H σ ρ n Q k S h q => ?_⟩
  refine ha.rel c F H σ ρ n _ _ S h fun v x F1 H1 n1 s1 t1 i1 h1 => ?_
  obtain ⟨b, b2, hb, hb2, h1⟩ := h1
  refine ⟨by show 2 ≤ sizeLine; decide, fun tp htp => ?_⟩
  have s2 := Step.new (o := .tup [.ty T, .ty T2]) s1.sub htp
  refine ⟨v, tp, [.ty T, .ty T2], .type (tyN x), [.type T, .type T2], b || b2, rfl, upd_same, .cons (.ty T) (.cons (.ty T2) .nil), tyx_of s2.sub i1, ?_, q _ _ F1 _ n1 (s1.trans s2.weak) (t1.step0 s2) (.bl _) h1⟩
  refine kitAny_cons (kit_ty hb) (fun e1 => ?_) (fun e1 => by rw [e1]; rfl)
  rw [e1]
  refine kitAny_cons (kit_ty hb2) (fun e2 => ?_) (fun e2 => by rw [e2]; rfl)
  rw [e2]
  rfl
end
end DL

namespace DL
open PySem PySem.Spec PyProof.Rows L2

/-! ### promises and calls of defs -/
abbrev RD := List Slot → Nat → DK → Prop
def CallArg (K : PySem.W.Frag) (t : Option Addr) (F : Hp) (v : V) : Slot → Prop
  | .d x => Is K F v x
  | .tin => ∃ a, v = .ref a ∧ t = some a
  | _ => False
def ArgsC (K : PySem.W.Frag) (t : Option Addr) (F : Hp) (vs : List V) (ss : List Slot) : Prop := vs.length = ss.length ∧ ∀ (i : Nat) (v : V) (s : Slot), vs[i]? = some v → ss[i]? = some s → CallArg K t F v s
theorem CallArg.mono {K : PySem.W.Frag} {t : Option Addr} {F F' : Hp} {v : V} {s : Slot} (h : CallArg K t F v s) (e : Same F F') : CallArg K t F' v s := by
  cases s with
  | d x => exact Is.mono e (show Is K F v x from h)
  | tin => exact h
  | _ => exact h
theorem ArgsC.mono {K : PySem.W.Frag} {t : Option Addr} {F F' : Hp} {vs : List V} {ss : List Slot} (h : ArgsC K t F vs ss) (e : Same F F') : ArgsC K t F' vs ss := ⟨h.1, fun i v s h1 h2 => (h.2 i v s h1 h2).mono e⟩
theorem ArgsC.cons {K : PySem.W.Frag} {t : Option Addr} {F : Hp} {v : V} {s : Slot} {vs : List V} {ss : List Slot} (h : CallArg K t F v s) (r : ArgsC K t F vs ss) : ArgsC K t F (v :: vs) (s :: ss) := by
  refine ⟨by simp [r.1], fun i x e h1 h2 => ?_⟩
  cases i with
  | zero =>
    have e1 : v = x := Option.some.inj h1
    have e2 : s = e := Option.some.inj h2
    rw [← e1, ← e2]
    exact h
  | succ i => exact r.2 i x e (by simpa using h1) (by simpa using h2)
/-- a def's promise over data: m parameters; what R says of arguments, the bound of draws, what is wanted -/
def spD (K : PySem.W.Frag) (m : Nat) (R : RD) : Sp := fun vs H Q _ => ∃ (t : Option Addr) (F : Hp) (ss : List Slot) (n : Nat) (k : DK),
  Same F H ∧ TinOk t F H n ∧ ArgsC K t F vs ss ∧ ss.length = m ∧ R ss n k ∧ Ek K ⟨t, F, H⟩ F H k Q
/-- a def that stands in the module and keeps such a promise -/
structure Cal (P : Program) (w : World) (K : PySem.W.Frag) (mg : Str → Option Value) (base : Heap) (k : Nat) (x : Str) (ps : List Str) (R : RD) : Prop where
  ex : ∃ f fd, FnOk P w K mg base CX0 k f fd ps (spD K ps.length R) ∧ PySem.W.keepIn K (.ref f) = true ∧ Binds K fd ps [] ∧ mg x = some (.ref f)
abbrev DS1 := List Slot → Nat → (List Slot → Nat → Prop) → Prop
def RelS (K : PySem.W.Frag) (m : Nat) (te : TA) (t : DS1) : Prop := ∀ (c : Ct) (F H : Hp) (σ : L2.St) (ρ : List Slot) (n : Nat) (Q : List V → Hp → Prop) (k : List Slot → Nat → Prop), Sat K c F H σ ρ n → t ρ n k →
  (∀ vs ss F' H' n', Step c.t F H F' H' → TinOk c.t F' H' n' → ArgsC K c.t F' vs ss → ss.length = m → k ss n' → Q vs H') → te σ H Q
structure AA (X : Cx) (es : List Expr) (te : TA) (t : DS1) : Prop where
  pe : PA X es te
  rel : RelS X.K es.length te t
section
variable {X : Cx} {a b e : Expr} {ta' tb' te' tc' : TE} {ta tb te tc : DE} {pos p2 : Pos} {es : List Expr} {t' : TA} {t : DS1}
def sNil : DS1 := fun _ n k => k [] n
def sCons (te : DE) (tr : DS1) : DS1 := fun ρ n k => te ρ n fun x n1 => tr ρ n1 fun xs n2 => k (.d x :: xs) n2
def sTin (i : Nat) (tr : DS1) : DS1 := fun ρ n k => ρ[i]? = some .tin ∧ tr ρ n fun xs n2 => k (.tin :: xs) n2
theorem aa_nil : AA X [] tNil sNil := ⟨pa_nil, fun c F H σ ρ n Q k S h q => q [] [] F H n (Step.refl S.sub) S.tin ⟨rfl, fun i v s h _ => by simp at h⟩ rfl h⟩
theorem aa_cons (he : AE X e te' te) (hr : AA X es t' t) (hs : starEach (e :: es) X.env = (false, eval e X.env) :: starEach es X.env := by rfl) : AA X (e :: es) (tCons te' t') (sCons te t) := by
  refine ⟨pa_cons he.pe hr.pe hs, fun c F H σ ρ n Q k S h q => ?_⟩
  refine he.rel c F H σ ρ n _ _ S h fun v x F1 H1 n1 s1 t1 i1 h1 => ?_
  refine hr.rel c F1 H1 σ ρ n1 _ _ (S.step s1 t1) h1 fun vs ds F2 H2 n2 s2 t2 i2 l2 h2 => ?_
  exact q (v :: vs) (.d x :: ds) F2 H2 n2 (s1.trans s2) t2 (.cons (s := .d x) (i1.mono s2.le) i2) (by simp [l2]) h2
/-- the source of draws, handed on -/
theorem aa_tin (i : Nat) {x : Str} (hr : AA X es t' t) (hN : X.N[i]? = some x := by rfl) (hv : Vis X.env.scope x := by first | exact Or.inl rfl | exact Or.inr (Or.inl rfl) | exact Or.inr (Or.inr rfl)) (hd : (x == ("__debug__" : Str)) = false := by decide)
    (hcd : (x == ("__classdict__" : Str)) = false := by decide) (hs : starEach (.Name x pos :: es) X.env = (false, eval (.Name x pos) X.env) :: starEach es X.env := by rfl) : AA X (.Name x pos :: es) (tCons (tVar i) t') (sTin i t) := by
  refine ⟨pa_cons (pe_var hN hv hd hcd) hr.pe hs, fun c F H σ ρ n Q k S h q => ?_⟩
  obtain ⟨e1, h⟩ := h
  obtain ⟨a, e2, e3⟩ := S.getTin e1
  refine ⟨.ref a, e2, ?_⟩
  refine hr.rel c F H σ ρ n _ _ S h fun vs ds F2 H2 n2 s2 t2 i2 l2 h2 => ?_
  exact q (.ref a :: vs) (.tin :: ds) F2 H2 n2 s2 t2 (.cons (s := .tin) ⟨a, rfl, e3⟩ i2) (by simp [l2]) h2
def dFn (R : RD) (t : DS1) : DE := fun ρ n k => t ρ n fun ss n1 => R ss n1 k
theorem ae_call {k : Nat} {x : Str} {ps : List Str} {R : RD} {p : Pos} (C : Cal X.prog X.w X.K X.mg X.base k x ps R) (hr : Room k X.A) (ha : AA X (e :: es) t' t) (hl : (e :: es).length = ps.length := by rfl) (hg : Gl X x := by rfl)
    (hdb : (x == ("__debug__" : Str)) = false := by decide) (he : starEach (e :: es) X.env = (false, eval e X.env) :: starEach es X.env := by rfl) (hpl : (backTo pos (starEach es X.env)).any (·.1) = false := by rfl) :
    AE X (.Call (.Name x p) (e :: es) [] pos) (tCall (spD X.K ps.length R) [] E0 t') (dFn R t) := by
  obtain ⟨f, fd, F, hk, hb, hm⟩ := C.ex
  refine ⟨pe_call F hr hg hm hk hb .nil pass0 ha.pe hdb he hpl, fun c F H σ ρ n Q k S h q => ?_⟩
  refine ha.rel c F H σ ρ n _ _ S h fun vs ss F1 H1 n1 s1 t1 i1 l1 h1 => ?_
  rw [List.append_nil]
  exact ⟨c.t, F1, ss, n1, k, s1.sub, t1, i1, by rw [l1]; exact hl, h1, fun v d F2 H2 n2 s2 t2 i2 h2 => q v d F2 H2 n2 (s1.trans s2) t2 i2 h2⟩
end

/-! ### what a for walks, as data -/
structure WalkD (K : PySem.W.Frag) (J : It) (F : Hp) (xs : List D) : Prop where
  goes : ∀ i H, i < xs.length → Same F H → J.go i H
  stops : ∀ H, Same F H → J.stop xs.length H
  yields : ∀ i H x H' Fi d, xs[i]? = some d → Same F Fi → Same Fi H → J.yld i H x H' → ∃ F1, Step none Fi H F1 H' ∧ Is K F1 x d
abbrev DI := List Slot → Nat → (List D → Nat → Prop) → Prop
def RelI (K : PySem.W.Frag) (wi : TI) (t : DI) : Prop := ∀ (c : Ct) (F H : Hp) (σ : L2.St) (ρ : List Slot) (n : Nat) (R : It → Hp → Prop) (k : List D → Nat → Prop), Sat K c F H σ ρ n → t ρ n k →
  (∀ J xs F' H' n', Step c.t F H F' H' → TinOk c.t F' H' n' → WalkD K J F' xs → k xs n' → R J H') → wi σ H R
structure AI (X : Cx) (tg iter : Expr) (wi : TI) (t : DI) : Prop where
  pe : PI X tg iter wi
  rel : RelI X.K wi t
section
variable {K : PySem.W.Frag} {F : Hp} {xs ys : List V} {ds es : List D} {a b : Addr}
theorem walkd_list (h : F a = some (.lst xs)) (s : Iss K F xs ds) : WalkD K (Itl K a) F ds := by
  refine ⟨fun i H hi e => ?_, fun H e => ⟨xs, .of (e _ _ h), by rw [s.1]; exact Nat.le_refl _⟩, fun i H x H' Fi d hd e1 e2 y => ?_⟩
  · have hx : i < xs.length := by rw [s.1]; exact hi
    exact ⟨xs, xs[i], .of (e _ _ h), List.getElem?_eq_getElem hx⟩
  · obtain ⟨rfl, y⟩ := y
    have hx := y xs (.of (e2 _ _ (e1 _ _ h)))
    exact ⟨Fi, Step.refl e2, (s.2 i x d hx hd).mono e1⟩
theorem walkd_tup (h : TupAt K F a xs) (s : Iss K F xs ds) : WalkD K (Itt K a) F ds := by
  refine ⟨fun i H hi e => ?_, fun H e => ⟨xs, h.sqt e, by rw [s.1]; exact Nat.le_refl _⟩, fun i H x H' Fi d hd e1 e2 y => ?_⟩
  · have hx : i < xs.length := by rw [s.1]; exact hi
    exact ⟨xs, xs[i], h.sqt e, List.getElem?_eq_getElem hx⟩
  · obtain ⟨rfl, y⟩ := y
    have hx := y xs (h.sqt (e1.trans e2))
    exact ⟨Fi, Step.refl e2, (s.2 i x d hx hd).mono e1⟩
/-- lo, lo + 1, .. -/
def ups (lo : Int) (n : Nat) : List D := (List.range n).map fun i => .int (lo + (i : Nat))
theorem walkd_range {lo : Int} {n : Nat} : WalkD K (Itr lo n) F (ups lo n) := by
  refine ⟨fun i H hi e => ?_, fun H e => ?_, fun i H x H' Fi d hd e1 e2 y => ?_⟩
  · have : i < n := by simpa [ups] using hi
    exact this
  · show n ≤ (ups lo n).length
    simp [ups]
  · obtain ⟨rfl, rfl⟩ := y
    have hi : i < n := by have := (List.getElem?_eq_some_iff.mp hd).1; simpa [ups] using this
    have e3 : d = .int (lo + (i : Nat)) := by
      unfold ups at hd
      rw [List.getElem?_map, List.getElem?_range hi] at hd
      exact (Option.some.inj hd).symm
    subst e3
    exact ⟨Fi, Step.refl e2, .int _⟩
/-- lo, lo + c, .. -/
def upsC (lo c : Int) (n : Nat) : List D := (List.range n).map fun i => .int (lo + (i : Nat) * c)
theorem walkd_rangeC {lo c : Int} {n : Nat} : WalkD K (Itc lo c n) F (upsC lo c n) := by
  refine ⟨fun i H hi e => ?_, fun H e => ?_, fun i H x H' Fi d hd e1 e2 y => ?_⟩
  · have : i < n := by simpa [upsC] using hi
    exact this
  · show n ≤ (upsC lo c n).length
    simp [upsC]
  · obtain ⟨rfl, rfl⟩ := y
    have hi : i < n := by have := (List.getElem?_eq_some_iff.mp hd).1; simpa [upsC] using this
    have e3 : d = .int (lo + (i : Nat) * c) := by
      unfold upsC at hd
      rw [List.getElem?_map, List.getElem?_range hi] at hd
      exact (Option.some.inj hd).symm
    subst e3
    exact ⟨Fi, Step.refl e2, .int _⟩
def signs (z : Str) : List D := z.cps.toList.map fun c => .str ⟨#[c]⟩
theorem walkd_str {z : Str} : WalkD K (Its z) F (signs z) := by
  refine ⟨fun i H hi e => ?_, fun H e => ?_, fun i H x H' Fi d hd e1 e2 y => ?_⟩
  · have : i < z.cps.size := by simpa [signs] using hi
    exact this
  · show z.cps.size ≤ (signs z).length
    simp [signs]
  · obtain ⟨rfl, c, hc, rfl⟩ := y
    have e3 : d = .str ⟨#[c]⟩ := by
      unfold signs at hd
      rw [List.getElem?_map, Array.getElem?_toList, hc] at hd
      exact (Option.some.inj hd).symm
    subst e3
    exact ⟨Fi, Step.refl e2, .str _⟩
/-- pairs -/
theorem pair_new {Fi H : Hp} {T : Addr} {x y : V} {d d' : D} (e : Same Fi H) (hT : H T = none) (h1 : Is K Fi x d) (h2 : Is K Fi y d') : ∃ F1, Step none Fi H F1 (upd H T (.tup [x, y])) ∧ Is K F1 (.ref T) (.tup [d, d']) := by
  have st := Step.frz (o := .tup [x, y]) e hT
  have s2 : Iss K (upd Fi T (.tup [x, y])) [x, y] [d, d'] := .cons (h1.mono st.le) (.cons (h2.mono st.le) .nil)
  exact ⟨_, st, .tup (.inl upd_same) s2.1 s2.2⟩
def pairs (ds es : List D) : List D := (ds.zip es).map fun q => .tup [q.1, q.2]
theorem pairs_at {i : Nat} {d : D} (h : (pairs ds es)[i]? = some d) : ∃ x y, ds[i]? = some x ∧ es[i]? = some y ∧ d = .tup [x, y] := by
  unfold pairs at h
  rw [List.getElem?_map] at h
  cases q : (ds.zip es)[i]? with
  | none => rw [q] at h; cases h
  | some p =>
    rw [q] at h
    obtain ⟨h1, h2⟩ := List.getElem?_zip_eq_some.mp q
    exact ⟨p.1, p.2, h1, h2, (Option.some.inj h).symm⟩
theorem walkd_zipL (h : F a = some (.lst xs)) (s : Iss K F xs ds) (h2 : F b = some (.lst ys)) (s2 : Iss K F ys es) : WalkD K (Itz K a b) F (pairs ds es) := by
  have hl : (pairs ds es).length = min ds.length es.length := by simp [pairs]
  refine ⟨fun i H hi e => ?_, fun H e => ⟨xs, ys, .of (e _ _ h), .of (e _ _ h2), by rw [hl, s.1, s2.1]; omega⟩, fun i H x H' Fi d hd e1 e2 y => ?_⟩
  · rw [hl] at hi
    have hx : i < xs.length := by rw [s.1]; omega
    have hy : i < ys.length := by rw [s2.1]; omega
    exact ⟨xs, ys, xs[i], ys[i], .of (e _ _ h), .of (e _ _ h2), List.getElem?_eq_getElem hx, List.getElem?_eq_getElem hy⟩
  · obtain ⟨T, u, v, rfl, hT, rfl, f1, f2⟩ := y
    obtain ⟨x, y, g1, g2, rfl⟩ := pairs_at hd
    have k1 := f1 xs (.of (e2 _ _ (e1 _ _ h)))
    have k2 := f2 ys (.of (e2 _ _ (e1 _ _ h2)))
    exact pair_new e2 hT ((s.2 i u x k1 g1).mono e1) ((s2.2 i v y k2 g2).mono e1)
theorem walkd_zipT (h : TupAt K F a xs) (s : Iss K F xs ds) (h2 : TupAt K F b ys) (s2 : Iss K F ys es) : WalkD K (RZ.ItzT K a b) F (pairs ds es) := by
  have hl : (pairs ds es).length = min ds.length es.length := by simp [pairs]
  refine ⟨fun i H hi e => ?_, fun H e => ⟨xs, ys, h.sqt e, h2.sqt e, by rw [hl, s.1, s2.1]; omega⟩, fun i H x H' Fi d hd e1 e2 y => ?_⟩
  · rw [hl] at hi
    have hx : i < xs.length := by rw [s.1]; omega
    have hy : i < ys.length := by rw [s2.1]; omega
    exact ⟨xs, ys, xs[i], ys[i], h.sqt e, h2.sqt e, List.getElem?_eq_getElem hx, List.getElem?_eq_getElem hy⟩
  · obtain ⟨T, u, v, rfl, hT, rfl, f1, f2⟩ := y
    obtain ⟨x, y, g1, g2, rfl⟩ := pairs_at hd
    have k1 := f1 xs (h.sqt (e1.trans e2))
    have k2 := f2 ys (h2.sqt (e1.trans e2))
    exact pair_new e2 hT ((s.2 i u x k1 g1).mono e1) ((s2.2 i v y k2 g2).mono e1)
def enums (ds : List D) : List D := (List.range ds.length).zip ds |>.map fun q => .tup [.int ((q.1 : Nat) : Int), q.2]
theorem enums_at {i : Nat} {d : D} (h : (enums ds)[i]? = some d) : ∃ x, ds[i]? = some x ∧ d = .tup [.int (i : Nat), x] := by
  unfold enums at h
  rw [List.getElem?_map] at h
  cases q : ((List.range ds.length).zip ds)[i]? with
  | none => rw [q] at h; cases h
  | some p =>
    rw [q] at h
    obtain ⟨h1, h2⟩ := List.getElem?_zip_eq_some.mp q
    have hi : i < ds.length := (List.getElem?_eq_some_iff.mp h2).1
    rw [List.getElem?_range hi] at h1
    have e := Option.some.inj h1
    exact ⟨p.2, h2, by rw [e]; exact (Option.some.inj h).symm⟩
theorem walkd_enumL (h : F a = some (.lst xs)) (s : Iss K F xs ds) : WalkD K (Ite K a) F (enums ds) := by
  have hl : (enums ds).length = ds.length := by simp [enums]
  refine ⟨fun i H hi e => ?_, fun H e => ⟨xs, .of (e _ _ h), by rw [hl, s.1]; exact Nat.le_refl _⟩, fun i H x H' Fi d hd e1 e2 y => ?_⟩
  · rw [hl] at hi
    have hx : i < xs.length := by rw [s.1]; exact hi
    exact ⟨xs, xs[i], .of (e _ _ h), List.getElem?_eq_getElem hx⟩
  · obtain ⟨T, u, rfl, hT, rfl, f1⟩ := y
    obtain ⟨x, g1, rfl⟩ := enums_at hd
    have k1 := f1 xs (.of (e2 _ _ (e1 _ _ h)))
    exact pair_new e2 hT (.int _) ((s.2 i u x k1 g1).mono e1)
theorem walkd_enumT (h : TupAt K F a xs) (s : Iss K F xs ds) : WalkD K (RW.IteT K a) F (enums ds) := by
  have hl : (enums ds).length = ds.length := by simp [enums]
  refine ⟨fun i H hi e => ?_, fun H e => ⟨xs, h.sqt e, by rw [hl, s.1]⟩, fun i H x H' Fi d hd e1 e2 y => ?_⟩
  · rw [hl] at hi
    have hx : i < xs.length := by rw [s.1]; exact hi
    exact ⟨xs, xs[i], h.sqt e, List.getElem?_eq_getElem hx⟩
  · obtain ⟨T, u, rfl, hT, rfl, f1⟩ := y
    obtain ⟨x, g1, rfl⟩ := enums_at hd
    have k1 := f1 xs (h.sqt (e1.trans e2))
    exact pair_new e2 hT (.int _) ((s.2 i u x k1 g1).mono e1)
end
section
variable {X : Cx} {a b e tg : Expr} {te' : TE} {te : DE} {pos p : Pos} {es : List Expr} {t' : TA} {t : DA}
def iSeqD (te : DE) : DI := fun ρ n k => te ρ n fun x n1 => ∃ l, elems x = some l ∧ k l n1
theorem ai_seq (ha : AE X e te' te) : AI X tg e (RW.iSeq X.K te') (iSeqD te) := by
  refine ⟨RW.pi_seq ha.pe, fun c F H σ ρ n R k S h q => ?_⟩
  refine ha.rel c F H σ ρ n _ _ S h fun v x F1 H1 n1 s1 t1 i1 h1 => ?_
  obtain ⟨l, hl, h1⟩ := h1
  obtain ⟨a, xs, rfl, s, g | g⟩ := i1.seqE hl
  · exact ⟨a, rfl, .inl ⟨⟨xs, .of (s1.sub _ _ g.2)⟩, q _ l F1 H1 n1 s1 t1 (walkd_list g.2 s) h1⟩⟩
  · exact ⟨a, rfl, .inr ⟨⟨xs, g.2.sqt s1.sub⟩, q _ l F1 H1 n1 s1 t1 (walkd_tup g.2 s) h1⟩⟩
def iStrD (te : DE) : DI := fun ρ n k => te ρ n fun x n1 => ∃ z, x = .str z ∧ k (signs z) n1
theorem ai_str (ha : AE X e te' te) : AI X tg e (iStr te') (iStrD te) := by
  refine ⟨pi_str ha.pe, fun c F H σ ρ n R k S h q => ?_⟩
  refine ha.rel c F H σ ρ n _ _ S h fun v x F1 H1 n1 s1 t1 i1 h1 => ?_
  obtain ⟨z, rfl, h1⟩ := h1
  cases i1
  exact ⟨z, rfl, q _ _ F1 H1 n1 s1 t1 walkd_str h1⟩
def iRng1D (t : DA) : DI := fun ρ n k => t ρ n fun ds n1 => ∃ j : Int, ds = [.int j] ∧ -(2 ^ 62) ≤ j ∧ j < 2 ^ 62 ∧ k (ups 0 j.toNat) n1
theorem ai_range1 (hg : Gl X "range") (hm : X.mg "range" = none) (ha : AD X [a] t' t) (hs : starEach [a] X.env = [(false, eval a X.env)] := by rfl) : AI X tg (.Call (.Name "range" p) [a] [] pos) (iRng1 t') (iRng1D t) := by
  refine ⟨pi_range1 hg hm ha.pe hs, fun c F H σ ρ n R k S h q => ?_⟩
  refine ha.rel c F H σ ρ n _ _ S h fun v ds F1 H1 n1 s1 t1 is l1 h1 => ?_
  obtain ⟨j, rfl, b1, b2, h1⟩ := h1
  obtain ⟨u, rfl, i1⟩ := is.one
  cases i1
  exact ⟨j, rfl, b1, b2, q _ _ F1 H1 n1 s1 t1 walkd_range h1⟩
def iRng2D (t : DA) : DI := fun ρ n k => t ρ n fun ds n1 => ∃ i j : Int, ds = [.int i, .int j] ∧ (-(2 ^ 62) ≤ i ∧ i < 2 ^ 62 ∧ -(2 ^ 62) ≤ j ∧ j < 2 ^ 62) ∧ k (ups i (j - i).toNat) n1
theorem ai_range2 (hg : Gl X "range") (hm : X.mg "range" = none) (ha : AD X [a, b] t' t) (hs : starEach [a, b] X.env = [(false, eval a X.env), (false, eval b X.env)] := by rfl) (hs2 : starEach [b] X.env = [(false, eval b X.env)] := by rfl) :
    AI X tg (.Call (.Name "range" p) [a, b] [] pos) (iRng2 t') (iRng2D t) := by
  refine ⟨pi_range2 hg hm ha.pe hs hs2, fun c F H σ ρ n R k S h q => ?_⟩
  refine ha.rel c F H σ ρ n _ _ S h fun v ds F1 H1 n1 s1 t1 is l1 h1 => ?_
  obtain ⟨i, j, rfl, b1, h1⟩ := h1
  obtain ⟨u, u', rfl, i1, i2⟩ := is.two
  cases i1
  cases i2
  exact ⟨i, j, rfl, b1, q _ _ F1 H1 n1 s1 t1 walkd_range h1⟩
theorem Iss.three {K : PySem.W.Frag} {F : Hp} {vs : List V} {d d' d2 : D} (h : Iss K F vs [d, d', d2]) : ∃ v v' v2, vs = [v, v', v2] ∧ Is K F v d ∧ Is K F v' d' ∧ Is K F v2 d2 := by
  obtain ⟨v, ys, rfl, h1, h2⟩ := h.headD
  obtain ⟨v', v2, rfl, h3, h4⟩ := h2.two
  exact ⟨v, v', v2, rfl, h1, h3, h4⟩
def iRng3D (t : DA) : DI := fun ρ n k => t ρ n fun ds n1 => ∃ (i j s : Int) (m : Nat), ds = [.int i, .int j, .int s] ∧ RgC i j s m ∧ k (upsC i s m) n1
theorem ai_range3 {c : Expr} (hg : Gl X "range") (hm : X.mg "range" = none) (ha : AD X [a, b, c] t' t) (hs : starEach [a, b, c] X.env = (false, eval a X.env) :: starEach [b, c] X.env := by rfl) (hpl : (backTo pos (starEach [b, c] X.env)).any (·.1) = false := by rfl) :
    AI X tg (.Call (.Name "range" p) [a, b, c] [] pos) (iRng3 t') (iRng3D t) := by
  refine ⟨pi_range3 hg hm ha.pe hs hpl, fun c F H σ ρ n R k S h q => ?_⟩
  refine ha.rel c F H σ ρ n _ _ S h fun v ds F1 H1 n1 s1 t1 is l1 h1 => ?_
  obtain ⟨i, j, s, m, rfl, b1, h1⟩ := h1
  obtain ⟨u, u', u2, rfl, i1, i2, i3⟩ := is.three
  cases i1
  cases i2
  cases i3
  exact ⟨i, j, s, m, rfl, b1, q _ _ F1 H1 n1 s1 t1 walkd_rangeC h1⟩
/-- zip of two lists, of two tuples -/
def iZipD (t : DA) : DI := fun ρ n k => t ρ n fun ds n1 => ∃ x y l m, ds = [x, y] ∧ ((x = .lst l ∧ y = .lst m) ∨ (x = .tup l ∧ y = .tup m)) ∧ k (pairs l m) n1
theorem ai_zip {elts : List Expr} {kk : Nat} {tpos : Pos} (hg : Gl X "zip") (hm : X.mg "zip" = none) (ha : AD X [a, b] t' t)
    (hs : starEach [a, b] X.env = (false, eval a X.env) :: starEach [b] X.env := by rfl) (hpl : (backTo pos (starEach [b] X.env)).any (·.1) = false := by rfl) :
    AI X (.Tuple elts kk tpos) (.Call (.Name "zip" p) [a, b] [] pos) (RZ.iZipA X.K t') (iZipD t) := by
  refine ⟨RZ.pi_zipA hg hm ha.pe hs hpl, fun c F H σ ρ n R k S h q => ?_⟩
  refine ha.rel c F H σ ρ n _ _ S h fun v ds F1 H1 n1 s1 t1 is l1 h1 => ?_
  obtain ⟨x, y, l, m, rfl, b1, h1⟩ := h1
  obtain ⟨u, u', rfl, i1, i2⟩ := is.two
  rcases b1 with ⟨rfl, rfl⟩ | ⟨rfl, rfl⟩
  · obtain ⟨a1, xs, rfl, g1, s1'⟩ := i1.lstE
    obtain ⟨a2, ys, rfl, g2, s2'⟩ := i2.lstE
    exact ⟨a1, a2, xs, ys, rfl, .inl ⟨.of (s1.sub _ _ g1), .of (s1.sub _ _ g2), q _ _ F1 H1 n1 s1 t1 (walkd_zipL g1 s1' g2 s2') h1⟩⟩
  · obtain ⟨a1, xs, rfl, g1, s1'⟩ := i1.tupE
    obtain ⟨a2, ys, rfl, g2, s2'⟩ := i2.tupE
    exact ⟨a1, a2, xs, ys, rfl, .inr ⟨g1.sqt s1.sub, g2.sqt s1.sub, q _ _ F1 H1 n1 s1 t1 (walkd_zipT g1 s1' g2 s2') h1⟩⟩
def iEnumDL (t : DA) : DI := fun ρ n k => t ρ n fun ds n1 => ∃ l, ds = [.lst l] ∧ k (enums l) n1
theorem ai_enumL {elts : List Expr} {kk : Nat} {tpos : Pos} (hg : Gl X "enumerate") (hm : X.mg "enumerate" = none) (ha : AD X [e] t' t) (hs : starEach [e] X.env = [(false, eval e X.env)] := by rfl) :
    AI X (.Tuple elts kk tpos) (.Call (.Name "enumerate" p) [e] [] pos) (iEnum X.K t') (iEnumDL t) := by
  refine ⟨pi_enum hg hm ha.pe hs, fun c F H σ ρ n R k S h q => ?_⟩
  refine ha.rel c F H σ ρ n _ _ S h fun v ds F1 H1 n1 s1 t1 is l1 h1 => ?_
  obtain ⟨l, rfl, h1⟩ := h1
  obtain ⟨u, rfl, i1⟩ := is.one
  obtain ⟨a1, xs, rfl, g1, s1'⟩ := i1.lstE
  exact ⟨a1, xs, rfl, .of (s1.sub _ _ g1), q _ _ F1 H1 n1 s1 t1 (walkd_enumL g1 s1') h1⟩
def iEnumDT (t : DA) : DI := fun ρ n k => t ρ n fun ds n1 => ∃ l, ds = [.tup l] ∧ k (enums l) n1
theorem ai_enumT {elts : List Expr} {kk : Nat} {tpos : Pos} (hg : Gl X "enumerate") (hm : X.mg "enumerate" = none) (ha : AD X [e] t' t) (hs : starEach [e] X.env = [(false, eval e X.env)] := by rfl) :
    AI X (.Tuple elts kk tpos) (.Call (.Name "enumerate" p) [e] [] pos) (RW.iEnumT X.K t') (iEnumDT t) := by
  refine ⟨RW.pi_enumT hg hm ha.pe hs, fun c F H σ ρ n R k S h q => ?_⟩
  refine ha.rel c F H σ ρ n _ _ S h fun v ds F1 H1 n1 s1 t1 is l1 h1 => ?_
  obtain ⟨l, rfl, h1⟩ := h1
  obtain ⟨u, rfl, i1⟩ := is.one
  obtain ⟨a1, xs, rfl, g1, s1'⟩ := i1.tupE
  exact ⟨a1, xs, rfl, g1.sqt s1.sub, q _ _ F1 H1 n1 s1 t1 (walkd_enumT g1 s1') h1⟩
end
end DL

namespace DL
open PySem PySem.Spec PyProof.Rows L2

/-! ### targets -/
def Agr (vs : List Nat) (σ σ' : L2.St) : Prop := σ'.length = σ.length ∧ ∀ i, i ∉ vs → σ'[i]? = σ[i]?
theorem Agr.trans {vs ws : List Nat} {σ σ1 σ2 : L2.St} (a : Agr vs σ σ1) (b : Agr ws σ1 σ2) : Agr (vs ++ ws) σ σ2 :=
  ⟨b.1.trans a.1, fun i h => (b.2 i fun z => h (List.mem_append_right _ z)).trans (a.2 i fun z => h (List.mem_append_left _ z))⟩
theorem wipe_at (σ : L2.St) : ∀ (vs : List Nat) (i : Nat), (wipe σ vs)[i]? = if i ∈ vs then (if i < σ.length then some none else none) else σ[i]?
  | [], i => by simp [wipe]
  | v :: vs, i => by
    show ((wipe σ vs).set v none)[i]? = _
    by_cases h : v = i
    · subst h
      by_cases hl : v < σ.length
      · rw [List.getElem?_set_self (by rw [wipe_length]; exact hl)]
        simp [hl]
      · rw [List.getElem?_eq_none (by simp [wipe_length]; omega)]
        simp [hl]
    · rw [List.getElem?_set_ne h, wipe_at σ vs i]
      have h2 : ¬ i = v := fun z => h z.symm
      simp [h2]
theorem wipe_agr {vs : List Nat} {σ σ' : L2.St} (h : Agr vs σ σ') : wipe σ' vs = wipe σ vs := by
  apply List.ext_getElem?
  intro i
  rw [wipe_at, wipe_at]
  by_cases hi : i ∈ vs
  · rw [if_pos hi, if_pos hi, h.1]
  · rw [if_neg hi, if_neg hi, h.2 i hi]
theorem agr_wipe (vs : List Nat) (σ : L2.St) : Agr vs σ (wipe σ vs) := ⟨wipe_length σ vs, fun i hi => by rw [wipe_at, if_neg hi]⟩
def wipeS (ρ : List Slot) : List Nat → List Slot
  | [] => ρ
  | v :: vs => (wipeS ρ vs).set v .no
theorem Sat.wipe {K : PySem.W.Frag} {c : Ct} {F H : Hp} {σ : L2.St} {ρ : List Slot} {n : Nat} (S : Sat K c F H σ ρ n) : ∀ vs : List Nat, Sat K c F H (L2.wipe σ vs) (wipeS ρ vs) n
  | [] => S
  | v :: vs => (S.wipe vs).forget v none
abbrev DG := D → List Slot → (List Slot → Prop) → Prop
abbrev DGs := List D → List Slot → (List Slot → Prop) → Prop
def RelG (K : PySem.W.Frag) (vs : List Nat) (g' : TG) (g : DG) : Prop := ∀ (c : Ct) (F H : Hp) (σ : L2.St) (ρ : List Slot) (n : Nat) (v : V) (d : D) (Q : L2.St → Hp → Prop) (k : List Slot → Prop), Sat K c F H σ ρ n → Is K F v d → g d ρ k →
  (∀ σ' ρ', Sat K c F H σ' ρ' n → k ρ' → Agr vs σ σ' → Q σ' H) → g' v σ H Q
def RelGs (K : PySem.W.Frag) (vs : List Nat) (g' : TGs) (g : DGs) : Prop := ∀ (c : Ct) (F H : Hp) (σ : L2.St) (ρ : List Slot) (n : Nat) (us : List V) (ds : List D) (Q : L2.St → Hp → Prop) (k : List Slot → Prop), Sat K c F H σ ρ n → Iss K F us ds → g ds ρ k →
  (∀ σ' ρ', Sat K c F H σ' ρ' n → k ρ' → Agr vs σ σ' → Q σ' H) → g' us σ H Q
structure AG (X : Cx) (tg : Expr) (vs : List Nat) (g' : TG) (g : DG) : Prop where
  pe : PG X tg g'
  rel : RelG X.K vs g' g
structure AGs (X : Cx) (tg : List Expr) (vs : List Nat) (g' : TGs) (g : DGs) : Prop where
  pe : PGs X tg g'
  rel : RelGs X.K vs g' g
def dgName (i : Nat) : DG := fun d ρ k => k (ρ.set i (.d d))
def dgNil : DGs := fun ds ρ k => ds = [] ∧ k ρ
def dgCons (t : DG) (u : DGs) : DGs := fun ds ρ k => ∃ d r, ds = d :: r ∧ t d ρ fun ρ' => u r ρ' k
def dgTup (n : Nat) (t : DGs) : DG := fun d ρ k => ∃ ds, d = .tup ds ∧ ds.length = n ∧ t ds ρ k
section
variable {X : Cx} {pos : Pos} {vs ws : List Nat}
theorem ag_name (i : Nat) {x : Str} (hN : X.N.Nodup) (hi : X.N[i]? = some x := by rfl) (hx : Loc X.env.scope x := by first | exact Or.inl rfl | exact Or.inr rfl) (hf : X.fn x = true ∨ X.env.scope.names.lookup x = some .local := by first | exact .inl rfl | exact .inr rfl | assumption) : AG X (.Name x pos) [i] (gName i) (dgName i) :=
  ⟨pg_name hN hi hx hf, fun c F H σ ρ n v d Q k S h hk q => q _ _ (S.setD h) hk ⟨by simp, fun j hj => by
    have : i ≠ j := fun z => hj (by simp [z])
    rw [List.getElem?_set_ne this]⟩⟩
theorem ags_nil : AGs X [] [] gNil dgNil := ⟨pgs_nil, fun c F H σ ρ n us ds Q k S h hk q => by
  obtain ⟨rfl, hk⟩ := hk
  exact ⟨h.nilD, q σ ρ S hk ⟨rfl, fun _ _ => rfl⟩⟩⟩
theorem ags_cons {e : Expr} {es : List Expr} {t' : TG} {u' : TGs} {t : DG} {u : DGs} (h1 : AG X e vs t' t) (h2 : AGs X es ws u' u)
    (hs : (assignEach (e :: es) X.env).map (·.2) = assign e X.env :: (assignEach es X.env).map (·.2) := by rfl) : AGs X (e :: es) (vs ++ ws) (gCons t' u') (dgCons t u) := ⟨pgs_cons h1.pe h2.pe hs, fun c F H σ ρ n us ds Q k S h hk q => by
  obtain ⟨d, r, rfl, hk⟩ := hk
  obtain ⟨v, ys, rfl, i1, i2⟩ := h.headD
  refine ⟨v, ys, rfl, ?_⟩
  refine h1.rel c F H σ ρ n v d _ _ S i1 hk fun σ1 ρ1 S1 hk1 a1 => ?_
  exact h2.rel c F H σ1 ρ1 n ys r _ _ S1 i2 hk1 fun σ2 ρ2 S2 hk2 a2 => q σ2 ρ2 S2 hk2 (a1.trans a2)⟩
theorem ag_tup {es : List Expr} {j : Nat} {t' : TGs} {t : DGs} {n : Nat} (hc : X.calm = true) (h : AGs X es vs t' t)
    (hn : (assignEach es X.env).length = n := by rfl) (hst : (assignEach es X.env).findIdx? (·.1) = none := by rfl) : AG X (.Tuple es j pos) vs (gTup X.K n t') (dgTup n t) := ⟨pg_tup hc h.pe hn hst, fun c F H σ ρ m v d Q k S hv hk q => by
  obtain ⟨ds, rfl, hl, hk⟩ := hk
  obtain ⟨a, xs, rfl, g, is⟩ := hv.tupE
  exact ⟨a, xs, rfl, g.sqt S.sub, by rw [is.1]; exact hl, h.rel c F H σ ρ m xs ds Q k S is hk q⟩⟩
end

/-! ### fresh lists -/
abbrev DLs := List Slot → Nat → (List D → Nat → Prop) → Prop
def RelL (K : PySem.W.Frag) (te : TE) (t : DLs) : Prop := ∀ (c : Ct) (F H : Hp) (σ : L2.St) (ρ : List Slot) (n : Nat) (Q : VK) (k : List D → Nat → Prop), Sat K c F H σ ρ n → t ρ n k →
  (∀ a xs l F' H' n', Step c.t F H F' H' → TinOk c.t F' H' n' → H a = none → F' a = none → H' a = some (.lst xs) → Iss K F' xs l → k l n' → Q (.ref a) H') → te σ H Q
structure AL (X : Cx) (e : Expr) (te : TE) (t : DLs) : Prop where
  pe : PE X e te
  rel : RelL X.K te t
def dOfL (t : DLs) : DE := fun ρ n k => t ρ n fun l n1 => k (.lst l) n1
theorem TinOk.ne {t : Option Addr} {F H : Hp} {n : Nat} {a : Addr} (h : TinOk t F H n) (ha : H a = none) : some a ≠ t := fun z => by
  subst z
  obtain ⟨_, x, y, w, e, _⟩ := h
  rw [ha] at e
  cases e
theorem Step.back {t : Option Addr} {F H F' H' : Hp} {a : Addr} (s : Step t F H F' H') (h : H' a = none) : H a = none := by
  cases e : H a with
  | none => rfl
  | some o => exact absurd h (s.there a (by rw [e]; exact fun q => nomatch q))
/-- a thing that H has not is changed -/
theorem Step.upd {t : Option Addr} {F H F' H' : Hp} {p : Addr} {o : HO} (s : Step t F H F' H') (h : H p = none) (hf : F' p = none) : Step t F H F' (L2.upd H' p o) :=
  ⟨s.le, fun a u n e => by rw [upd_ne (ne_of_none e h)]; exact s.ex a u n e, fun a u e => by rw [upd_ne (ne_of_none e hf)]; exact s.sub a u e, s.fr, fun a n => upd_there (s.there a n)⟩
theorem TinOk.upd {t : Option Addr} {F H : Hp} {n : Nat} {p : Addr} {o : HO} (h : TinOk t F H n) (hp : some p ≠ t) : TinOk t F (L2.upd H p o) n := by
  cases t with
  | none => trivial
  | some a =>
    obtain ⟨h1, x, y, z, h2, h3⟩ := h
    exact ⟨h1, x, y, z, by rw [upd_ne (fun q => hp (congrArg some q.symm))]; exact h2, h3⟩
/-- a list is frozen -/
theorem Step.frl {t : Option Addr} {F H F' H' : Hp} {p : Addr} {o : HO} (s : Step t F H F' H') (h : H p = none) (hf : F' p = none) (ho : H' p = some o) : Step t F H (L2.upd F' p o) H' :=
  ⟨s.le.trans (same_upd hf), s.ex, fun a u e => by
    by_cases z : a = p
    · subst z
      rw [upd_same] at e
      cases e
      exact ho
    · rw [upd_ne z] at e
      exact s.sub a u e, fun a e n => by
    have z : a ≠ p := fun z => n (z ▸ h)
    rw [upd_ne z]
    exact s.fr a e n, s.there⟩
theorem TinOk.frl {t : Option Addr} {F H : Hp} {n : Nat} {p : Addr} {o : HO} (h : TinOk t F H n) (hp : some p ≠ t) : TinOk t (L2.upd F p o) H n := by
  cases t with
  | none => trivial
  | some a =>
    obtain ⟨h1, x, y, z, h2, h3⟩ := h
    exact ⟨by rw [upd_ne (fun q => hp (congrArg some q.symm))]; exact h1, x, y, z, h2, h3⟩
theorem rel_ofL {K : PySem.W.Frag} {te : TE} {t : DLs} (h : RelL K te t) : RelE K te (dOfL t) := fun c F H σ ρ n Q k S h0 q => by
  refine h c F H σ ρ n Q _ S h0 fun a xs l F' H' n' s t ha hf hh is hk => ?_
  have ne : some a ≠ c.t := S.tin.ne ha
  have i2 := is.mono (same_upd (o := .lst xs) hf)
  exact q _ _ _ _ n' (s.frl ha hf hh) (t.frl ne) (.lst upd_same i2.1 i2.2) hk
section
variable {X : Cx} {a b e : Expr} {ta' tb' te' : TE} {ta tb te : DE} {tl : DLs} {pos : Pos} {es : List Expr} {t' : TA} {t : DA}
theorem AL.ae (h : AL X e te' tl) : AE X e te' (dOfL tl) := ⟨h.pe, rel_ofL h.rel⟩
theorem al_lst (h : AD X es t' t) (hl : es.length ≤ 1000 := by decide) : AL X (.List es pos) (tLst t') t := by
  refine ⟨pe_lst h.pe, fun c F H σ ρ n Q k S h0 q => ?_⟩
  refine h.rel c F H σ ρ n _ _ S h0 fun vs ds F1 H1 n1 s1 t1 i1 l1 h1 => ?_
  refine ⟨small (by rw [i1.1, l1]; exact hl), fun p hp => ?_⟩
  have st := Step.new (o := .lst vs) s1.sub hp
  have hf : F1 p = none := by
    cases z : F1 p with
    | none => rfl
    | some o => rw [s1.sub _ _ z] at hp; cases hp
  exact q p vs ds F1 _ n1 (s1.trans st.weak) (t1.step0 st) (s1.back hp) hf upd_same i1 h1
/-- list + list -/
def dCatL (ta tb : DE) : DLs := fun ρ n k => ta ρ n fun x n1 => tb ρ n1 fun y n2 => ∃ xs ys, x = .lst xs ∧ y = .lst ys ∧ xs.length ≤ 1000 ∧ ys.length ≤ 1000 ∧ k (xs ++ ys) n2
theorem al_cat (ha : AE X a ta' ta) (hb : AE X b tb' tb) : AL X (.BinOp a .Add b pos) (tOp rCat ta' tb') (dCatL ta tb) := by
  refine ⟨pe_op op_cat ha.pe hb.pe, fun c F H σ ρ n Q k S h q => ?_⟩
  refine ha.rel c F H σ ρ n _ _ S h fun v x F1 H1 n1 s1 t1 i1 h1 => ?_
  have S1 := S.step s1 t1
  refine hb.rel c F1 H1 σ ρ n1 _ _ S1 h1 fun u y F2 H2 n2 s2 t2 i2 h2 => ?_
  obtain ⟨xs, ys, rfl, rfl, l1, l2, h2⟩ := h2
  obtain ⟨a, vs, rfl, g1, is1⟩ := (i1.mono s2.le).lstE
  obtain ⟨b, us, rfl, g2, is2⟩ := i2.lstE
  refine ⟨a, b, vs, us, rfl, rfl, s2.sub _ _ g1, s2.sub _ _ g2, small2 (by rw [is1.1]; exact l1) (by rw [is2.1]; exact l2), fun p hp => ?_⟩
  have st := Step.new (o := .lst (vs ++ us)) s2.sub hp
  have hf : F2 p = none := by
    cases z : F2 p with
    | none => rfl
    | some o => rw [s2.sub _ _ z] at hp; cases hp
  exact q p _ _ F2 _ n2 ((s1.trans s2).trans st.weak) (t2.step0 st) ((s1.trans s2).back hp) hf upd_same (is1.append is2) h2
/-- list * int -/
def dRepL (ta tb : DE) : DLs := fun ρ n k => ta ρ n fun x n1 => tb ρ n1 fun y n2 => ∃ (xs : List D) (i : Int), x = .lst xs ∧ y = .int i ∧ xs.length ≤ 100 ∧ 0 ≤ i ∧ i ≤ 100 ∧ k (List.replicate i.toNat xs).flatten n2
theorem iss_rep {K : PySem.W.Frag} {F : Hp} {vs : List V} {ds : List D} (h : Iss K F vs ds) : ∀ m : Nat, Iss K F (List.replicate m vs).flatten (List.replicate m ds).flatten
  | 0 => .nil
  | m + 1 => by
    rw [List.replicate_succ, List.replicate_succ, List.flatten_cons, List.flatten_cons]
    exact h.append (iss_rep h m)
theorem al_rep (ha : AE X a ta' ta) (hb : AE X b tb' tb) : AL X (.BinOp a .Mult b pos) (tOp rRep ta' tb') (dRepL ta tb) := by
  refine ⟨pe_op op_rep ha.pe hb.pe, fun c F H σ ρ n Q k S h q => ?_⟩
  refine ha.rel c F H σ ρ n _ _ S h fun v x F1 H1 n1 s1 t1 i1 h1 => ?_
  have S1 := S.step s1 t1
  refine hb.rel c F1 H1 σ ρ n1 _ _ S1 h1 fun u y F2 H2 n2 s2 t2 i2 h2 => ?_
  obtain ⟨xs, i, rfl, rfl, l1, l2, l3, h2⟩ := h2
  obtain ⟨a, vs, rfl, g1, is1⟩ := (i1.mono s2.le).lstE
  cases i2
  refine ⟨a, i, vs, rfl, rfl, s2.sub _ _ g1, by omega, by omega, ?_, fun p hp => ?_⟩
  · have h3 : vs.length ≤ 100 := by rw [is1.1]; exact l1
    have h4 : i.toNat ≤ 100 := by omega
    exact Nat.le_trans (Nat.mul_le_mul h3 h4) (by decide)
  have st := Step.new (o := .lst (List.replicate i.toNat vs).flatten) s2.sub hp
  have hf : F2 p = none := by
    cases z : F2 p with
    | none => rfl
    | some o => rw [s2.sub _ _ z] at hp; cases hp
  exact q p _ _ F2 _ n2 ((s1.trans s2).trans st.weak) (t2.step0 st) ((s1.trans s2).back hp) hf upd_same (iss_rep is1 _) h2
end

/-! ### comprehensions -/
structure ATs (X : Cx) (ifs : List Expr) (te : TT) (t : DT) : Prop where
  pe : PTs X ifs te
  rel : RelT X.K te t
def dYes : DT := fun _ n k => k true n
theorem ats_nil {X : Cx} : ATs X [] tYes dYes := ⟨pts_nil, fun c F H σ ρ n Q k S h q => q true F H n (Step.refl S.sub) S.tin h⟩
theorem ats_one {X : Cx} {c : Expr} {t' : TT} {t : DT} (h : AT X c t' t) : ATs X [c] t' t := ⟨pts_one h.pe, h.rel⟩
def lcRun (g : DG) (tt : DT) (te : DE) (ρ : List Slot) : List D → List D → Nat → (List D → Nat → Prop) → Prop
  | [], acc, n, k => k acc n
  | d :: r, acc, n, k => g d ρ fun ρ2 => tt ρ2 n fun b n2 => if b = true then te ρ2 n2 fun y n3 => lcRun g tt te ρ r (acc ++ [y]) n3 k else lcRun g tt te ρ r acc n2 k
def dLc (ti : DI) (g : DG) (tt : DT) (te : DE) (vs : List Nat) : DLs := fun ρ n k => ti ρ n fun xs n1 => xs.length ≤ 1000 ∧ lcRun g tt te (wipeS ρ vs) xs [] n1 k
theorem rel_lc {K : PySem.W.Frag} {wi : TI} {g' : TG} {tt' : TT} {te' : TE} {vs : List Nat} {ti : DI} {g : DG} {tt : DT} {te : DE} (hi : RelI K wi ti) (hg : RelG K vs g' g) (ht : RelT K tt' tt) (he : RelE K te' te) : RelL K (tLc wi g' tt' te' vs) (dLc ti g tt te vs) := fun c F H σ ρ n Q k S h q => by
  refine hi c F H σ ρ n _ _ S h fun J xs F1 H1 n1 s1 t1 wd h1 => ?_
  obtain ⟨hlen, h1⟩ := h1
  have S1 := S.step s1 t1
  intro Dd hD
  have neD : some Dd ≠ c.t := t1.ne hD
  have fD : F1 Dd = none := by
    cases z : F1 Dd with
    | none => rfl
    | some o => rw [s1.sub _ _ z] at hD; cases hD
  have W : Walk J xs.length (fun H => Same F1 H) (fun i H x H' => J.yld i H x H') := ⟨fun i H hi g => wd.goes i H hi g, fun H g => wd.stops H g, fun i H x H' _ _ y => y⟩
  refine lc_it W (fun i Hi => ∃ Fi ni us ds, Step c.t F1 H1 Fi Hi ∧ TinOk c.t Fi Hi ni ∧ Fi Dd = none ∧ Hi Dd = some (.lst us) ∧ Iss K Fi us ds ∧ ds.length ≤ i ∧ i ≤ xs.length ∧ lcRun g tt te (wipeS ρ vs) (xs.drop i) ds ni k)
    ⟨F1, n1, [], [], (Step.new s1.sub hD).weak, t1.step0 (Step.new s1.sub hD), fD, upd_same, .nil, Nat.le_refl _, Nat.zero_le _, h1⟩ (fun i Hi _ p => ?_) (fun i x Hi H' hlt p y => ?_) (fun Hi p => ?_)
  · obtain ⟨Fi, ni, us, ds, st, _⟩ := p
    exact st.le.trans st.sub
  · obtain ⟨Fi, ni, us, ds, st, ti, fi, hh, is, li, lx, run⟩ := p
    obtain ⟨d, hd⟩ : ∃ d, xs[i]? = some d := ⟨_, List.getElem?_eq_getElem hlt⟩
    have ed : xs.drop i = d :: xs.drop (i + 1) := by
      have e1 : xs[i] = d := by rw [List.getElem?_eq_getElem hlt] at hd; exact Option.some.inj hd
      rw [List.drop_eq_getElem_cons hlt, e1]
    rw [ed] at run
    obtain ⟨F2, s2, i2⟩ := wd.yields i Hi x H' Fi d hd st.le st.sub y
    have S2 : Sat K c F2 H' (L2.wipe σ vs) (wipeS ρ vs) ni := ((S1.step st ti).wipe vs).step0 s2
    have f2 : F2 Dd = none := s2.fr Dd fi (by rw [hh]; exact fun z => nomatch z)
    have hh2 : H' Dd = some (.lst us) := s2.same _ _ hh
    have is2 := is.mono s2.le
    refine hg c F2 H' _ _ ni x d _ _ S2 i2 run fun σ2 ρ2 S3 run2 ag => ?_
    have ew : L2.wipe σ2 vs = L2.wipe σ vs := by
      have := wipe_agr ag
      rw [this]
      exact wipe_agr (agr_wipe vs σ)
    refine ⟨ew, ?_⟩
    refine ht c F2 H' σ2 ρ2 ni _ _ S3 run2 fun b F3 H3 n3 s3 t3 run3 => ?_
    have f3 : F3 Dd = none := s3.fr Dd f2 (by rw [hh2]; exact fun z => nomatch z)
    have hh3 : H3 Dd = some (.lst us) := s3.ex _ _ neD hh2
    have is3 := is2.mono s3.le
    have st3 : Step c.t F1 H1 F3 H3 := (st.trans s2.weak).trans s3
    cases b with
    | false => exact ⟨F3, n3, us, ds, st3, t3, f3, hh3, is3, Nat.le_succ_of_le li, hlt, run3⟩
    | true =>
      rw [if_pos rfl] at run3 ⊢
      refine he c F3 H3 σ2 ρ2 n3 _ _ (S3.step s3 t3) run3 fun yv yd F4 H4 n4 s4 t4 i4 run4 => ?_
      have f4 : F4 Dd = none := s4.fr Dd f3 (by rw [hh3]; exact fun z => nomatch z)
      have hh4 : H4 Dd = some (.lst us) := s4.ex _ _ neD hh3
      have is4 := (is3.mono s4.le).snoc i4
      refine ⟨us, hh4, ?_, F4, n4, us ++ [yv], ds ++ [yd], (st3.trans s4).upd hD f4, t4.upd neD, f4, upd_same, is4, by simp; omega, hlt, run4⟩
      rw [is.1]
      exact Nat.lt_of_le_of_lt (Nat.le_trans li (Nat.le_trans lx hlen)) (by decide)
  · obtain ⟨Fi, ni, us, ds, st, ti, fi, hh, is, li, lx, run⟩ := p
    rw [List.drop_length] at run
    exact q Dd us ds Fi Hi ni (s1.trans st) ti (s1.back hD) fi hh is run
theorem al_lc {X : Cx} {elt tg iter : Expr} {ifs : List Expr} {scope : Scope} {own : List (Str × Nat)} {pos : Pos} {wi : TI} {g' : TG} {tt' : TT} {te' : TE} {ti : DI} {g : DG} {tt : DT} {te : DE} {vs : List Nat} (hc : X.calm = true) (hN : X.N.Nodup) (ok : BlkOk X.N X.env.scope scope own) (hvs : own.map (·.2) = vs) (hi : AI X tg iter wi ti)
    (hg : ∀ (s : Shared) (H : Hp) (C : Addr) (cl : List (Str × Addr)) (fp : List Addr), AG (X.blk s H scope (compEnvC scope cl C X.env) fp) tg vs g' g) (ht : ∀ (s : Shared) (H : Hp) (C : Addr) (cl : List (Str × Addr)) (fp : List Addr), ATs (X.blk s H scope (compEnvC scope cl C X.env) fp) ifs tt' tt)
    (he : ∀ (s : Shared) (H : Hp) (C : Addr) (cl : List (Str × Addr)) (fp : List Addr), AE (X.blk s H scope (compEnvC scope cl C X.env) fp) elt te' te) (hs : ∀ x, foldedSetIterable iter X.env x = pure x := by intro _; rfl) :
    AL X (.ListComp elt [⟨tg, iter, ifs, 0⟩] scope pos) (tLc wi g' tt' te' (own.map (·.2))) (dLc ti g tt te vs) := by
  subst hvs
  exact ⟨pe_lc hc hN hi.pe ok (fun s H C cl fp => (hg s H C cl fp).pe) (fun s H C cl fp => (ht s H C cl fp).pe) (fun s H C cl fp => (he s H C cl fp).pe) hs,
    rel_lc hi.rel (hg X.s_0 X.H_0 0 [] []).rel (ht X.s_0 X.H_0 0 [] []).rel (he X.s_0 X.H_0 0 [] []).rel⟩
end DL

namespace DL
open PySem PySem.Spec PyProof.Rows L2

/-! ### statements -/
structure DEnds where
  nx : List Slot → Nat → Prop
  rt : DK
  bk : List Slot → Nat → Prop := fun _ _ => False
  ct : List Slot → Nat → Prop := fun _ _ => False
abbrev DS := DEnds → List Slot → Nat → Prop
structure Tie (K : PySem.W.Frag) (c : Ct) (G : DEnds) (E : Ends) : Prop where
  nx : ∀ F H σ ρ n, Sat K c F H σ ρ n → G.nx ρ n → E.nx σ H
  rt : ∀ v d F H n, Step c.t c.F c.H F H → TinOk c.t F H n → Is K F v d → G.rt d n → E.rt v H
  bk : ∀ F H σ ρ n, Sat K c F H σ ρ n → G.bk ρ n → E.bk σ H
  ct : ∀ F H σ ρ n, Sat K c F H σ ρ n → G.ct ρ n → E.ct σ H
def RelSt (K : PySem.W.Frag) (ts : TS) (t : DS) : Prop := ∀ (c : Ct) (F H : Hp) (σ : L2.St) (ρ : List Slot) (n : Nat) (G : DEnds) (E : Ends), Sat K c F H σ ρ n → t G ρ n → Tie K c G E → ts E σ H
structure AS (X : Cx) (st : Stmt) (ts : TS) (t : DS) : Prop where
  pe : PS X st ts
  rel : RelSt X.K ts t
structure AB (X : Cx) (sts : List Stmt) (ts : TS) (t : DS) : Prop where
  pe : PSs X sts ts
  rel : RelSt X.K ts t
section
variable {X : Cx} {st : Stmt} {rest : List Stmt} {t' u' : TS} {t u : DS} {e : Expr} {te' : TE} {te : DE} {pos pos' : Pos}
def dNext : DS := fun G ρ n => G.nx ρ n
def dSeq (t u : DS) : DS := fun G ρ n => t { G with nx := u G } ρ n
theorem ab_nil : AB X [] tNext dNext := ⟨pss_nil, fun c F H σ ρ n G E S h ti => ti.nx F H σ ρ n S h⟩
theorem ab_cons (h1 : AS X st t' t) (h2 : AB X rest u' u) : AB X (st :: rest) (tSeq t' u') (dSeq t u) := ⟨pss_cons h1.pe h2.pe, fun c F H σ ρ n G E S h ti =>
  h1.rel c F H σ ρ n { G with nx := u G } { E with nx := u' E } S h ⟨fun F H σ ρ n S' h' => h2.rel c F H σ ρ n G E S' h' ti, ti.rt, ti.bk, ti.ct⟩⟩
theorem ab_one (h1 : AS X st t' t) : AB X [st] t' t := ⟨pss_one h1.pe, h1.rel⟩
/-- an own list is data from here on -/
def dFrz (i : Nat) (t : DS) : DS := fun G ρ n => ∃ l, ρ[i]? = some (.own l) ∧ t G (ρ.set i (.d (.lst l))) n
theorem ab_frz (i : Nat) {sts : List Stmt} (h : AB X sts t' t) : AB X sts t' (dFrz i t) := ⟨h.pe, fun c F H σ ρ n G E S h0 ti => by
  obtain ⟨l, e, h0⟩ := h0
  obtain ⟨F', le, S'⟩ := S.freeze e
  exact h.rel c F' H σ _ n G E S' h0 ti⟩
def dNever : DS := fun _ _ _ => False
theorem as_never : AS X st tNever dNever := ⟨ps_never, fun c F H σ ρ n G E S h ti => h⟩
theorem ab_never {sts : List Stmt} : AB X sts tNever dNever := ⟨pss_never, fun c F H σ ρ n G E S h ti => h⟩
def dRet (te : DE) : DS := fun G ρ n => te ρ n G.rt
theorem as_ret (he : AE X e te' te) : AS X (.Return (some e) pos) (tRet te') (dRet te) := ⟨ps_ret he.pe, fun c F H σ ρ n G E S h ti =>
  he.rel c F H σ ρ n _ _ S h fun v d F' H' n' s t i h' => ti.rt v d F' H' n' (S.st.trans s) t i h'⟩
def dDrop (te : DE) : DS := fun G ρ n => te ρ n fun _ n1 => G.nx ρ n1
def dIfS (c : DT) (t u : DS) : DS := fun G ρ n => c ρ n fun b n1 => if b = true then t G ρ n1 else u G ρ n1
theorem as_if {c : Expr} {a b : List Stmt} {tc' : TT} {tc : DT} (hc : AT X c tc' tc) (ha : AB X a t' t) (hb : AB X b u' u) : AS X (.If c a b pos) (tIfS tc' t' u') (dIfS tc t u) := ⟨ps_if hc.pe ha.pe hb.pe, fun c F H σ ρ n G E S h ti => by
  refine hc.rel c F H σ ρ n _ _ S h fun v F1 H1 n1 s1 t1 h1 => ?_
  cases v with
  | true => exact ha.rel c F1 H1 σ ρ n1 G E (S.step s1 t1) h1 ti
  | false => exact hb.rel c F1 H1 σ ρ n1 G E (S.step s1 t1) h1 ti⟩
/-- x = e -/
def dSet (i : Nat) (te : DE) : DS := fun G ρ n => te ρ n fun d n1 => G.nx (ρ.set i (.d d)) n1
theorem rel_set {K : PySem.W.Frag} (i : Nat) (he : RelE K te' te) : RelSt K (tAsg te' (gName i)) (dSet i te) := fun c F H σ ρ n G E S h ti =>
  he c F H σ ρ n _ _ S h fun v d F' H' n' s t is h' => ti.nx F' H' _ _ n' ((S.step s t).setD is) h'
theorem as_set (i : Nat) {x : Str} (hN : X.N.Nodup) (he : AE X e te' te) (hi : X.N[i]? = some x := by rfl) (hx : Loc X.env.scope x := by first | exact Or.inl rfl | exact Or.inr rfl) (hs : swapsWith e (some (.Name x pos')) pos.line X.env = pure false := by rfl) (hf : X.fn x = true ∨ X.env.scope.names.lookup x = some .local := by first | exact .inl rfl | exact .inr rfl | assumption) :
    AS X (.Assign [.Name x pos'] e pos) (tAsg te' (gName i)) (dSet i te) := ⟨ps_set hN hi hx he.pe hs hf, rel_set i he.rel⟩
/-- x = a fresh list: x's own -/
def dSetL (i : Nat) (tl : DLs) : DS := fun G ρ n => tl ρ n fun l n1 => G.nx (ρ.set i (.own l)) n1
theorem Sat.setOwn {K : PySem.W.Frag} {c : Ct} {F H F' H' : Hp} {σ : L2.St} {ρ : List Slot} {n n' : Nat} {i : Nat} {a : Addr} {xs : List V} {l : List D} (S : Sat K c F H σ ρ n) (s : Step c.t F H F' H') (t : TinOk c.t F' H' n') (ha : H a = none) (hf : F' a = none) (hh : H' a = some (.lst xs)) (is : Iss K F' xs l) :
    Sat K c F' H' (σ.set i (some (.ref a))) (ρ.set i (.own l)) n' := by
  refine (S.step s t).set ⟨a, xs, rfl, S.st.back ha, hf, S.tin.ne ha, hh, is⟩ fun l2 a2 e1 e2 j m hj e3 e4 => ?_
  cases e2
  obtain ⟨b, ys, q1, _, _, _, q2, _⟩ := S.getOwn e3
  rw [q1] at e4
  cases e4
  rw [ha] at q2
  cases q2
theorem rel_setL {K : PySem.W.Frag} {tl : DLs} (i : Nat) (he : RelL K te' tl) : RelSt K (tAsg te' (gName i)) (dSetL i tl) := fun c F H σ ρ n G E S h ti =>
  he c F H σ ρ n _ _ S h fun a xs l F' H' n' s t ha hf hh is h' => ti.nx F' H' _ _ n' (S.setOwn s t ha hf hh is) h'
theorem as_setL (i : Nat) {tl : DLs} {x : Str} (hN : X.N.Nodup) (he : AL X e te' tl) (hi : X.N[i]? = some x := by rfl) (hx : Loc X.env.scope x := by first | exact Or.inl rfl | exact Or.inr rfl) (hs : swapsWith e (some (.Name x pos')) pos.line X.env = pure false := by rfl) (hf : X.fn x = true ∨ X.env.scope.names.lookup x = some .local := by first | exact .inl rfl | exact .inr rfl | assumption) :
    AS X (.Assign [.Name x pos'] e pos) (tAsg te' (gName i)) (dSetL i tl) := ⟨ps_set hN hi hx he.pe hs hf, rel_setL i he.rel⟩
/-- x = [.. for ..] on one line, x a local -/
theorem as_setLc (i : Nat) {y : Str} {py : Pos} {elt tg iter : Expr} {ifs : List Expr} {scope : Scope} {own : List (Str × Nat)} {pos spos : Pos} {wi : TI} {g' : TG} {tt' : TT} {te' : TE} {ti : DI} {g : DG} {tt : DT} {te : DE} {vs : List Nat} (hc : X.calm = true) (hN : X.N.Nodup) (hy : X.N[i]? = some y) (hyl : X.env.scope.names.lookup y = some .local)
    (hsw : swapsWith (.ListComp elt [⟨tg, iter, ifs, 0⟩] scope pos) (some (.Name y py)) spos.line X.env = pure true) (ok : BlkOk X.N X.env.scope scope own) (hvs : own.map (·.2) = vs) (hi : AI X tg iter wi ti)
    (hg : ∀ (s : Shared) (H : Hp) (C : Addr) (cl : List (Str × Addr)) (fp : List Addr), AG (X.blk s H scope (compEnvC scope cl C X.env) fp) tg vs g' g) (ht : ∀ (s : Shared) (H : Hp) (C : Addr) (cl : List (Str × Addr)) (fp : List Addr), ATs (X.blk s H scope (compEnvC scope cl C X.env) fp) ifs tt' tt)
    (he : ∀ (s : Shared) (H : Hp) (C : Addr) (cl : List (Str × Addr)) (fp : List Addr), AE (X.blk s H scope (compEnvC scope cl C X.env) fp) elt te' te) (hs : ∀ x, foldedSetIterable iter X.env x = pure x := by intro _; rfl) :
    AS X (.Assign [.Name y py] (.ListComp elt [⟨tg, iter, ifs, 0⟩] scope pos) spos) (tAsg (tLc wi g' tt' te' (own.map (·.2))) (gName i)) (dSetL i (dLc ti g tt te vs)) := by
  subst hvs
  exact ⟨ps_setLc hc hN hy hyl hsw hi.pe ok (fun s H C cl fp => (hg s H C cl fp).pe) (fun s H C cl fp => (ht s H C cl fp).pe) (fun s H C cl fp => (he s H C cl fp).pe) hs,
    rel_setL i (rel_lc hi.rel (hg X.s_0 X.H_0 0 [] []).rel (ht X.s_0 X.H_0 0 [] []).rel (he X.s_0 X.H_0 0 [] []).rel)⟩
/-- a target of names = e -/
def dAsg (te : DE) (g : DG) : DS := fun G ρ n => te ρ n fun d n1 => g d ρ fun ρ' => G.nx ρ' n1
theorem as_asg {tg : Expr} {vs : List Nat} {g' : TG} {g : DG} (he : AE X e te' te) (hg : AG X tg vs g' g) (hs : swapsWithSole [tg] e pos.line X.env = pure false := by rfl) (hw : swappedStores [tg] e X.env = pure none := by rfl)
    (h1 : (assignEach [tg] X.env).map (·.2) = [assign tg X.env] := by rfl) : AS X (.Assign [tg] e pos) (tAsg te' g') (dAsg te g) := ⟨ps_asg he.pe hg.pe hs hw h1, fun c F H σ ρ n G E S h ti =>
  he.rel c F H σ ρ n _ _ S h fun v d F' H' n' s t is h' => hg.rel c F' H' σ ρ n' v d _ _ (S.step s t) is h' fun σ' ρ' S' h2 _ => ti.nx F' H' σ' ρ' n' S' h2⟩
/-- x.append(e), x's own list -/
def dApp (i : Nat) (te : DE) : DS := fun G ρ n => ∃ l, ρ[i]? = some (.own l) ∧ l.length ≤ 1000 ∧ te ρ n fun d n1 => G.nx (ρ.set i (.own (l ++ [d]))) n1
theorem as_app (i : Nat) {x : Str} {p1 p2 p3 p4 : Pos} (he : AE X e te' te) (hN : X.N[i]? = some x := by rfl) (hv : Vis X.env.scope x := by first | exact Or.inl rfl | exact Or.inr (Or.inl rfl) | exact Or.inr (Or.inr rfl)) (hd : (x == ("__debug__" : Str)) = false := by decide)
    (hcd : (x == ("__classdict__" : Str)) = false := by decide) (hsw : swapsWith (.Call (.Attribute (.Name x p1) "append" p2) [e] [] p3) none p4.line X.env = pure false := by rfl)
    (hbase : attributeBase (.Name x p1) "append" X.env (eval (.Name x p1) X.env) = eval (.Name x p1) X.env := by rfl)
    (hfew : ((backTo p3 (starEach [e] X.env)).all (fun x => !x.1) && (backToKw p3 (keywordEach [] X.env)).all (fun x => x.1.isSome)
      && decide ([e].length + ([] : List Keyword).length + (if ([] : List Keyword).isEmpty then 0 else 1) < 30)) = true := by rfl)
    (hline : (p2.endLine == p3.line) = true := by rfl) (hs : starEach [e] X.env = (false, eval e X.env) :: starEach [] X.env := by rfl) (hplain : (backTo p3 (starEach [] X.env)).any (·.1) = false := by rfl) :
    AS X (.Expr (.Call (.Attribute (.Name x p1) "append" p2) [e] [] p3) p4) (tDrop (tBM X.K "list" rAppend (tVar i) (tCons te' tNil))) (dApp i te) := by
  refine ⟨ps_expr (pe_bm PySem.F.plainAttrs_list PySem.F.slot_list_append PySem.F.type_list_append mt_append (pe_var hN hv hd hcd) (pa_cons he.pe pa_nil hs) hbase hfew hline hs hplain) hsw, fun c F H σ ρ n G E S h ti => ?_⟩
  obtain ⟨l, e1, hl, h⟩ := h
  obtain ⟨a, xs, e2, h0, hf, ht, hh, is⟩ := S.getOwn e1
  refine ⟨.ref a, e2, .inl ⟨rfl, _, .of hh⟩, ?_⟩
  refine he.rel c F H σ ρ n _ _ S h fun v d F1 H1 n1 s1 t1 i1 h1 => ?_
  have S1 := S.step s1 t1
  have hh1 := s1.ex _ _ ht hh
  refine ⟨a, xs, v, rfl, rfl, hh1, ?_, ?_⟩
  · rw [is.1]
    exact Nat.lt_of_le_of_lt hl (by decide)
  · exact ti.nx _ _ _ _ n1 (S1.write e1 e2 ((is.mono s1.le).snoc i1)) h1
end

/-! ### loops -/
theorem Step.reb {t : Option Addr} {F0 H0 F1 H1 F H : Hp} (s1 : Step t F0 H0 F1 H1) (s : Step t F0 H0 F H) (le : Same F1 F) : Step t F1 H0 F H :=
  ⟨le, s.ex, s.sub, fun a e n => s.fr a (by
    cases z : F0 a with
    | none => rfl
    | some o => rw [s1.le _ _ z] at e; cases e) n, s.there⟩
theorem Step.unreb {t : Option Addr} {F0 H0 F1 H1 F H : Hp} (s1 : Step t F0 H0 F1 H1) (s : Step t F1 H0 F H) : Step t F0 H0 F H :=
  ⟨s1.le.trans s.le, s.ex, s.sub, fun a e n => s.fr a (s1.fr a e n) n, s.there⟩
theorem Sat.reb {K : PySem.W.Frag} {c : Ct} {F1 H1 F H : Hp} {σ : L2.St} {ρ : List Slot} {n : Nat} (s1 : Step c.t c.F c.H F1 H1) (S : Sat K c F H σ ρ n) (le : Same F1 F) : Sat K ⟨c.t, F1, c.H⟩ F H σ ρ n :=
  ⟨Step.reb s1 S.st le, S.tin, S.len, S.sl, S.dis⟩
theorem Sat.unreb {K : PySem.W.Frag} {c : Ct} {F1 H1 F H : Hp} {σ : L2.St} {ρ : List Slot} {n : Nat} (s1 : Step c.t c.F c.H F1 H1) (S : Sat K ⟨c.t, F1, c.H⟩ F H σ ρ n) : Sat K c F H σ ρ n :=
  ⟨Step.unreb s1 S.st, S.tin, S.len, S.sl, S.dis⟩
def forRun (g : DG) (tb : DS) (G : DEnds) : List D → List Slot → Nat → Prop
  | [], ρ, n => G.nx ρ n
  | d :: r, ρ, n => g d ρ fun ρ2 => tb { G with nx := fun ρ n => forRun g tb G r ρ n, ct := fun ρ n => forRun g tb G r ρ n, bk := G.nx } ρ2 n
def dFor (ti : DI) (g : DG) (tb : DS) : DS := fun G ρ n => ti ρ n fun xs n1 => forRun g tb G xs ρ n1
theorem rel_for {K : PySem.W.Frag} {wi : TI} {g' : TG} {tb' : TS} {vs : List Nat} {ti : DI} {g : DG} {tb : DS} (hi : RelI K wi ti) (hg : RelG K vs g' g) (hb : RelSt K tb' tb) : RelSt K (tFor wi g' tb') (dFor ti g tb) := fun c F H σ ρ n G E S h tie => by
  refine hi c F H σ ρ n _ _ S h fun J xs F1 H1 n1 s1 t1 wd h1 => ?_
  have S1 := S.step s1 t1
  have W : Walk J xs.length (fun H => Same F1 H) (fun i H x H' => J.yld i H x H') := ⟨fun i H hi g => wd.goes i H hi g, fun H g => wd.stops H g, fun i H x H' _ _ y => y⟩
  refine for_it W (fun i σi Hi => ∃ Fi ni ρi, Same F1 Fi ∧ Sat K c Fi Hi σi ρi ni ∧ forRun g tb G (xs.drop i) ρi ni) ⟨F1, n1, ρ, Same.refl _, S1, h1⟩ (fun i σi Hi _ p => ?_) (fun i x σi Hi H' hlt p y => ?_) (fun σi Hi p => ?_)
  · obtain ⟨Fi, ni, ρi, le, Si, _⟩ := p
    exact le.trans Si.sub
  · obtain ⟨Fi, ni, ρi, le, Si, run⟩ := p
    obtain ⟨d, hd⟩ : ∃ d, xs[i]? = some d := ⟨_, List.getElem?_eq_getElem hlt⟩
    have ed : xs.drop i = d :: xs.drop (i + 1) := by
      have e1 : xs[i] = d := by rw [List.getElem?_eq_getElem hlt] at hd; exact Option.some.inj hd
      rw [List.drop_eq_getElem_cons hlt, e1]
    rw [ed] at run
    obtain ⟨F2, s2, i2⟩ := wd.yields i Hi x H' Fi d hd le Si.sub y
    refine hg c F2 H' σi ρi ni x d _ _ (Si.step0 s2) i2 run fun σ2 ρ2 S2 run2 _ => ?_
    have le2 : Same F1 F2 := le.trans s2.le
    refine hb ⟨c.t, F1, c.H⟩ F2 H' σ2 ρ2 ni { G with nx := fun ρ n => forRun g tb G (xs.drop (i + 1)) ρ n, ct := fun ρ n => forRun g tb G (xs.drop (i + 1)) ρ n, bk := G.nx } _ (S2.reb S1.st le2) run2 ⟨fun F3 H3 σ3 ρ3 n3 S3 r3 => ?_, fun v d F H n s t i r => tie.rt v d F H n (Step.unreb S1.st s) t i r, fun F3 H3 σ3 ρ3 n3 S3 r3 => tie.nx F3 H3 σ3 ρ3 n3 (Sat.unreb S1.st S3) r3, fun F3 H3 σ3 ρ3 n3 S3 r3 => ?_⟩
    · exact ⟨F3, n3, ρ3, S3.st.le, Sat.unreb S1.st S3, r3⟩
    · exact ⟨F3, n3, ρ3, S3.st.le, Sat.unreb S1.st S3, r3⟩
  · obtain ⟨Fi, ni, ρi, le, Si, run⟩ := p
    rw [List.drop_length] at run
    exact tie.nx Fi Hi σi ρi ni Si run
theorem as_for {X : Cx} {tg iter : Expr} {body : List Stmt} {pos : Pos} {vs : List Nat} {wi : TI} {g' : TG} {tb' : TS} {ti : DI} {g : DG} {tb : DS} (hx : X.xe = fun _ _ => False) (hc : X.calm = true) (hi : AI X tg iter wi ti) (hg : AG X tg vs g' g) (hb : AB X body tb' tb)
    (hs : ∀ x, foldedSetIterable iter X.env x = pure x := by intro _; rfl) : AS X (.For tg iter body [] pos) (tFor wi g' tb') (dFor ti g tb) :=
  ⟨ps_for (by rw [hx]; exact PassesOwn.never) hc hi.pe hg.pe hb.pe hs, rel_for hi.rel hg.rel hb.rel⟩
/-- a loop's run by an invariant of what it has walked -/
theorem forRun_by {g : DG} {tb : DS} {G : DEnds} {xs : List D} {ρ : List Slot} {n : Nat} (Pv : Nat → List Slot → Nat → Prop) (h0 : Pv 0 ρ n)
    (hs : ∀ i d ρ n, xs[i]? = some d → Pv i ρ n → g d ρ fun ρ2 => tb { G with nx := Pv (i + 1), ct := Pv (i + 1), bk := G.nx } ρ2 n)
    (mono : ∀ d ρ n (N N' : List Slot → Nat → Prop), (∀ ρ n, N ρ n → N' ρ n) → (g d ρ fun ρ2 => tb { G with nx := N, ct := N, bk := G.nx } ρ2 n) → g d ρ fun ρ2 => tb { G with nx := N', ct := N', bk := G.nx } ρ2 n)
    (hd : ∀ ρ n, Pv xs.length ρ n → G.nx ρ n) : forRun g tb G xs ρ n := by
  have aux : ∀ (ys : List D) (i : Nat) (ρ : List Slot) (n : Nat), xs.drop i = ys → i ≤ xs.length → Pv i ρ n → forRun g tb G ys ρ n := by
    intro ys
    induction ys with
    | nil =>
      intro i ρ n e hi p
      have : i = xs.length := by
        have := congrArg List.length e
        simp at this
        omega
      subst this
      exact hd ρ n p
    | cons d r ih =>
      intro i ρ n e hi p
      have hlt : i < xs.length := by
        have := congrArg List.length e
        simp at this
        omega
      rw [List.drop_eq_getElem_cons hlt] at e
      injection e with e1 e2
      have hd' : xs[i]? = some d := by rw [List.getElem?_eq_getElem hlt, e1]
      exact mono d ρ n _ _ (fun ρ n q => ih (i + 1) ρ n e2 hlt q) (hs i d ρ n hd' p)
  exact aux xs 0 ρ n rfl (Nat.zero_le _) h0
/-- while -/
def dWhile (c : DT) (tb : DS) : DS := fun G ρ n => ∃ W : Nat → List Slot → Nat → Prop, (∃ m, W m ρ n) ∧ ∀ m ρ n, W m ρ n →
  c ρ n fun b n1 => if b = true then tb { G with nx := fun ρ' n' => ∃ m', m' < m ∧ W m' ρ' n', ct := fun ρ' n' => ∃ m', m' < m ∧ W m' ρ' n', bk := G.nx } ρ n1 else G.nx ρ n1
theorem as_while {X : Cx} {c : Expr} {body : List Stmt} {pos : Pos} {tc' : TT} {tb' : TS} {tc : DT} {tb : DS} (hx : X.xe = fun _ _ => False) (hc : AT X c tc' tc) (hb : AB X body tb' tb) : AS X (.While c body [] pos) (tWhile tc' tb') (dWhile tc tb) := by
  refine ⟨ps_while (by rw [hx]; exact PassesOwn.never) hc.pe hb.pe, fun c F H σ ρ n G E S h tie => ?_⟩
  obtain ⟨W, ⟨m0, w0⟩, step⟩ := h
  refine ⟨fun m σ H => ∃ F ρ n, Sat X.K c F H σ ρ n ∧ W m ρ n, ⟨m0, F, ρ, n, S, w0⟩, fun m σ H p => ?_⟩
  obtain ⟨F, ρ, n, S, w⟩ := p
  refine hc.rel c F H σ ρ n _ _ S (step m ρ n w) fun b F1 H1 n1 s1 t1 h1 => ?_
  have S1 := S.step s1 t1
  cases b with
  | false => exact tie.nx _ _ _ _ _ S1 h1
  | true =>
    refine ⟨fun σ' H' => ∃ m', m' < m ∧ ∃ F ρ n, Sat X.K c F H' σ' ρ n ∧ W m' ρ n, fun σ' H' q => ?_, ?_⟩
    · obtain ⟨m', l, q⟩ := q
      exact ⟨m', l, q⟩
    · refine hb.rel c F1 H1 σ ρ n1 _ _ S1 h1 ⟨fun F3 H3 σ3 ρ3 n3 S3 r3 => ?_, tie.rt, fun F3 H3 σ3 ρ3 n3 S3 r3 => tie.nx _ _ _ _ _ S3 r3, fun F3 H3 σ3 ρ3 n3 S3 r3 => ?_⟩
      · obtain ⟨m', l, q⟩ := r3
        exact ⟨m', l, F3, ρ3, n3, S3, q⟩
      · obtain ⟨m', l, q⟩ := r3
        exact ⟨m', l, F3, ρ3, n3, S3, q⟩
end DL

namespace DL
open PySem PySem.Spec PyProof.Rows L2

/-! ### values with kinds, stored at once -/
def KsOk (K : PySem.W.Frag) (t : Option Addr) (Hs F H : Hp) : List V → List Slot → Prop
  | [], [] => True
  | v :: vs, s :: ss => ArgOk K t Hs F H v s ∧ (∀ l a, s = .own l → v = .ref a → ∀ (j : Nat) (m : List D), ss[j]? = some (.own m) → vs[j]? ≠ some (.ref a)) ∧ KsOk K t Hs F H vs ss
  | _, _ => False
def RelK (K : PySem.W.Frag) (m : Nat) (te : TA) (t : DS1) : Prop := ∀ (c : Ct) (F H : Hp) (σ : L2.St) (ρ : List Slot) (n : Nat) (Q : List V → Hp → Prop) (k : List Slot → Nat → Prop), Sat K c F H σ ρ n → t ρ n k →
  (∀ vs ss F' H' n', Step c.t F H F' H' → TinOk c.t F' H' n' → KsOk K c.t H F' H' vs ss → ss.length = m → k ss n' → Q vs H') → te σ H Q
structure AK (X : Cx) (es : List Expr) (te : TA) (t : DS1) : Prop where
  pe : PA X es te
  rel : RelK X.K es.length te t
def kCons (te : DE) (tr : DS1) : DS1 := fun ρ n k => te ρ n fun x n1 => tr ρ n1 fun xs n2 => k (.d x :: xs) n2
def kConsL (te : DLs) (tr : DS1) : DS1 := fun ρ n k => te ρ n fun l n1 => tr ρ n1 fun xs n2 => k (.own l :: xs) n2
theorem ArgOk.hs {K : PySem.W.Frag} {t : Option Addr} {Hs Hs' F H : Hp} {v : V} {s : Slot} (h : ArgOk K t Hs F H v s) (e : ∀ a, Hs a = none → Hs' a = none) : ArgOk K t Hs' F H v s := by
  cases s with
  | own l =>
    obtain ⟨a, xs, e1, h0, r⟩ := h
    exact ⟨a, xs, e1, e a h0, r⟩
  | ownD l =>
    obtain ⟨a, xs, e1, h0, r⟩ := h
    exact ⟨a, xs, e1, e a h0, r⟩
  | _ => exact h
theorem KsOk.hs {K : PySem.W.Frag} {t : Option Addr} {Hs Hs' F H : Hp} (e : ∀ a, Hs a = none → Hs' a = none) : ∀ {vs : List V} {ss : List Slot}, KsOk K t Hs F H vs ss → KsOk K t Hs' F H vs ss
  | [], [], _ => trivial
  | v :: vs, s :: ss, h => ⟨h.1.hs e, h.2.1, KsOk.hs e h.2.2⟩
  | [], _ :: _, h => h.elim
  | _ :: _, [], h => h.elim
theorem KsOk.fresh {K : PySem.W.Frag} {t : Option Addr} {Hs F H : Hp} : ∀ {vs : List V} {ss : List Slot}, KsOk K t Hs F H vs ss → ∀ (j : Nat) (m : List D) (a : Addr), ss[j]? = some (.own m) → vs[j]? = some (.ref a) → Hs a = none
  | [], [], _, j, m, a, e, _ => by simp at e
  | v :: vs, s :: ss, h, 0, m, a, e1, e2 => by
    cases Option.some.inj e1
    cases Option.some.inj e2
    obtain ⟨b, xs, eb, h0, _⟩ := h.1
    cases eb
    exact h0
  | v :: vs, s :: ss, h, j + 1, m, a, e1, e2 => KsOk.fresh h.2.2 j m a (by simpa using e1) (by simpa using e2)
  | [], _ :: _, h, _, _, _, _, _ => h.elim
  | _ :: _, [], h, _, _, _, _, _ => h.elim
section
variable {X : Cx} {e : Expr} {es : List Expr} {te' : TE} {te : DE} {tl : DLs} {t' : TA} {t : DS1} {pos : Pos}
theorem ak_nil : AK X [] tNil sNil := ⟨pa_nil, fun c F H σ ρ n Q k S h q => q [] [] F H n (Step.refl S.sub) S.tin trivial rfl h⟩
theorem ak_d (he : AE X e te' te) (hr : AK X es t' t) (hs : starEach (e :: es) X.env = (false, eval e X.env) :: starEach es X.env := by rfl) : AK X (e :: es) (tCons te' t') (kCons te t) := by
  refine ⟨pa_cons he.pe hr.pe hs, fun c F H σ ρ n Q k S h q => ?_⟩
  refine he.rel c F H σ ρ n _ _ S h fun v x F1 H1 n1 s1 t1 i1 h1 => ?_
  refine hr.rel c F1 H1 σ ρ n1 _ _ (S.step s1 t1) h1 fun vs ds F2 H2 n2 s2 t2 i2 l2 h2 => ?_
  exact q (v :: vs) (.d x :: ds) F2 H2 n2 (s1.trans s2) t2 ⟨i1.mono s2.le, (fun l a z => nomatch z), i2.hs fun a z => s1.back z⟩ (by simp [l2]) h2
theorem ak_l (he : AL X e te' tl) (hr : AK X es t' t) (hs : starEach (e :: es) X.env = (false, eval e X.env) :: starEach es X.env := by rfl) : AK X (e :: es) (tCons te' t') (kConsL tl t) := by
  refine ⟨pa_cons he.pe hr.pe hs, fun c F H σ ρ n Q k S h q => ?_⟩
  refine he.rel c F H σ ρ n _ _ S h fun a xs l F1 H1 n1 s1 t1 ha hf hh is h1 => ?_
  refine hr.rel c F1 H1 σ ρ n1 _ _ (S.step s1 t1) h1 fun vs ds F2 H2 n2 s2 t2 i2 l2 h2 => ?_
  have ok : ArgOk X.K c.t H F1 H1 (.ref a) (.own l) := ⟨a, xs, rfl, ha, hf, S.tin.ne ha, hh, is⟩
  refine q (.ref a :: vs) (.own l :: ds) F2 H2 n2 (s1.trans s2) t2 ⟨ok.step s2, fun l' b e1 e2 j m e3 e4 => ?_, i2.hs fun a z => s1.back z⟩ (by simp [l2]) h2
  cases e2
  have := i2.fresh j m a e3 e4
  rw [hh] at this
  cases this
end
def setsV (σ : L2.St) : List Nat → List V → L2.St
  | i :: is, v :: vs => setsV (σ.set i (some v)) is vs
  | _, _ => σ
def setsS (ρ : List Slot) : List Nat → List Slot → List Slot
  | i :: is, s :: ss => setsS (ρ.set i s) is ss
  | _, _ => ρ
theorem Sat.sets {K : PySem.W.Frag} {c : Ct} {F H : Hp} {n : Nat} {Hs : Hp} (hsub : ∀ a, Hs a = none → c.H a = none) : ∀ (is : List Nat) (vs : List V) (ss : List Slot) (σ : L2.St) (ρ : List Slot), Sat K c F H σ ρ n → KsOk K c.t Hs F H vs ss →
    (∀ (j : Nat) (m : List D) (a : Addr), ss[j]? = some (.own m) → vs[j]? = some (.ref a) → ∀ (i : Nat) (l : List D), ρ[i]? = some (.own l) → σ[i]? ≠ some (some (.ref a))) → Sat K c F H (setsV σ is vs) (setsS ρ is ss) n
  | [], _, _, σ, ρ, S, _, _ => by
    unfold setsV setsS
    exact S
  | i :: is, [], [], σ, ρ, S, _, _ => S
  | i :: is, v :: vs, s :: ss, σ, ρ, S, k, fr => by
    refine Sat.sets hsub is vs ss _ _ (S.set (k.1.hs hsub) fun l a e1 e2 j m hj e3 e4 => ?_) k.2.2 fun j m a e1 e2 i2 l e3 e4 => ?_
    · cases e1
      cases e2
      exact fr 0 l a rfl rfl j m e3 e4
    · by_cases z : i = i2
      · subst z
        have hl : i < ρ.length := by have := (List.getElem?_eq_some_iff.mp e3).1; simpa using this
        rw [List.getElem?_set_self hl] at e3
        cases e3
        rw [List.getElem?_set_self (by rw [S.len]; exact hl)] at e4
        cases e4
        exact k.2.1 l a rfl rfl j m e1 e2
      · rw [List.getElem?_set_ne z] at e3 e4
        exact fr (j + 1) m a (by simpa using e1) (by simpa using e2) i2 l e3 e4
  | _ :: _, [], _ :: _, _, _, _, k, _ => k.elim
  | _ :: _, _ :: _, [], _, _, _, k, _ => k.elim
def dPar (is : List Nat) (t : DS1) : DS := fun G ρ n => t ρ n fun ss n1 => G.nx (setsS ρ is ss) n1
theorem KsOk.len {K : PySem.W.Frag} {t : Option Addr} {Hs F H : Hp} : ∀ {vs : List V} {ss : List Slot}, KsOk K t Hs F H vs ss → vs.length = ss.length
  | [], [], _ => rfl
  | v :: vs, s :: ss, h => by rw [List.length_cons, List.length_cons, KsOk.len h.2.2]
  | [], _ :: _, h => h.elim
  | _ :: _, [], h => h.elim
theorem par_sat {K : PySem.W.Frag} {c : Ct} {F H F1 H1 : Hp} {σ : L2.St} {ρ : List Slot} {n n1 : Nat} (is : List Nat) {vs : List V} {ss : List Slot} (S : Sat K c F H σ ρ n) (s1 : Step c.t F H F1 H1) (t1 : TinOk c.t F1 H1 n1) (k : KsOk K c.t H F1 H1 vs ss) : Sat K c F1 H1 (setsV σ is vs) (setsS ρ is ss) n1 := by
  refine Sat.sets (Hs := H) (fun a z => S.st.back z) is vs ss σ ρ (S.step s1 t1) k fun j m a e1 e2 i l e3 e4 => ?_
  have h0 := k.fresh j m a e1 e2
  obtain ⟨b, ys, q1, _, _, _, q2, _⟩ := S.getOwn e3
  rw [q1] at e4
  cases e4
  rw [h0] at q2
  cases q2
section
variable {X : Cx} {a b d : Expr} {t' : TA} {t : DS1} {x y z : Str} {px py pz pt pos pt2 : Pos} {kt k2}
/-- plain locals -/
theorem as_par (i j : Nat) (hc : X.calm = true) (hN : X.N.Nodup) (ha : AK X [a, b] t' t) (hi : X.N[i]? = some x := by rfl) (hj : X.N[j]? = some y := by rfl) (hij : i ≠ j := by decide)
    (hx : X.env.scope.names.lookup x = some .local := by rfl) (hy : X.env.scope.names.lookup y = some .local := by rfl)
    (hw : swappedStores [.Tuple [.Name x px, .Name y py] kt pt] (.Tuple [a, b] k2 pt2) X.env = pure (some [x, y]) := by rfl)
    (hs : swapsWithSole [.Tuple [.Name x px, .Name y py] kt pt] (.Tuple [a, b] k2 pt2) pos.line X.env = pure false := by rfl) :
    AS X (.Assign [.Tuple [.Name x px, .Name y py] kt pt] (.Tuple [a, b] k2 pt2) pos) (tPar i j t') (dPar [i, j] t) := by
  refine ⟨ps_par hc hN hi hj hij hx hy ha.pe hw hs, fun c F H σ ρ n G E S h tie => ?_⟩
  refine ha.rel c F H σ ρ n _ _ S h fun vs ss F1 H1 n1 s1 t1 k l h1 => ?_
  have hl : vs.length = 2 := by rw [k.len, l] <;> rfl
  match vs, hl with
  | [v, w], _ => exact ⟨v, w, rfl, tie.nx _ _ _ _ _ (par_sat [i, j] S s1 t1 k) h1⟩
theorem as_par3 (i j l : Nat) (hc : X.calm = true) (hN : X.N.Nodup) (ha : AK X [a, b, d] t' t) (hi : X.N[i]? = some x := by rfl) (hj : X.N[j]? = some y := by rfl) (hl : X.N[l]? = some z := by rfl) (hij : i ≠ j := by decide) (hil : i ≠ l := by decide) (hjl : j ≠ l := by decide)
    (hx : X.env.scope.names.lookup x = some .local := by rfl) (hy : X.env.scope.names.lookup y = some .local := by rfl) (hz : X.env.scope.names.lookup z = some .local := by rfl)
    (hw : swappedStores [.Tuple [.Name x px, .Name y py, .Name z pz] kt pt] (.Tuple [a, b, d] k2 pt2) X.env = pure (some [x, y, z]) := by rfl)
    (hs : swapsWithSole [.Tuple [.Name x px, .Name y py, .Name z pz] kt pt] (.Tuple [a, b, d] k2 pt2) pos.line X.env = pure false := by rfl) :
    AS X (.Assign [.Tuple [.Name x px, .Name y py, .Name z pz] kt pt] (.Tuple [a, b, d] k2 pt2) pos) (tPar3 i j l t') (dPar [i, j, l] t) := by
  refine ⟨ps_par3 hc hN hi hj hl hij hil hjl hx hy hz ha.pe hw hs, fun c F H σ ρ n G E S h tie => ?_⟩
  refine ha.rel c F H σ ρ n _ _ S h fun vs ss F1 H1 n1 s1 t1 k l1 h1 => ?_
  have hl : vs.length = 3 := by rw [k.len, l1] <;> rfl
  match vs, hl with
  | [v, w, u], _ => exact ⟨v, w, u, rfl, tie.nx _ _ _ _ _ (par_sat [i, j, l] S s1 t1 k) h1⟩
/-- a tuple is made and taken apart: some target is a cell -/
theorem as_unp (i j : Nat) (hc : X.calm = true) (hN : X.N.Nodup) (ha : AK X [a, b] t' t) (hi : X.N[i]? = some x := by rfl) (hj : X.N[j]? = some y := by rfl)
    (hx : Loc X.env.scope x := by first | exact Or.inl rfl | exact Or.inr rfl) (hy : Loc X.env.scope y := by first | exact Or.inl rfl | exact Or.inr rfl)
    (hfx : X.fn x = true ∨ X.env.scope.names.lookup x = some .local := by first | exact .inl rfl | exact .inr rfl) (hfy : X.fn y = true ∨ X.env.scope.names.lookup y = some .local := by first | exact .inl rfl | exact .inr rfl)
    (hs : swapsWithSole [.Tuple [.Name x px, .Name y py] kt pt] (.Tuple [a, b] k2 pt2) pos.line X.env = pure false := by rfl) (hw : swappedStores [.Tuple [.Name x px, .Name y py] kt pt] (.Tuple [a, b] k2 pt2) X.env = pure none := by rfl)
    (h1 : (assignEach [.Tuple [.Name x px, .Name y py] kt pt] X.env).map (·.2) = [assign (.Tuple [.Name x px, .Name y py] kt pt) X.env] := by rfl)
    (hn : (assignEach [.Name x px, .Name y py] X.env).length = 2 := by rfl) (hst : (assignEach [.Name x px, .Name y py] X.env).findIdx? (·.1) = none := by rfl)
    (hs1 : (assignEach [.Name x px, .Name y py] X.env).map (·.2) = assign (.Name x px) X.env :: (assignEach [.Name y py] X.env).map (·.2) := by rfl) (hs2 : (assignEach [.Name y py] X.env).map (·.2) = assign (.Name y py) X.env :: (assignEach [] X.env).map (·.2) := by rfl) :
    AS X (.Assign [.Tuple [.Name x px, .Name y py] kt pt] (.Tuple [a, b] k2 pt2) pos) (tAsg (tTup t') (gTup X.K 2 (gCons (gName i) (gCons (gName j) gNil)))) (dPar [i, j] t) := by
  refine ⟨ps_asg (pe_tup ha.pe) (pg_tup hc (pgs_cons (pg_name hN hi hx hfx) (pgs_cons (pg_name hN hj hy hfy) pgs_nil hs2) hs1) hn hst) hs hw h1, fun c F H σ ρ n G E S h tie => ?_⟩
  refine ha.rel c F H σ ρ n _ _ S h fun vs ss F1 H1 n1 s1 t1 k l1 h1 => ?_
  have hl : vs.length = 2 := by rw [k.len, l1] <;> rfl
  match vs, hl with
  | [v, w], _ =>
    refine ⟨by show 2 ≤ sizeLine; decide, fun p hp => ?_⟩
    have S2 := par_sat [i, j] S s1 t1 k
    have s2 := Step.new (o := .tup [v, w]) s1.sub hp
    exact ⟨p, [v, w], rfl, .inl (.inl upd_same), rfl, v, [w], rfl, w, [], rfl, rfl, tie.nx _ _ _ _ _ (S2.step0 s2) h1⟩
theorem as_unp3 (i j l : Nat) (hc : X.calm = true) (hN : X.N.Nodup) (ha : AK X [a, b, d] t' t) (hi : X.N[i]? = some x := by rfl) (hj : X.N[j]? = some y := by rfl) (hl : X.N[l]? = some z := by rfl)
    (hx : Loc X.env.scope x := by first | exact Or.inl rfl | exact Or.inr rfl) (hy : Loc X.env.scope y := by first | exact Or.inl rfl | exact Or.inr rfl) (hz : Loc X.env.scope z := by first | exact Or.inl rfl | exact Or.inr rfl)
    (hfx : X.fn x = true ∨ X.env.scope.names.lookup x = some .local := by first | exact .inl rfl | exact .inr rfl) (hfy : X.fn y = true ∨ X.env.scope.names.lookup y = some .local := by first | exact .inl rfl | exact .inr rfl) (hfz : X.fn z = true ∨ X.env.scope.names.lookup z = some .local := by first | exact .inl rfl | exact .inr rfl)
    (hs : swapsWithSole [.Tuple [.Name x px, .Name y py, .Name z pz] kt pt] (.Tuple [a, b, d] k2 pt2) pos.line X.env = pure false := by rfl) (hw : swappedStores [.Tuple [.Name x px, .Name y py, .Name z pz] kt pt] (.Tuple [a, b, d] k2 pt2) X.env = pure none := by rfl)
    (h1 : (assignEach [.Tuple [.Name x px, .Name y py, .Name z pz] kt pt] X.env).map (·.2) = [assign (.Tuple [.Name x px, .Name y py, .Name z pz] kt pt) X.env] := by rfl)
    (hn : (assignEach [.Name x px, .Name y py, .Name z pz] X.env).length = 3 := by rfl) (hst : (assignEach [.Name x px, .Name y py, .Name z pz] X.env).findIdx? (·.1) = none := by rfl)
    (hs1 : (assignEach [.Name x px, .Name y py, .Name z pz] X.env).map (·.2) = assign (.Name x px) X.env :: (assignEach [.Name y py, .Name z pz] X.env).map (·.2) := by rfl) (hs2 : (assignEach [.Name y py, .Name z pz] X.env).map (·.2) = assign (.Name y py) X.env :: (assignEach [.Name z pz] X.env).map (·.2) := by rfl) (hs3 : (assignEach [.Name z pz] X.env).map (·.2) = assign (.Name z pz) X.env :: (assignEach [] X.env).map (·.2) := by rfl) :
    AS X (.Assign [.Tuple [.Name x px, .Name y py, .Name z pz] kt pt] (.Tuple [a, b, d] k2 pt2) pos) (tAsg (tTup t') (gTup X.K 3 (gCons (gName i) (gCons (gName j) (gCons (gName l) gNil))))) (dPar [i, j, l] t) := by
  refine ⟨ps_asg (pe_tup ha.pe) (pg_tup hc (pgs_cons (pg_name hN hi hx hfx) (pgs_cons (pg_name hN hj hy hfy) (pgs_cons (pg_name hN hl hz hfz) pgs_nil hs3) hs2) hs1) hn hst) hs hw h1, fun c F H σ ρ n G E S h tie => ?_⟩
  refine ha.rel c F H σ ρ n _ _ S h fun vs ss F1 H1 n1 s1 t1 k l1 h1 => ?_
  have hl : vs.length = 3 := by rw [k.len, l1] <;> rfl
  match vs, hl with
  | [v, w, u], _ =>
    refine ⟨by show 3 ≤ sizeLine; decide, fun p hp => ?_⟩
    have S2 := par_sat [i, j, l] S s1 t1 k
    have s2 := Step.new (o := .tup [v, w, u]) s1.sub hp
    exact ⟨p, [v, w, u], rfl, .inl (.inl upd_same), rfl, v, [w, u], rfl, w, [u], rfl, u, [], rfl, rfl, tie.nx _ _ _ _ _ (S2.step0 s2) h1⟩
end

/-! ### == and != of plain data -/
inductive Py : D → PyData → Prop
  | non : Py .non .none
  | bl (b : Bool) : Py (.bl b) (.bool b)
  | int (i : Int) : Py (.int i) (.int i)
  | str (x : Str) : Py (.str x) (.str x)
  | tup {ds : List D} {ps : List PyData} (hl : ds.length = ps.length) (h : ∀ (i : Nat) (d : D) (p : PyData), ds[i]? = some d → ps[i]? = some p → Py d p) : Py (.tup ds) (.tuple ps)
  | lst {ds : List D} {ps : List PyData} (hl : ds.length = ps.length) (h : ∀ (i : Nat) (d : D) (p : PyData), ds[i]? = some d → ps[i]? = some p → Py d p) : Py (.lst ds) (.list ps)
theorem dpAll_of {K : PySem.W.Frag} {H : Hp} : ∀ {xs : List V} {ps : List PyData}, xs.length = ps.length → (∀ (i : Nat) (x : V) (p : PyData), xs[i]? = some x → ps[i]? = some p → Dp K H x p) → DpAll K H xs ps
  | [], [], _, _ => .nil
  | x :: xs, p :: ps, hl, h => .cons (h 0 x p rfl rfl) (dpAll_of (by simpa using hl) fun i y q e1 e2 => h (i + 1) y q (by simpa using e1) (by simpa using e2))
  | [], _ :: _, hl, _ => by simp at hl
  | _ :: _, [], hl, _ => by simp at hl
theorem dp_of {K : PySem.W.Frag} {F H : Hp} (e : Same F H) {d : D} {p : PyData} (h : Py d p) : ∀ {v : V}, Is K F v d → Dp K H v p := by
  induction h with
  | non => intro v i; cases i; exact .non
  | bl b => intro v i; cases i; exact .bl b
  | int b => intro v i; cases i; exact .int b
  | str b => intro v i; cases i; exact .str b
  | tup hl _ ih =>
    intro v i
    obtain ⟨a, xs, rfl, h1, s1⟩ := i.tupE
    refine .tup (h1.sqt e) (dpAll_of (s1.1.trans hl) fun j x p e1 e2 => ?_)
    obtain ⟨d, hd⟩ : ∃ d, _ = some d := ⟨_, List.getElem?_eq_getElem (by rw [← s1.1]; exact (List.getElem?_eq_some_iff.mp e1).1)⟩
    exact ih j d p hd e2 (s1.2 j x d e1 hd)
  | lst hl _ ih =>
    intro v i
    obtain ⟨a, xs, rfl, h1, s1⟩ := i.lstE
    refine .lst (.of (e _ _ h1)) (dpAll_of (s1.1.trans hl) fun j x p e1 e2 => ?_)
    obtain ⟨d, hd⟩ : ∃ d, _ = some d := ⟨_, List.getElem?_eq_getElem (by rw [← s1.1]; exact (List.getElem?_eq_some_iff.mp e1).1)⟩
    exact ih j d p hd e2 (s1.2 j x d e1 hd)
def pEqP : P2 := fun x y k => ∃ p q, Py x p ∧ Py y q ∧ SeqAt.shaped p = true ∧ SeqAt.shaped q = true ∧ k (.bl (PyData.eqv p q))
def pNeP : P2 := fun x y k => ∃ p q, Py x p ∧ Py y q ∧ SeqAt.shaped p = true ∧ SeqAt.shaped q = true ∧ k (.bl (!PyData.eqv p q))
theorem od_eqP {X : Cx} (hu : X.A.units + 64 < cLine) : OpD X (compareOp .Eq) (rEqD X.K) pEqP := ⟨op_eqD hu, fun F H v u x y Q k e i1 i2 p q => by
  obtain ⟨p1, p2, h1, h2, s1, s2, p⟩ := p
  exact ⟨p1, p2, dp_of e h1 i1, dp_of e h2 i2, s1, s2, q _ _ F H (Step.refl e) (.bl _) p⟩⟩
theorem od_neP {X : Cx} (hu : X.A.units + 64 < cLine) : OpD X (compareOp .NotEq) (rNeD X.K) pNeP := ⟨op_neD hu, fun F H v u x y Q k e i1 i2 p q => by
  obtain ⟨p1, p2, h1, h2, s1, s2, p⟩ := p
  exact ⟨p1, p2, dp_of e h1 i1, dp_of e h2 i2, s1, s2, q _ _ F H (Step.refl e) (.bl _) p⟩⟩

/-! ### a def -/
theorem argsC_sat {K : PySem.W.Frag} {t : Option Addr} {F H : Hp} {vs : List V} {ss : List Slot} {n m : Nat} (e : Same F H) (ti : TinOk t F H n) (a : ArgsC K t F vs ss) : Sat K ⟨t, F, H⟩ F H (vs.map some ++ List.replicate m none) (ss ++ List.replicate m .no) n := by
  refine ⟨Step.refl e, ti, by simp [a.1], fun i s hi => ?_, fun i j l l' b hij h1 h2 _ _ => ?_⟩
  · by_cases h : i < ss.length
    · rw [List.getElem?_append_left h] at hi
      have hv : i < vs.length := by rw [a.1]; exact h
      rw [List.getElem?_append_left (by simpa using hv), List.getElem?_map, List.getElem?_eq_getElem hv]
      have c := a.2 i _ s (List.getElem?_eq_getElem hv) hi
      refine .inr ⟨vs[i], rfl, ?_⟩
      cases s with
      | d x => exact c
      | tin => exact c
      | no => exact c.elim
      | ownD l => exact c.elim
      | own l => exact c.elim
    · rw [List.getElem?_append_right (by omega)] at hi
      have := List.eq_of_mem_replicate (List.mem_of_getElem? hi)
      exact .inl this
  · have : ∀ (i : Nat) (l : List D), (ss ++ List.replicate m Slot.no)[i]? = some (.own l) → False := fun i l h1 => by
      by_cases h : i < ss.length
      · rw [List.getElem?_append_left h] at h1
        have hv : i < vs.length := by rw [a.1]; exact h
        exact a.2 i _ _ (List.getElem?_eq_getElem hv) h1
      · rw [List.getElem?_append_right (by omega)] at h1
        exact nomatch List.eq_of_mem_replicate (List.mem_of_getElem? h1)
    exact this i l h1
/-- THE RULE for a def over data -/
theorem okD {P : Program} {w : World} {K : PySem.W.Frag} {mg : Str → Option Value} {base : Heap} {x qual : Str} {params : Arguments} {body : List Stmt} {scope : Scope} {dvs : List V} {kws : List (Str × V)} {f : Addr} {fd : FuncData} {N ps : List Str} {k : Nat} {R : RD}
    (F : FunD K x qual params body scope dvs kws f fd) (S : FnScope N ps scope)
    (hbody : ∀ (cdv : Value) (A : Around) (outer : List Env) (s : Shared) (H : Hp) (E : XK), Room k (A.deeper (envOfC qual scope s.heap.objs.size f cdv)) →
      ∃ ts t, AB (cxOf CX0 P w K mg base N qual scope f cdv A outer s H E).nox body ts t ∧ ∀ ss n kk, R ss n kk → ss.length = ps.length → t { nx := fun _ n => kk .non n, rt := kk } (ss ++ List.replicate (N.length - ps.length) .no) n) :
    FnOk P w K mg base CX0 (k + 1) f fd ps (spD K ps.length R) := by
  refine FunD.ok F S (fun vs H Q E h => ?_) fun cdv A outer s H vs Q E hr h => ?_
  · obtain ⟨t, F, ss, n, k, _, _, a, l, _⟩ := h
    rw [a.1, l]
  · obtain ⟨ts, t, hb, ht⟩ := hbody cdv A outer s H E hr
    obtain ⟨tt, F, ss, n, kk, e, ti, a, l, hR, hk⟩ := h
    refine ⟨ts, hb.pe.nox, ?_⟩
    have S0 := argsC_sat (m := N.length - vs.length) e ti a
    have ht1 := ht ss n kk hR l
    rw [show N.length - ps.length = N.length - vs.length from by rw [a.1, l]] at ht1
    exact hb.rel ⟨tt, F, H⟩ F H _ _ n _ _ S0 ht1 ⟨fun F' H' σ ρ n S' h' => hk .non .non F' H' n S'.st S'.tin .non h', fun v d F' H' n st ti i h' => hk v d F' H' n st ti i h', fun _ _ _ _ _ _ h => h.elim, fun _ _ _ _ _ _ h => h.elim⟩
end DL

namespace DL
open PySem PySem.Spec PyProof.Rows L2

/-! ### dict(a tuple of one pair) -/
def rDict1 (K : PySem.W.Frag) : List V → Hp → VK → Prop := fun xs H Q => ∃ (a p : Addr) (o : Obj) (q : Str) (v : V), xs = [.ref a] ∧ H a = some (.frz o (.tup [.ref p])) ∧ o.cls = .type "tuple" ∧ o.dict = none ∧ SqT K H p [.str q, v] ∧ ∀ d, H d = none → Q (.ref d) (upd H d (.dK [(.inr q, v)]))
theorem call_dict1 {X : Cx} (hcalm : X.calm = true) : CallR X (.type "dict") (rDict1 X.K) := by
  intro pins s σ H xs us Q I r h
  obtain ⟨a, p, o, q, v, rfl, hH, hc, hd, hp, hq⟩ := h
  obtain ⟨u, rfl, rx⟩ := vals1 r
  cases rx
  have okA : ObjOk X.prog X.w H s.heap a (.frz o (.tup [.ref p])) := I.hok a _ hH
  obtain ⟨hget, _, its, rv, o', ho', hc', n, hdat⟩ := okA
  rw [hget] at ho'
  cases ho'
  obtain ⟨w1, rfl, rw1⟩ := vals1 rv
  cases rw1
  obtain ⟨its2, rv2, ht2, _⟩ := I.tuple hp
  obtain ⟨ku, y, rfl, ru, ry⟩ := vals2 rv2
  have P := PairArg.tuple (prog := X.prog) (w := X.w) a #[.ref p] (fun _ => p) [(ku, y)]
  have his : (mixKind X.prog X.w).is (Sum.inr q : Key) ku = true := kV_is (k := Sum.inr q) ru
  refine PySem.call_dict_pairs (knd := mixKind X.prog X.w) (kvs := [((Sum.inr q : Key), y)]) P (I.ok.hd hcalm) ⟨⟨o, n, hget, hc, hd, hdat⟩, rfl, fun j k v e => ?_⟩ ⟨rfl, fun i key v e => ?_⟩ (by show 1 ≤ sizeLine; decide) fun h' tk hd' hk => ?_
  · cases j with
    | zero =>
      cases Option.some.inj e
      exact ⟨rfl, .inl ht2⟩
    | succ j => simp at e
  · cases i with
    | zero =>
      cases Option.some.inj e
      exact ⟨Sum.inr q, rfl, his⟩
    | succ j => simp [PairRel] at e
  · have hm : (s.heap.objs.size == sysModules) = false := beq_eq_false_iff_ne.mpr (Nat.ne_of_gt I.big)
    have k0 : ∀ b ob, s.heap.get? b = some ob → h'.get? b = some ob := fun b ob e => hk b ob (by simp) e
    have k : KV [((Sum.inr q : Key), v)] [((Sum.inr q : Key), y)] := .cons ⟨rfl, ry⟩ .nil
    exact ⟨.ref s.heap.objs.size, upd H s.heap.objs.size (.dK [(.inr q, v)]), I.laid (t' := tk) k0 (Nat.le_refl _) (show ObjOk X.prog X.w _ _ _ (.dK [(.inr q, v)]) from ⟨by show 1 ≤ sizeLine; decide, hm, [(Sum.inr q, y)], k, hd'⟩), rfl, hq _ (I.hok.fresh (Nat.le_refl _))⟩
def pDictT : PC1 := fun ds k => ∃ (q : Str) (d : D), ds = [.tz [.tup [.str q, d]]] ∧ k (.dk [(q, d)])
theorem cd_dictT {X : Cx} (hc : X.calm = true) : CallD X (.type "dict") (rDict1 X.K) pDictT := ⟨call_dict1 hc, fun F H vs ds Q k e is p q => by
  obtain ⟨x, d, rfl, p⟩ := p
  obtain ⟨v, rfl, i1⟩ := is.one
  cases i1 with
  | tz h hcl hd hl hi =>
    rename_i a xs o
    have i0 : Iss X.K F xs [.tup [.str x, d]] := ⟨hl, hi⟩
    obtain ⟨v1, rfl, i2⟩ := i0.one
    obtain ⟨b, ys, rfl, ht, i3⟩ := i2.tupE
    obtain ⟨u1, u2, rfl, i4, i5⟩ := i3.two
    cases i4
    refine ⟨a, b, o, x, u2, rfl, e _ _ h, hcl, hd, ht.sqt e, fun p' hp' => ?_⟩
    have s4 := Step.frz (o := .dK [((Sum.inr x : Key), u2)]) e hp'
    refine q _ _ _ _ s4 (.dk upd_same rfl fun i y z e1 e2 => ?_) p
    cases i with
    | zero =>
      cases Option.some.inj e1
      cases Option.some.inj e2
      exact i5.mono s4.le
    | succ i => simp at e1⟩

/-! ### reads of a dict -/
section
variable {X : Cx} {o e f : Expr} {td' ty' tx' : TE} {td ty tx : DE} {apos cpos pos : Pos}
def dDGet2 (td ty tx : DE) : DE := fun ρ n k => td ρ n fun x n1 => ∃ q0 d, x = .dk [(q0, d)] ∧ ty ρ n1 fun y n2 => ∃ q, y = .str q ∧ tx ρ n2 fun z n3 => k (if q = q0 then d else z) n3
theorem Is.dk1 {K : PySem.W.Frag} {F : Hp} {v : V} {q : Str} {d : D} (h : Is K F v (.dk [(q, d)])) : ∃ a w, v = .ref a ∧ F a = some (.dK [(.inr q, w)]) ∧ Is K F w d := by
  cases h with
  | dk h hk hi =>
    rename_i a kvs
    match kvs, hk with
    | [(k, w)], hk =>
      have e : k = Sum.inr q := by simpa using hk
      subst e
      exact ⟨a, w, rfl, h, hi 0 _ _ rfl rfl⟩
theorem ae_dget2 (hu : X.A.units + 1 < cLine) (ho : AE X o td' td) (he : AE X e ty' ty) (hf : AE X f tx' tx) (m1 : attributeBase o "get" X.env (eval o X.env) = eval o X.env := by rfl)
    (m2 : ((backTo cpos (starEach [e, f] X.env)).all (fun x => !x.1) && (backToKw cpos (keywordEach [] X.env)).all (fun x => x.1.isSome)
    && decide (([e, f] : List Expr).length + ([] : List Keyword).length + (if ([] : List Keyword).isEmpty then 0 else 1) < 30)) = true := by rfl) (m3 : (apos.endLine == cpos.line) = true := by rfl)
    (m4 : backTo cpos (starEach [e, f] X.env) = [(false, eval e X.env), (false, eval f X.env)] := by rfl) : AE X (.Call (.Attribute o "get" apos) [e, f] [] cpos) (tDGet2 td' ty' tx') (dDGet2 td ty tx) := by
  refine ⟨pe_dget2 hu ho.pe he.pe hf.pe ⟨m1, m2, m3, m4⟩, fun c F H σ ρ n Q k S h q => ?_⟩
  refine ho.rel c F H σ ρ n _ _ S h fun v x F1 H1 n1 s1 t1 i1 h1 => ?_
  obtain ⟨q0, d, rfl, h1⟩ := h1
  obtain ⟨a, w, rfl, g, iw⟩ := i1.dk1
  refine ⟨a, rfl, .inl ⟨_, .inl (s1.sub _ _ g)⟩, ?_⟩
  have S1 := S.step s1 t1
  refine he.rel c F1 H1 σ ρ n1 _ _ S1 h1 fun v2 x2 F2 H2 n2 s2 t2 i2 h2 => ?_
  obtain ⟨q1, rfl, h2⟩ := h2
  cases i2
  refine hf.rel c F2 H2 σ ρ n2 _ _ (S1.step s2 t2) h2 fun v3 x3 F3 H3 n3 s3 t3 i3 h3 => ?_
  have g3 : H3 a = some (.dK [(.inr q0, w)]) := s3.sub _ _ (s3.le _ _ (s2.le _ _ g))
  have st := (s1.trans s2).trans s3
  have iw3 := (iw.mono s2.le).mono s3.le
  refine ⟨_, DGet.k (k := .inr q1) g3, ?_⟩
  by_cases z : q1 = q0
  · subst z
    rw [if_pos rfl] at h3
    rw [show valV [((Sum.inr q1 : Key), w)] (Sum.inr q1) = some w from valV_pos rfl]
    exact q _ _ F3 H3 n3 st t3 iw3 h3
  · rw [if_neg z] at h3
    have e1 : valV [((Sum.inr q0 : Key), w)] (Sum.inr q1) = none := by
      have z2 : ¬ (Sum.inr q0 : Key) = Sum.inr q1 := fun y => z (Sum.inr.inj y).symm
      simp [valV, List.find?_cons, z2]
    rw [e1]
    exact q _ _ F3 H3 n3 st t3 i3 h3
/-- d[i, j] of a dict of one place -/
def dDGetT (td : DE) (t : DA) : DE := fun ρ n k => td ρ n fun x n1 => ∃ i j d, x = .dt [([i, j], d)] ∧ t ρ n1 fun ds n2 => ds = [.int i, .int j] ∧ k d n2
theorem Is.dt1 {K : PySem.W.Frag} {F : Hp} {v : V} {i j : Int} {d : D} (h : Is K F v (.dt [([i, j], d)])) : ∃ a w, v = .ref a ∧ F a = some (.dT [([.inl i, .inl j], w)]) ∧ Is K F w d := by
  cases h with
  | dt h hk hi =>
    rename_i a kvs
    match kvs, hk with
    | [(k, w)], hk =>
      have e : k = [Sum.inl i, Sum.inl j] := by simpa using hk
      subst e
      exact ⟨a, w, rfl, h, hi 0 _ _ rfl rfl⟩
theorem ae_dgetT {es : List Expr} {j} {tpos : Pos} {t' : TA} {t : DA} (hu : X.A.units + 1 < cLine) (ho : AE X o td' td) (ha : AD X es t' t) (hs : NoSl (.Tuple es j tpos) := by exact fun _ _ => rfl) : AE X (.Subscript o (.Tuple es j tpos) pos) (tDGet td' (tTup t')) (dDGetT td t) := by
  refine ⟨pe_dget hu ho.pe (pe_tup ha.pe) hs, fun c F H σ ρ n Q k S h q => ?_⟩
  refine ho.rel c F H σ ρ n _ _ S h fun v x F1 H1 n1 s1 t1 i1 h1 => ?_
  obtain ⟨i, j, d, rfl, h1⟩ := h1
  obtain ⟨a, w, rfl, g, iw⟩ := i1.dt1
  have S1 := S.step s1 t1
  refine ha.rel c F1 H1 σ ρ n1 _ _ S1 h1 fun vs ds F2 H2 n2 s2 t2 is2 l2 h2 => ?_
  obtain ⟨rfl, h2⟩ := h2
  obtain ⟨u1, u2, rfl, j1, j2⟩ := is2.two
  cases j1
  cases j2
  refine ⟨by show 2 ≤ sizeLine; decide, fun p hp => ?_⟩
  have s3 := Step.new (o := .tup [.int i, .int j]) s2.sub hp
  have g3 : upd H2 p (.tup [.int i, .int j]) a = some (.dT [([.inl i, .inl j], w)]) := s3.sub _ _ (s2.le _ _ g)
  refine ⟨a, w, rfl, ?_, q _ _ F2 _ n2 ((s1.trans s2).trans s3.weak) (t2.step0 s3) (iw.mono s2.le) h2⟩
  have := DGet.t (H := upd H2 p (.tup [.int i, .int j])) (a := a) (b := p) (k := [Sum.inl i, Sum.inl j]) g3 upd_same
  rw [show valV [([(Sum.inl i : Key), Sum.inl j], w)] [Sum.inl i, Sum.inl j] = some w from valV_pos rfl] at this
  exact this

/-! ### texts -/
def dJoin (to te : DE) : DE := fun ρ n k => to ρ n fun x n1 => ∃ a, x = .str a ∧ te ρ n1 fun y n2 => ∃ ys : List Str, elems y = some (ys.map D.str) ∧ (ys.map (·.length)).sum + ys.length * a.length ≤ 1000 ∧ k (.str (Txt.join a ys)) n2
theorem ae_join (ho : AE X o td' td) (he : AE X e ty' ty) (hs : starEach [e] X.env = [(false, eval e X.env)] := by rfl) (hbase : attributeBase o "join" X.env (eval o X.env) = eval o X.env := by rfl) (hline : (apos.endLine == pos.line) = true := by rfl) :
    AE X (.Call (.Attribute o "join" apos) [e] [] pos) (tM1 (fun x xs H Q => ∃ a p, ∃ ys : List Str, x = .str a ∧ xs = [.ref p] ∧ (SqL X.K H p (ys.map V.str) ∨ SqT X.K H p (ys.map V.str)) ∧
      (ys.map (·.length)).sum + ys.length * a.length ≤ 16777216 ∧ Q (.str (Txt.join a ys)) H) td' ty') (dJoin td ty) := by
  refine ⟨pe_join ho.pe he.pe hs hbase hline, fun c F H σ ρ n Q k S h q => ?_⟩
  refine ho.rel c F H σ ρ n _ _ S h fun v x F1 H1 n1 s1 t1 i1 h1 => ?_
  obtain ⟨a, rfl, h1⟩ := h1
  cases i1
  refine ⟨⟨a, rfl⟩, ?_⟩
  refine he.rel c F1 H1 σ ρ n1 _ _ (S.step s1 t1) h1 fun v2 x2 F2 H2 n2 s2 t2 i2 h2 => ?_
  obtain ⟨ys, hel, hb, h2⟩ := h2
  obtain ⟨b, xs, rfl, is, g⟩ := i2.seqE hel
  have ex := is.strs
  subst ex
  refine ⟨a, b, ys, rfl, rfl, ?_, by omega, q _ _ F2 H2 n2 (s1.trans s2) t2 (.str _) h2⟩
  rcases g with g | g
  · exact .inl (.of (s2.sub _ _ g.2))
  · exact .inr (g.2.sqt s2.sub)
def dSplit (to te : DE) : DE := fun ρ n k => to ρ n fun x n1 => ∃ a, x = .str a ∧ a.length ≤ 1000 ∧ te ρ n1 fun y n2 => ∃ b, y = .str b ∧ (b.length == 0) = false ∧ k (.lst ((Txt.split a b).map D.str)) n2
theorem iss_strs {K : PySem.W.Frag} {F : Hp} : ∀ ys : List Str, Iss K F (ys.map V.str) (ys.map D.str)
  | [] => .nil
  | y :: ys => .cons (.str y) (iss_strs ys)
theorem ae_split (ho : AE X o td' td) (he : AE X e ty' ty) (hs : starEach [e] X.env = [(false, eval e X.env)] := by rfl) (hbase : attributeBase o "split" X.env (eval o X.env) = eval o X.env := by rfl) (hline : (apos.endLine == pos.line) = true := by rfl) :
    AE X (.Call (.Attribute o "split" apos) [e] [] pos) (tM1 (fun x xs H Q => ∃ a b, x = .str a ∧ xs = [.str b] ∧ (b.length == 0) = false ∧ a.length + 2 ≤ sizeLine ∧ rNewStrs (Txt.split a b) H Q) td' ty') (dSplit td ty) := by
  refine ⟨pe_split ho.pe he.pe hs hbase hline, fun c F H σ ρ n Q k S h q => ?_⟩
  refine ho.rel c F H σ ρ n _ _ S h fun v x F1 H1 n1 s1 t1 i1 h1 => ?_
  obtain ⟨a, rfl, hl, h1⟩ := h1
  cases i1
  refine ⟨⟨a, rfl⟩, ?_⟩
  refine he.rel c F1 H1 σ ρ n1 _ _ (S.step s1 t1) h1 fun v2 x2 F2 H2 n2 s2 t2 i2 h2 => ?_
  obtain ⟨b, rfl, hb, h2⟩ := h2
  cases i2
  refine ⟨a, b, rfl, rfl, hb, Nat.le_trans (Nat.add_le_add_right hl 2) (by decide), fun p hp => ?_⟩
  have s3 := Step.frz (o := .lst ((Txt.split a b).map V.str)) s2.sub hp
  have i3 : Iss X.K (upd F2 p (.lst ((Txt.split a b).map V.str))) _ _ := iss_strs (Txt.split a b)
  exact q _ _ _ _ n2 ((s1.trans s2).trans s3.weak) (t2.step0 s3) (.lst upd_same i3.1 i3.2) h2
end
end DL
namespace DL
open PySem PySem.Spec PyProof.Rows L2
/-! ### comprehensions, with whatever readings their parts have in the block -/
section
variable {X : Cx} {e tg : Expr} {ifs : List Expr} {te te2 : TE} {g g2 : TG} {tt tt2 : TT}
theorem pe_imp (P : PE X e te) (h : ∀ σ H Q, te2 σ H Q → te σ H Q) : PE X e te2 := ⟨fun pins s σ H Q I q => P.run pins s σ H Q I (h _ _ _ q)⟩
theorem pg_imp (P : PG X tg g) (h : ∀ v σ H Q, g2 v σ H Q → g v σ H Q) : PG X tg g2 := ⟨fun pins s σ H v u Q I r q => P.run pins s σ H v u Q I r (h _ _ _ _ q)⟩
theorem pts_imp (P : PTs X ifs tt) (h : ∀ σ H Q, tt2 σ H Q → tt σ H Q) : PTs X ifs tt2 := ⟨fun pins s σ H Q I q => P.run pins s σ H Q I (h _ _ _ q)⟩
end
theorem al_lcE {X : Cx} {elt tg iter : Expr} {ifs : List Expr} {scope : Scope} {own : List (Str × Nat)} {pos : Pos} {wi : TI} {ti : DI} {g : DG} {tt : DT} {te : DE} {vs : List Nat} (hc : X.calm = true) (hN : X.N.Nodup) (ok : BlkOk X.N X.env.scope scope own) (hvs : own.map (·.2) = vs) (hi : AI X tg iter wi ti)
    (hg : ∀ (s : Shared) (H : Hp) (C : Addr) (cl : List (Str × Addr)) (fp : List Addr), ∃ g', AG (X.blk s H scope (compEnvC scope cl C X.env) fp) tg vs g' g) (ht : ∀ (s : Shared) (H : Hp) (C : Addr) (cl : List (Str × Addr)) (fp : List Addr), ∃ tt', ATs (X.blk s H scope (compEnvC scope cl C X.env) fp) ifs tt' tt)
    (he : ∀ (s : Shared) (H : Hp) (C : Addr) (cl : List (Str × Addr)) (fp : List Addr), ∃ te', AE (X.blk s H scope (compEnvC scope cl C X.env) fp) elt te' te) (hs : ∀ x, foldedSetIterable iter X.env x = pure x := by intro _; rfl) :
    AL X (.ListComp elt [⟨tg, iter, ifs, 0⟩] scope pos) (tLc wi (fun v σ H Q => ∀ s H' C cl fp, (hg s H' C cl fp).choose v σ H Q) (fun σ H Q => ∀ s H' C cl fp, (ht s H' C cl fp).choose σ H Q) (fun σ H Q => ∀ s H' C cl fp, (he s H' C cl fp).choose σ H Q) (own.map (·.2))) (dLc ti g tt te vs) :=
  al_lc hc hN ok hvs hi
    (fun s H C cl fp => ⟨pg_imp (hg s H C cl fp).choose_spec.pe fun v σ H1 Q q => q s H C cl fp, fun c F H1 σ ρ n v d Q k S i h q s H' C cl fp => (hg s H' C cl fp).choose_spec.rel c F H1 σ ρ n v d Q k S i h q⟩)
    (fun s H C cl fp => ⟨pts_imp (ht s H C cl fp).choose_spec.pe fun σ H1 Q q => q s H C cl fp, fun c F H1 σ ρ n Q k S h q s H' C cl fp => (ht s H' C cl fp).choose_spec.rel c F H1 σ ρ n Q k S h q⟩)
    (fun s H C cl fp => ⟨pe_imp (he s H C cl fp).choose_spec.pe fun σ H1 Q q => q s H C cl fp, fun c F H1 σ ρ n Q k S h q s H' C cl fp => (he s H' C cl fp).choose_spec.rel c F H1 σ ρ n Q k S h q⟩) hs
theorem as_setLcE (i : Nat) {y : Str} {py : Pos} {X : Cx} {elt tg iter : Expr} {ifs : List Expr} {scope : Scope} {own : List (Str × Nat)} {pos spos : Pos} {wi : TI} {ti : DI} {g : DG} {tt : DT} {te : DE} {vs : List Nat} (hc : X.calm = true) (hN : X.N.Nodup) (hy : X.N[i]? = some y) (hyl : X.env.scope.names.lookup y = some .local)
    (hsw : swapsWith (.ListComp elt [⟨tg, iter, ifs, 0⟩] scope pos) (some (.Name y py)) spos.line X.env = pure true) (ok : BlkOk X.N X.env.scope scope own) (hvs : own.map (·.2) = vs) (hi : AI X tg iter wi ti)
    (hg : ∀ (s : Shared) (H : Hp) (C : Addr) (cl : List (Str × Addr)) (fp : List Addr), ∃ g', AG (X.blk s H scope (compEnvC scope cl C X.env) fp) tg vs g' g) (ht : ∀ (s : Shared) (H : Hp) (C : Addr) (cl : List (Str × Addr)) (fp : List Addr), ∃ tt', ATs (X.blk s H scope (compEnvC scope cl C X.env) fp) ifs tt' tt)
    (he : ∀ (s : Shared) (H : Hp) (C : Addr) (cl : List (Str × Addr)) (fp : List Addr), ∃ te', AE (X.blk s H scope (compEnvC scope cl C X.env) fp) elt te' te) (hs : ∀ x, foldedSetIterable iter X.env x = pure x := by intro _; rfl) :
    AS X (.Assign [.Name y py] (.ListComp elt [⟨tg, iter, ifs, 0⟩] scope pos) spos) (tAsg (tLc wi (fun v σ H Q => ∀ s H' C cl fp, (hg s H' C cl fp).choose v σ H Q) (fun σ H Q => ∀ s H' C cl fp, (ht s H' C cl fp).choose σ H Q) (fun σ H Q => ∀ s H' C cl fp, (he s H' C cl fp).choose σ H Q) (own.map (·.2))) (gName i)) (dSetL i (dLc ti g tt te vs)) :=
  as_setLc i hc hN hy hyl hsw ok hvs hi
    (fun s H C cl fp => ⟨pg_imp (hg s H C cl fp).choose_spec.pe fun v σ H1 Q q => q s H C cl fp, fun c F H1 σ ρ n v d Q k S i h q s H' C cl fp => (hg s H' C cl fp).choose_spec.rel c F H1 σ ρ n v d Q k S i h q⟩)
    (fun s H C cl fp => ⟨pts_imp (ht s H C cl fp).choose_spec.pe fun σ H1 Q q => q s H C cl fp, fun c F H1 σ ρ n Q k S h q s H' C cl fp => (ht s H' C cl fp).choose_spec.rel c F H1 σ ρ n Q k S h q⟩)
    (fun s H C cl fp => ⟨pe_imp (he s H C cl fp).choose_spec.pe fun σ H1 Q q => q s H C cl fp, fun c F H1 σ ρ n Q k S h q s H' C cl fp => (he s H' C cl fp).choose_spec.rel c F H1 σ ρ n Q k S h q⟩) hs
end DL

namespace Gn
open PySem PySem.Spec PyProof.Rows L2
/-! ### the text by places -/
def topS (i : Nat) : Stmt := PySem.Challenge.pw_glidenames_k07_whole_maps_turned_moved_a.main.body.getD i (.Pass ⟨0, 0, 0, 0⟩)
/-! ### the head: each def by name, the other facts -/
def dOf (x : Str) (i : Nat) : He.DefD := ⟨(x, none), x, x, defArgs (topS i), defBody (topS i), defScope (topS i), [], []⟩
def fn0 : List He.DefD := [dOf "is_number" 7, dOf "tuple_of" 8, dOf "is_tuple_of" 9, dOf "fraction" 11, dOf "plus" 12, dOf "minus" 13, dOf "is_less" 14, dOf "on" 15, dOf "reach" 17, dOf "stepped" 18, dOf "spot_in" 19, dOf "piece_in" 20, dOf "frame_of" 21, dOf "tie_in" 22, dOf "width_in" 24, dOf "words_of" 25, dOf "wide_in" 26, dOf "nexts" 27, dOf "table_in" 28, dOf "lines_of" 29]
def fn1 : List He.DefD := [dOf "size_of" 30, dOf "tethers_of" 31, dOf "is_tether" 35, dOf "is_name" 36, dOf "is_map" 37, dOf "sure_name" 38, dOf "map_of" 39, dOf "part_of" 40, dOf "joined" 41, dOf "tether_turned" 42, dOf "turned" 43, dOf "sides_turned" 44, dOf "place_turned" 45, dOf "tether_by" 46, dOf "map_moved" 47, dOf "spread" 48, dOf "tether_sized" 49, dOf "sized" 50, dOf "stretch_at" 51, dOf "lets" 52]
def fn2 : List He.DefD := [dOf "box_in" 53, dOf "box_at" 54, dOf "do_cover" 55, dOf "_law_box" 57, dOf "_law_take" 58, dOf "_law_cells" 59, dOf "_law_of" 60, dOf "_law_lists" 61, dOf "_law_same" 62, dOf "_law_low" 63, dOf "_law_sum" 64, dOf "_law_below" 65, dOf "_law_drawn_tether" 66, dOf "_law_drawn_plan" 67, dOf "_law_number" 68, dOf "_law_half" 69, dOf "_law_plan_half" 70, dOf "_law_tie_by" 71, dOf "_law_plan_by" 72, dOf "_law_reach" 73]
def fn3 : List He.DefD := [dOf "_law_is_let" 74, dOf "_law_one_right" 75, dOf "_law_covers" 76, dOf "_law_plans_right" 77, dOf "_law_looks" 78, dOf "_law_named" 79, dOf "_law_leaf" 80, dOf "_law_moved" 81, dOf "_law_pages_right" 82, dOf "_law_by_hand_right" 83, dOf "law" 84]
def fnA : List He.DefD := fn0 ++ fn1 ++ fn2 ++ fn3
def fa0 : List He.Fa := [.glo "is_number", .glo "tuple_of", .glo "is_tuple_of", .glo "fraction", .glo "plus", .glo "minus", .glo "is_less", .glo "on", .glo "reach", .glo "stepped", .glo "spot_in", .glo "piece_in", .glo "frame_of", .glo "tie_in", .glo "width_in", .glo "words_of", .glo "wide_in", .glo "nexts", .glo "table_in", .glo "lines_of"]
def fa1 : List He.Fa := [.glo "size_of", .glo "tethers_of", .glo "is_tether", .glo "is_name", .glo "is_map", .glo "sure_name", .glo "map_of", .glo "part_of", .glo "joined", .glo "tether_turned", .glo "turned", .glo "sides_turned", .glo "place_turned", .glo "tether_by", .glo "map_moved", .glo "spread", .glo "tether_sized", .glo "sized", .glo "stretch_at", .glo "lets"]
def fa2 : List He.Fa := [.glo "box_in", .glo "box_at", .glo "do_cover", .glo "_law_box", .glo "_law_take", .glo "_law_cells", .glo "_law_of", .glo "_law_lists", .glo "_law_same", .glo "_law_low", .glo "_law_sum", .glo "_law_below", .glo "_law_drawn_tether", .glo "_law_drawn_plan", .glo "_law_number", .glo "_law_half", .glo "_law_plan_half", .glo "_law_tie_by", .glo "_law_plan_by", .glo "_law_reach"]
def fa3 : List He.Fa := [.glo "_law_is_let", .glo "_law_one_right", .glo "_law_covers", .glo "_law_plans_right", .glo "_law_looks", .glo "_law_named", .glo "_law_leaf", .glo "_law_moved", .glo "_law_pages_right", .glo "_law_by_hand_right", .glo "law", .free "isinstance", .free "list", .free "tuple", .free "int", .free "bool", .free "str", .free "len", .free "abs", .free "sum"]
def fa4 : List He.Fa := [.free "min", .free "max", .free "all", .free "range", .free "zip", .free "enumerate", .free "dict", .int "MOST_NAMES" 16, .glo "NOUGHT"]
def faA : List He.Fa := fa0 ++ fa1 ++ fa2 ++ fa3 ++ fa4
def nm0 : List PySem.Str := ["NoPlace", "CanNot", "TooMuch", "Unfit", "is_number", "tuple_of", "is_tuple_of", "fraction", "plus", "minus", "is_less", "on", "reach", "stepped", "spot_in", "piece_in", "frame_of", "tie_in", "width_in", "words_of", "wide_in", "nexts", "table_in", "lines_of", "size_of", "tethers_of", "MOST_NAMES", "NOUGHT", "is_tether", "is_name"]
def nm1 : List PySem.Str := ["is_map", "sure_name", "map_of", "part_of", "joined", "tether_turned", "turned", "sides_turned", "place_turned", "tether_by", "map_moved", "spread", "tether_sized", "sized", "stretch_at", "lets", "box_in", "box_at", "do_cover", "_law_box", "_law_take", "_law_cells", "_law_of", "_law_lists", "_law_same", "_law_low", "_law_sum", "_law_below", "_law_drawn_tether", "_law_drawn_plan"]
def nm2 : List PySem.Str := ["_law_number", "_law_half", "_law_plan_half", "_law_tie_by", "_law_plan_by", "_law_reach", "_law_is_let", "_law_one_right", "_law_covers", "_law_plans_right", "_law_looks", "_law_named", "_law_leaf", "_law_moved", "_law_pages_right", "_law_by_hand_right"]
def nmA : List PySem.Str := nm0 ++ nm1 ++ nm2
/-- two more facts: gcd is math's, NOUGHT is the pair (0, 1) -/
def exB (K : PySem.W.Frag) : Bool := He.eqO (PySem.W.nsIn K mainGlobals "gcd") (some (some (.builtin "math.gcd"))) && He.tupB K "NOUGHT" [.int 0, .int 1]
abbrev AlY : Type := He.AlD × Bool
def obsY (n : Nat) (fa : List He.Fa) (fn : List He.DefD) (g : Addr → Option Obj) : AlY := (He.obsD fa fn (He.frG g (He.asD g n)), exB (He.frG g (He.asD g n)))
structure SaysY (fa : List He.Fa) (fn : List He.DefD) (K : PySem.W.Frag) : Prop where
  d : He.SaysD fa fn K
  e : exB K = true
def hookY (n : Nat) (fa : List He.Fa) (fn : List He.DefD) : PySem.W.Hook where
  α := AlY
  obs := fun s => obsY n fa fn s.heap.get?
  val := fun _ => (He.valD fn, true)
  says := fun _ h => ∃ K : PySem.W.Frag, K.In h ∧ SaysY fa fn K
  of := fun _ _ e => ⟨_, He.frG_in, ⟨congrArg (fun z : AlY => z.1) e, congrArg (fun z : AlY => z.2) e⟩⟩
  keeps := fun _ _ _ ⟨K, hK, c⟩ k => ⟨K, PySem.W.Frag.In.keeps hK k, c⟩
theorem obsY_eq {n : Nat} {fa : List He.Fa} {fn : List He.DefD} {g : Addr → Option Obj} {s : Shared} (h : ∀ a, g a = s.heap.get? a) : obsY n fa fn g = (hookY n fa fn).obs s := by
  have e : g = s.heap.get? := funext h
  rw [e] <;> rfl
abbrev RR : PySem.W.OpenRow := PySem.W.OpenLaw.row PySem.Challenge.rw_glidenames_k07_whole_maps_turned_moved_a
abbrev hk : PySem.W.Hook := hookY 4 faA fnA
def ob (s : PySem.W.SharedT) : AlY := obsY 4 faA fnA (HandSHeadRun.getT s)
theorem ob_eq (s : PySem.W.SharedT) : ob s = hk.obs s.abs := obsY_eq (HandSHeadRun.getT_eq s)
theorem run (w : World) : HandSHeadRun.RunEqI RR (PySem.W.view RR.prog [0, 84]) hk ob 6000 nmA w := by
  unfold HandSHeadRun.RunEqI
  kernel_rfl
end Gn

namespace DL
open PySem PySem.Spec PyProof.Rows L2 Gn

/-- the world at the law's call: what the head left -/
structure Fx (K : PySem.W.Frag) (mg : Str → Option Value) : Prop where
  d : He.SaysD faA fnA K
  e : exB K = true
  at_ : ∃ h : Heap, K.In h ∧ h.Ns mainGlobals mg
section
variable {K : PySem.W.Frag} {mg : Str → Option Value}
theorem Fx.free (z : Fx K mg) (i : Nat) {x : Str} (h : faA[i]? = some (.free x) := by rfl) : mg x = none := by
  obtain ⟨h0, X, G⟩ := z.at_
  exact He.free_ok X G (z.d.fact i (f := .free x) h)
theorem Fx.glo (z : Fx K mg) (i : Nat) {x : Str} (h : faA[i]? = some (.glo x) := by rfl) : mg x = some (.ref (He.ga K x)) := by
  obtain ⟨h0, X, G⟩ := z.at_
  exact He.glo_ok X G (z.d.fact i (f := .glo x) h)
theorem Fx.most (z : Fx K mg) : ∃ t, mg "MOST_NAMES" = some (.int 16 t) := by
  obtain ⟨h0, X, G⟩ := z.at_
  exact He.int_ok X G (z.d.fact 87 (f := .int "MOST_NAMES" 16) rfl)
theorem Fx.gcd (z : Fx K mg) : mg "gcd" = some (.builtin "math.gcd") := by
  obtain ⟨h0, X, G⟩ := z.at_
  have e := z.e
  unfold exB at e
  rw [Bool.and_eq_true] at e
  exact PySem.W.mg_of X G (He.eqO_ok e.1)
theorem Fx.nought (z : Fx K mg) : ∃ a, mg "NOUGHT" = some (.ref a) ∧ TupAt K (fun _ => none) a [.int 0, .int 1] := by
  have e := z.e
  unfold exB at e
  rw [Bool.and_eq_true] at e
  have g := z.glo 88 (x := "NOUGHT") rfl
  refine ⟨_, g, ?_⟩
  have t := He.tupB_ok e.2 (fun _ => none)
  exact t.elim (fun t => by
    rcases t with t | t
    · cases t
    · obtain ⟨_, _, t⟩ := t) fun t => .inr (.inr t)
end
theorem _root_.L2.Room.units1 {k : Nat} {A : Around} (r : Room k A) : A.units + 1 < cLine := by have := r.un; omega
/-- the row's program -/
abbrev PR : Program := RR.prog
/-- a def of the program keeps its promise -/
abbrev CA (w : World) (K : PySem.W.Frag) (mg : Str → Option Value) (base : Heap) (k : Nat) (x : Str) (ps : List Str) (R : RD) : Prop := Cal PR w K mg base k x ps R
theorem mkCal {w : World} {K : PySem.W.Frag} {mg : Str → Option Value} {base : Heap} (z : Fx K mg) {N ps : List Str} {k : Nat} {R : RD} (x : Str) (j i : Nat) (hd : fnA[j]? = some (dOf x i)) (hf : faA[j]? = some (.glo x)) (S : FnScope N ps (defScope (topS i)))
    (hb : ∀ (dV kV doc pm : Value) (an : Option Addr) (cdv ct : Value) (us : List Value), us.length = ps.length → bindArgs (PySem.W.fnOf x x (defArgs (topS i)) (defBody (topS i)) (defScope (topS i)) .none kV doc pm an cdv ct) ⟨us, []⟩ = pure (ps.zip us))
    (hbody : ∀ (f : Addr) (cdv : Value) (A : Around) (outer : List Env) (s : Shared) (H : Hp) (E : XK), Room k (A.deeper (envOfC x (defScope (topS i)) s.heap.objs.size f cdv)) →
      ∃ ts t, AB (cxOf CX0 PR w K mg base N x (defScope (topS i)) f cdv A outer s H E).nox (defBody (topS i)) ts t ∧ ∀ ss n kk, R ss n kk → ss.length = ps.length → t { nx := fun _ n => kk .non n, rt := kk } (ss ++ List.replicate (N.length - ps.length) .no) n) :
    CA w K mg base (k + 1) x ps R := by
  obtain ⟨fd, F⟩ := z.d.def_ j hd
  exact ⟨_, fd, okD F S (fun cdv A outer s H E hr => hbody _ cdv A outer s H E hr), F.kp, F.bindsN (hb .none), z.glo j hf⟩
theorem Cal.up {P : Program} {w : World} {K : PySem.W.Frag} {mg : Str → Option Value} {base : Heap} {j k : Nat} {x : Str} {ps : List Str} {R : RD} (C : Cal P w K mg base j x ps R) (h : j ≤ k) : Cal P w K mg base k x ps R := by
  obtain ⟨f, fd, F, r⟩ := C.ex
  exact ⟨f, fd, F.mono h, r⟩
theorem spD_imp {K : PySem.W.Frag} {m : Nat} {R R' : RD} (h : ∀ ss n k, R' ss n k → R ss n k) : ∀ vs H Q E, spD K m R' vs H Q E → spD K m R vs H Q E := fun vs H Q E q => by
  obtain ⟨t, F, ss, n, k, h1, h2, h3, h4, h5, h6⟩ := q
  exact ⟨t, F, ss, n, k, h1, h2, h3, h4, h _ _ _ h5, h6⟩
theorem Cal.imp {P : Program} {w : World} {K : PySem.W.Frag} {mg : Str → Option Value} {base : Heap} {k : Nat} {x : Str} {ps : List Str} {R R' : RD} (C : Cal P w K mg base k x ps R) (h : ∀ ss n k, R' ss n k → R ss n k) : Cal P w K mg base k x ps R' := by
  obtain ⟨f, fd, F, r⟩ := C.ex
  exact ⟨f, fd, F.imp (spD_imp h), r⟩
/-- of no arguments at all: anything -/
theorem calNone {w : World} {K : PySem.W.Frag} {mg : Str → Option Value} {base : Heap} {k : Nat} (z : Fx K mg) {ps : List Str} (x : Str) (j i : Nat) (hd : fnA[j]? = some (dOf x i)) (hf : faA[j]? = some (.glo x))
    (hb : ∀ (dV kV doc pm : Value) (an : Option Addr) (cdv ct : Value) (us : List Value), us.length = ps.length → bindArgs (PySem.W.fnOf x x (defArgs (topS i)) (defBody (topS i)) (defScope (topS i)) .none kV doc pm an cdv ct) ⟨us, []⟩ = pure (ps.zip us)) : CA w K mg base k x ps fun _ _ _ => False := by
  obtain ⟨fd, F⟩ := z.d.def_ j hd
  have no : ∀ vs H Q E, ¬ spD K ps.length (fun _ _ _ => False) vs H Q E := fun vs H Q E q => by
    obtain ⟨t, F, ss, n, k, h1, h2, h3, h4, h5, h6⟩ := q
    exact h5
  exact ⟨_, fd, ⟨(fun vs H Q E q => (no _ _ _ _ q).elim), (fun A outer s H args us vs Q E hr he hb hv q => (no _ _ _ _ q).elim)⟩, F.kp, F.bindsN (hb .none), z.glo j hf⟩

/-- the pair (0, 1) of the module -/
theorem ae_nought {X : Cx} {pos : Pos} {a : Addr} (hg : Gl X "NOUGHT") (hm : X.mg "NOUGHT" = some (.ref a)) (h : TupAt X.K (fun _ => none) a [.int 0, .int 1]) : AE X (.Name "NOUGHT" pos) (tC (.ref a)) (dC (.tup [.int 0, .int 1])) := by
  refine ⟨pe_glob hg hm rfl (by decide), rel_c fun F => ?_⟩
  have s : Iss X.K F [.int 0, .int 1] [.int 0, .int 1] := .cons (.int 0) (.cons (.int 1) .nil)
  exact .tup (h.mono fun _ _ e => (by cases e)) s.1 s.2
/-- x[i] of an own list -/
def dOwnIx (i : Nat) (tb : DE) : DE := fun ρ n k => ∃ l, ρ[i]? = some (.own l) ∧ tb ρ n fun y n1 => ∃ j d, y = .int j ∧ atI l j = some d ∧ k d n1
theorem ae_ownIx {X : Cx} {b : Expr} {tb' : TE} {tb : DE} {pos p : Pos} (i : Nat) {x : Str} (hb : AE X b tb' tb) (hs : PlainIx b := by exact fun _ _ => rfl) (hN : X.N[i]? = some x := by rfl) (hv : Vis X.env.scope x := by first | exact Or.inl rfl | exact Or.inr (Or.inl rfl) | exact Or.inr (Or.inr rfl)) (hd : (x == ("__debug__" : Str)) = false := by decide)
    (hcd : (x == ("__classdict__" : Str)) = false := by decide) : AE X (.Subscript (.Name x p) b pos) (tOp (rIx X.K) (tVar i) tb') (dOwnIx i tb) := by
  refine ⟨pe_ix ix_seq (pe_var hN hv hd hcd) hb.pe hs, fun c F H σ ρ n Q k S h q => ?_⟩
  obtain ⟨l, e1, h⟩ := h
  obtain ⟨a, xs, e2, h0, hf, ht, hh, is⟩ := S.getOwn e1
  refine ⟨.ref a, e2, ?_⟩
  refine hb.rel c F H σ ρ n _ _ S h fun v x F1 H1 n1 s1 t1 i1 h1 => ?_
  obtain ⟨j, d, rfl, ha, h1⟩ := h1
  cases i1
  have hh1 := s1.ex _ _ ht hh
  obtain ⟨w, ew, iw⟩ := (is.mono s1.le).atI ha
  exact .inl ⟨a, xs, j, w, rfl, rfl, .of hh1, ew, q _ _ F1 H1 n1 s1 t1 iw h1⟩
end DL

namespace DL
open PySem PySem.Spec PyProof.Rows L2

section
variable {X : Cx} {a b e : Expr} {ta' tb' te' : TE} {ta tb te : DE} {pos p2 : Pos}
/-! ### a slice of a list that is read alone -/
def dSlS (ta : DE) (tl th : DO) : DE := fun ρ n k => ta ρ n fun x n1 => ∃ l, x = .scr l ∧ tl ρ n1 fun lo n2 => th ρ n2 fun hi n3 => k (.lst (cutD l lo hi)) n3
theorem Is.scrE {K : PySem.W.Frag} {F : Hp} {v : V} {ds : List D} (h : Is K F v (.scr ds)) : ∃ a xs, v = .ref a ∧ ScrAt K F a xs ∧ Iss K F xs ds := by
  cases h with
  | scr h hl hi => exact ⟨_, _, rfl, h, hl, hi⟩
theorem ae_sliceS {lo hi : Option Expr} {tl' th' : TO} {tl th : DO} (ha : AE X a ta' ta) (hl : AO X lo tl' tl) (hu : AO X hi th' th) :
    AE X (.Subscript a (.Slice lo hi none p2) pos) (tSl (rSlL X.K) ta' tl' th') (dSlS ta tl th) := by
  refine ⟨pe_slice sl_list ha.pe hl.pe hu.pe, fun c F H σ ρ n Q k S h q => ?_⟩
  refine ha.rel c F H σ ρ n _ _ S h fun v x F1 H1 n1 s1 t1 i1 h1 => ?_
  obtain ⟨ds, rfl, h1⟩ := h1
  have S1 := S.step s1 t1
  refine hl.rel c F1 H1 σ ρ n1 _ _ S1 h1 fun l F2 H2 n2 s2 t2 h2 => ?_
  have S2 := S1.step s2 t2
  refine hu.rel c F2 H2 σ ρ n2 _ _ S2 h2 fun u F3 H3 n3 s3 t3 h3 => ?_
  have i3 := (i1.mono s2.le).mono s3.le
  have st := (s1.trans s2).trans s3
  obtain ⟨a, xs, rfl, g, is⟩ := i3.scrE
  refine ⟨a, xs, rfl, g.sql s3.sub, fun p hp => ?_⟩
  have s4 := Step.frz (o := .lst (cutV xs l u)) s3.sub hp
  have i4 := (is.cut l u).mono s4.le
  exact q _ _ _ _ n3 (st.trans s4.weak) (t3.step0 s4) (.lst upd_same i4.1 i4.2) h3

/-! ### list(a list) or a list of one: a fresh list -/
def dOrL (ta : DA) (tb : DLs) : DLs := fun ρ n k => ta ρ n fun ds n1 => ∃ x l, ds = [x] ∧ elems x = some l ∧ (if l.length = 0 then tb ρ n1 k else k l n1)
theorem al_orL {es : List Expr} {t' : TA} {t : DA} {tl : DLs} {x : Str} {p : Pos} (hg : Gl X x) (hm : X.mg x = none) (hv : bootBuiltins x = some (.type "list")) (ha : AD X (e :: es) t' t) (hb : AL X b tb' tl) (hn : x ≠ "__name__" := by decide) (hdb : (x == ("__debug__" : Str)) = false := by decide)
    (he : starEach (e :: es) X.env = (false, eval e X.env) :: starEach es X.env := by rfl) (hpl : (backTo p2 (starEach es X.env)).any (·.1) = false := by rfl) :
    AL X (.BoolOp .Or [.Call (.Name x p) (e :: es) [] p2, b] pos) (tOrT X.K (tCB (fun xs H Q => ∃ p ys, xs = [.ref p] ∧ (SqL X.K H p ys ∨ SqT X.K H p ys) ∧ ∀ l, H l = none → Q (.ref l) (upd H l (.lst ys))) t') tb') (dOrL t tl) := by
  refine ⟨pe_orT (pe_callTy call_list_of hg hm hv ha.pe hn hdb he hpl) (pe_one hb.pe), fun c F H σ ρ n Q k S h q => ?_⟩
  refine ha.rel c F H σ ρ n _ _ S h fun vs ds F1 H1 n1 s1 t1 is l1 h1 => ?_
  obtain ⟨x, l, rfl, hl, h1⟩ := h1
  obtain ⟨v, rfl, i1⟩ := is.one
  obtain ⟨a, xs, rfl, si, g⟩ := i1.seqE hl
  have sq : SqL X.K H1 a xs ∨ SqT X.K H1 a xs := by
    rcases g with g | g
    · exact .inl (.of (s1.sub _ _ g.2))
    · exact .inr (g.2.sqt s1.sub)
  refine ⟨a, xs, rfl, sq, fun p hp => ?_⟩
  have st := Step.new (o := .lst xs) s1.sub hp
  have hf : F1 p = none := by
    cases z : F1 p with
    | none => rfl
    | some o => rw [s1.sub _ _ z] at hp; cases hp
  have tr : TruV X.K (.ref p) (upd H1 p (.lst xs)) (!xs.isEmpty) := .inl ⟨xs, .of upd_same, rfl⟩
  refine ⟨_, tr, ?_⟩
  by_cases z : l.length = 0
  · rw [if_pos z] at h1
    have ex : xs = [] := by
      cases xs with
      | nil => rfl
      | cons _ _ => rw [← si.1] at z; simp at z
    rw [if_neg (by simp [ex])]
    exact hb.rel c F1 _ σ ρ n1 _ _ ((S.step s1 t1).step0 st) h1 fun a2 ys l2 F2 H2 n2 s2 t2 e1 e2 e3 e4 e5 => by
      refine q a2 ys l2 F2 H2 n2 ((s1.trans st.weak).trans s2) t2 ?_ e2 e3 e4 e5
      exact (s1.trans st.weak).back e1
  · rw [if_neg z] at h1
    have ex : xs ≠ [] := fun w => by
      rw [w] at si
      exact z (by rw [← si.1]; rfl)
    rw [if_pos (by simp [ex])]
    exact q p xs l F1 _ n1 (s1.trans st.weak) (t1.step0 st) (s1.back hp) hf upd_same si h1

/-! ### an own list's place is written -/
theorem Iss.set {K : PySem.W.Frag} {F : Hp} {xs : List V} {ds : List D} (h : Iss K F xs ds) (j : Nat) {v : V} {d : D} (hv : Is K F v d) : Iss K F (xs.set j v) (ds.set j d) := by
  refine ⟨by simp [h.1], fun i x e h1 h2 => ?_⟩
  by_cases z : j = i
  · subst z
    have hl : j < xs.length := by have := (List.getElem?_eq_some_iff.mp h1).1; simpa using this
    rw [List.getElem?_set_self hl] at h1
    rw [List.getElem?_set_self (by rw [← h.1]; exact hl)] at h2
    cases h1
    cases h2
    exact hv
  · rw [List.getElem?_set_ne z] at h1 h2
    exact h.2 i x e h1 h2
def dOwnSet (i : Nat) (ti te : DE) : DS := fun G ρ n => te ρ n fun d n1 => ∃ l, ρ[i]? = some (.own l) ∧ ti ρ n1 fun y n2 => ∃ j jn, y = .int j ∧ ixN l.length j = some jn ∧ G.nx (ρ.set i (.own (l.set jn d))) n2
theorem as_ownSet (i : Nat) {x : Str} {ie : Expr} {p p' pos : Pos} (hi : AE X ie tb' tb) (he : AE X e te' te) (hN : X.N[i]? = some x := by rfl) (hv : Vis X.env.scope x := by first | exact Or.inl rfl | exact Or.inr (Or.inl rfl) | exact Or.inr (Or.inr rfl)) (hd : (x == ("__debug__" : Str)) = false := by decide)
    (hcd : (x == ("__classdict__" : Str)) = false := by decide) (ha : ∀ v, assign (.Subscript (.Name x p) ie p') X.env v = (do
      let ov ← holding [v] (eval (.Name x p) X.env)
      let iv ← holding [v, ov] (eval ie X.env)
      standAt p'
      holding [v, ov, iv] (setItem ov iv v)
      release [v, ov, iv] []) := by intro _; rfl)
    (hs : swapsWithSole [.Subscript (.Name x p) ie p'] e pos.line X.env = pure false := by rfl) (hw : swappedStores [.Subscript (.Name x p) ie p'] e X.env = pure none := by rfl)
    (h1 : (assignEach [.Subscript (.Name x p) ie p'] X.env).map (·.2) = [assign (.Subscript (.Name x p) ie p') X.env] := by rfl) :
    AS X (.Assign [.Subscript (.Name x p) ie p'] e pos) (tAsg te' (gSub (tVar i) tb' rSetL)) (dOwnSet i tb te) := by
  refine ⟨ps_asg he.pe (pg_sub (pe_var hN hv hd hcd) hi.pe set_list ha) hs hw h1, fun c F H σ ρ n G E S h ti => ?_⟩
  refine he.rel c F H σ ρ n _ _ S h fun v d F1 H1 n1 s1 t1 i1 h1 => ?_
  obtain ⟨l, e1, h1⟩ := h1
  have S1 := S.step s1 t1
  obtain ⟨a, xs, e2, h0, hf, ht, hh, is⟩ := S1.getOwn e1
  refine ⟨.ref a, e2, ?_⟩
  refine hi.rel c F1 H1 σ ρ n1 _ _ S1 h1 fun u y F2 H2 n2 s2 t2 i2 h2 => ?_
  obtain ⟨j, jn, rfl, hj, h2⟩ := h2
  cases i2
  have S2 := S1.step s2 t2
  have hh2 := s2.ex _ _ ht hh
  exact ⟨a, xs, j, jn, rfl, rfl, hh2, by rw [is.1]; exact hj, ti.nx _ _ _ _ n2 (S2.write e1 e2 ((is.mono s2.le).set jn (i1.mono s2.le))) h2⟩

/-! ### the source of draws -/
def dTin0 (i : Nat) : DE := fun ρ n k => ρ[i]? = some .tin ∧ ∀ v, k (.int v) n
def dTin1 (i : Nat) : DE := fun ρ n k => ρ[i]? = some .tin ∧ ∀ v, 0 ≤ v → v < 2 ^ 62 → k (.int v) n
def dTin2 (i : Nat) : DE := fun ρ n k => ρ[i]? = some .tin ∧ ∀ v, 0 ≤ v → v ≤ (n : Int) → k (.int v) n
theorem Sat.tin3 {K : PySem.W.Frag} {c : Ct} {F H : Hp} {σ : L2.St} {ρ : List Slot} {n : Nat} {i : Nat} (S : Sat K c F H σ ρ n) (e : ρ[i]? = some .tin) : ∃ a x y z, σ[i]? = some (some (.ref a)) ∧ c.t = some a ∧ F a = none ∧ H a = some (.lst [.int x, .int y, .int z]) ∧ TinB n y z := by
  obtain ⟨a, h1, h2⟩ := S.getTin e
  have ti := S.tin
  rw [h2] at ti
  obtain ⟨h3, x, y, z, h4, h5⟩ := ti
  exact ⟨a, x, y, z, h1, h2, h3, h4, h5⟩
section
variable {x : Str} {p p3 : Pos} {jj : Option Str}
theorem ae_tin0 (i : Nat) {x : Str} {p p3 : Pos} {jj} (hs : PlainIx (.Constant (.int 0) jj p3) := by exact fun _ _ => rfl) (hN : X.N[i]? = some x := by rfl) (hv : Vis X.env.scope x := by first | exact Or.inl rfl | exact Or.inr (Or.inl rfl) | exact Or.inr (Or.inr rfl)) (hd : (x == ("__debug__" : Str)) = false := by decide)
    (hcd : (x == ("__classdict__" : Str)) = false := by decide) : AE X (.Subscript (.Name x p) (.Constant (.int 0) jj p3) pos) (tOp (rIx X.K) (tVar i) (tC (.int 0))) (dTin0 i) := by
  refine ⟨pe_ix ix_seq (pe_var hN hv hd hcd) pe_int hs, fun c F H σ ρ n Q k S h q => ?_⟩
  obtain ⟨a, x, y, z, h1, h2, h3, h4, h5⟩ := S.tin3 h.1
  exact ⟨.ref a, h1, .inl ⟨a, _, 0, _, rfl, rfl, .of h4, rfl, q _ _ F H n (Step.refl S.sub) S.tin (.int x) (h.2 x)⟩⟩
theorem ae_tin1 (i : Nat) {x : Str} {p p3 : Pos} {jj} (hs : PlainIx (.Constant (.int 1) jj p3) := by exact fun _ _ => rfl) (hN : X.N[i]? = some x := by rfl) (hv : Vis X.env.scope x := by first | exact Or.inl rfl | exact Or.inr (Or.inl rfl) | exact Or.inr (Or.inr rfl)) (hd : (x == ("__debug__" : Str)) = false := by decide)
    (hcd : (x == ("__classdict__" : Str)) = false := by decide) : AE X (.Subscript (.Name x p) (.Constant (.int 1) jj p3) pos) (tOp (rIx X.K) (tVar i) (tC (.int 1))) (dTin1 i) := by
  refine ⟨pe_ix ix_seq (pe_var hN hv hd hcd) pe_int hs, fun c F H σ ρ n Q k S h q => ?_⟩
  obtain ⟨a, x, y, z, h1, h2, h3, h4, h5⟩ := S.tin3 h.1
  exact ⟨.ref a, h1, .inl ⟨a, _, 1, _, rfl, rfl, .of h4, rfl, q _ _ F H n (Step.refl S.sub) S.tin (.int y) (h.2 y h5.1 h5.2.1)⟩⟩
theorem ae_tin2 (i : Nat) {x : Str} {p p3 : Pos} {jj} (hs : PlainIx (.Constant (.int 2) jj p3) := by exact fun _ _ => rfl) (hN : X.N[i]? = some x := by rfl) (hv : Vis X.env.scope x := by first | exact Or.inl rfl | exact Or.inr (Or.inl rfl) | exact Or.inr (Or.inr rfl)) (hd : (x == ("__debug__" : Str)) = false := by decide)
    (hcd : (x == ("__classdict__" : Str)) = false := by decide) : AE X (.Subscript (.Name x p) (.Constant (.int 2) jj p3) pos) (tOp (rIx X.K) (tVar i) (tC (.int 2))) (dTin2 i) := by
  refine ⟨pe_ix ix_seq (pe_var hN hv hd hcd) pe_int hs, fun c F H σ ρ n Q k S h q => ?_⟩
  obtain ⟨a, x, y, z, h1, h2, h3, h4, h5⟩ := S.tin3 h.1
  exact ⟨.ref a, h1, .inl ⟨a, _, 2, _, rfl, rfl, .of h4, rfl, q _ _ F H n (Step.refl S.sub) S.tin (.int z) (h.2 z h5.2.2.1 h5.2.2.2)⟩⟩
end
/-- the source is written -/
theorem Sat.tinWrite {K : PySem.W.Frag} {c : Ct} {F H : Hp} {σ : L2.St} {ρ : List Slot} {n m : Nat} {a : Addr} {x y z : Int} (S : Sat K c F H σ ρ n) (hc : c.t = some a) (hf : F a = none) (hb : TinB m y z) : Sat K c F (upd H a (.lst [.int x, .int y, .int z])) σ ρ m := by
  refine S.step ⟨Same.refl F, fun b o nb e => ?_, fun b o e => ?_, fun b e _ => e, fun b nb => upd_there nb⟩ ?_
  · have : b ≠ a := fun w => nb (by rw [w, hc])
    rw [upd_ne this]
    exact e
  · rw [upd_ne (ne_of_none e hf)]
    exact S.sub _ _ e
  · rw [hc]
    exact ⟨hf, x, y, z, upd_same, hb⟩
def dTinSet0 (i : Nat) (te : DE) : DS := fun G ρ n => te ρ n fun d n1 => ∃ v, d = .int v ∧ ρ[i]? = some .tin ∧ G.nx ρ (n1 + 1)
def dTinSet2 (i : Nat) (te : DE) : DS := fun G ρ n => te ρ n fun d n1 => ∃ v, d = .int v ∧ ρ[i]? = some .tin ∧ 0 ≤ v ∧ v ≤ (n1 : Int) + 1 ∧ G.nx ρ (n1 + 1)
section
variable {x : Str} {p p' p3 : Pos} {jj : Option Str}
theorem as_tinSet0 (i : Nat) {x : Str} {p p' p3 pos : Pos} {jj} (he : AE X e te' te) (hN : X.N[i]? = some x := by rfl) (hv : Vis X.env.scope x := by first | exact Or.inl rfl | exact Or.inr (Or.inl rfl) | exact Or.inr (Or.inr rfl)) (hd : (x == ("__debug__" : Str)) = false := by decide)
    (hcd : (x == ("__classdict__" : Str)) = false := by decide) (ha : ∀ v, assign (.Subscript (.Name x p) (.Constant (.int 0) jj p3) p') X.env v = (do
      let ov ← holding [v] (eval (.Name x p) X.env)
      let iv ← holding [v, ov] (eval (.Constant (.int 0) jj p3) X.env)
      standAt p'
      holding [v, ov, iv] (setItem ov iv v)
      release [v, ov, iv] []) := by intro _; rfl)
    (hs : swapsWithSole [.Subscript (.Name x p) (.Constant (.int 0) jj p3) p'] e pos.line X.env = pure false := by rfl) (hw : swappedStores [.Subscript (.Name x p) (.Constant (.int 0) jj p3) p'] e X.env = pure none := by rfl)
    (h1 : (assignEach [.Subscript (.Name x p) (.Constant (.int 0) jj p3) p'] X.env).map (·.2) = [assign (.Subscript (.Name x p) (.Constant (.int 0) jj p3) p') X.env] := by rfl) :
    AS X (.Assign [.Subscript (.Name x p) (.Constant (.int 0) jj p3) p'] e pos) (tAsg te' (gSub (tVar i) (tC (.int 0)) rSetL)) (dTinSet0 i te) := by
  refine ⟨ps_asg he.pe (pg_sub (pe_var hN hv hd hcd) pe_int set_list ha) hs hw h1, fun c F H σ ρ n G E S h ti => ?_⟩
  refine he.rel c F H σ ρ n _ _ S h fun v d F1 H1 n1 s1 t1 i1 h1 => ?_
  obtain ⟨w, rfl, e1, h1⟩ := h1
  cases i1
  have S1 := S.step s1 t1
  obtain ⟨a, x, y, z, q1, q2, q3, q4, q5⟩ := S1.tin3 e1
  exact ⟨.ref a, q1, a, _, 0, 0, rfl, rfl, q4, rfl, ti.nx _ _ _ _ _ (S1.tinWrite (m := n1 + 1) (x := w) q2 q3 ⟨q5.1, q5.2.1, q5.2.2.1, by have := q5.2.2.2; omega⟩) h1⟩
theorem as_tinSet2 (i : Nat) {x : Str} {p p' p3 pos : Pos} {jj} (he : AE X e te' te) (hN : X.N[i]? = some x := by rfl) (hv : Vis X.env.scope x := by first | exact Or.inl rfl | exact Or.inr (Or.inl rfl) | exact Or.inr (Or.inr rfl)) (hd : (x == ("__debug__" : Str)) = false := by decide)
    (hcd : (x == ("__classdict__" : Str)) = false := by decide) (ha : ∀ v, assign (.Subscript (.Name x p) (.Constant (.int 2) jj p3) p') X.env v = (do
      let ov ← holding [v] (eval (.Name x p) X.env)
      let iv ← holding [v, ov] (eval (.Constant (.int 2) jj p3) X.env)
      standAt p'
      holding [v, ov, iv] (setItem ov iv v)
      release [v, ov, iv] []) := by intro _; rfl)
    (hs : swapsWithSole [.Subscript (.Name x p) (.Constant (.int 2) jj p3) p'] e pos.line X.env = pure false := by rfl) (hw : swappedStores [.Subscript (.Name x p) (.Constant (.int 2) jj p3) p'] e X.env = pure none := by rfl)
    (h1 : (assignEach [.Subscript (.Name x p) (.Constant (.int 2) jj p3) p'] X.env).map (·.2) = [assign (.Subscript (.Name x p) (.Constant (.int 2) jj p3) p') X.env] := by rfl) :
    AS X (.Assign [.Subscript (.Name x p) (.Constant (.int 2) jj p3) p'] e pos) (tAsg te' (gSub (tVar i) (tC (.int 2)) rSetL)) (dTinSet2 i te) := by
  refine ⟨ps_asg he.pe (pg_sub (pe_var hN hv hd hcd) pe_int set_list ha) hs hw h1, fun c F H σ ρ n G E S h ti => ?_⟩
  refine he.rel c F H σ ρ n _ _ S h fun v d F1 H1 n1 s1 t1 i1 h1 => ?_
  obtain ⟨w, rfl, e1, b1, b2, h1⟩ := h1
  cases i1
  have S1 := S.step s1 t1
  obtain ⟨a, x, y, z, q1, q2, q3, q4, q5⟩ := S1.tin3 e1
  exact ⟨.ref a, q1, a, _, 2, 2, rfl, rfl, q4, rfl, ti.nx _ _ _ _ _ (S1.tinWrite (m := n1 + 1) (x := x) (y := y) (z := w) q2 q3 ⟨q5.1, q5.2.1, b1, by omega⟩) h1⟩
end

/-! ### an own dict -/
def dSetDT (i : Nat) : DS := fun G ρ n => G.nx (ρ.set i (.ownD [])) n
theorem as_setDT (i : Nat) {x : Str} {p5 pos pos' : Pos} (hN : X.N.Nodup) (hi : X.N[i]? = some x := by rfl) (hx : Loc X.env.scope x := by first | exact Or.inl rfl | exact Or.inr rfl) (hs : swapsWith (.Dict [] [] p5) (some (.Name x pos')) pos.line X.env = pure false := by rfl) (hf : X.fn x = true ∨ X.env.scope.names.lookup x = some .local := by first | exact .inl rfl | exact .inr rfl | assumption) :
    AS X (.Assign [.Name x pos'] (.Dict [] [] p5) pos) (tAsg tDNewT (gName i)) (dSetDT i) := by
  refine ⟨ps_set hN hi hx pe_dnewT hs hf, fun c F H σ ρ n G E S h ti p hp => ?_⟩
  have st := Step.new (o := .dT []) S.sub hp
  have hf : F p = none := S.sub.free hp
  exact ti.nx F _ _ _ n ((S.step0 st).set (s := .ownD []) ⟨p, [], rfl, S.st.back hp, hf, S.tin.ne hp, upd_same, rfl, fun i x d e => by simp at e⟩ (fun l a z => nomatch z)) h
def dDPutT (i : Nat) (te : DE) (t : DA) : DS := fun G ρ n => te ρ n fun d n1 => ρ[i]? = some (.ownD []) ∧ (∀ j l, j ≠ i → ρ[j]? ≠ some (.ownD l)) ∧ t ρ n1 fun ds n2 => ∃ a b, ds = [.int a, .int b] ∧ G.nx (ρ.set i (.ownD [([a, b], d)])) n2
theorem Sat.getOwnD {K : PySem.W.Frag} {c : Ct} {F H : Hp} {σ : L2.St} {ρ : List Slot} {n : Nat} (S : Sat K c F H σ ρ n) {i : Nat} {l : List (List Int × D)} (e : ρ[i]? = some (.ownD l)) : ∃ a, σ[i]? = some (some (.ref a)) ∧ ArgOk K c.t c.H F H (.ref a) (.ownD l) := by
  rcases S.sl i _ e with h | ⟨w, e1, h⟩
  · cases h
  · obtain ⟨a, kvs, rfl, r⟩ := id h
    refine ⟨a, ?_, h⟩
    cases q : σ[i]? with
    | none => rw [q] at e1; cases e1
    | some z => rw [q] at e1; exact congrArg some e1
theorem as_dputT (i : Nat) {x : Str} {es : List Expr} {kk} {p p1 p2 pos : Pos} {t' : TA} {t : DA} (hu : X.A.units + 1 < cLine) (he : AE X e te' te) (ha : AD X es t' t) (hN : X.N[i]? = some x := by rfl) (hv : Vis X.env.scope x := by first | exact Or.inl rfl | exact Or.inr (Or.inl rfl) | exact Or.inr (Or.inr rfl)) (hd : (x == ("__debug__" : Str)) = false := by decide)
    (hcd : (x == ("__classdict__" : Str)) = false := by decide) (hs : swapsWith e (some (.Subscript (.Name x p) (.Tuple es kk p1) p2)) pos.line X.env = pure false := by rfl) :
    AS X (.Assign [.Subscript (.Name x p) (.Tuple es kk p1) p2] e pos) (sDPut (tVar i) (tTup t') te') (dDPutT i te t) := by
  refine ⟨ps_dput hu (pe_var hN hv hd hcd) (pe_tup ha.pe) he.pe hs, fun c F H σ ρ n G E S h ti => ?_⟩
  refine he.rel c F H σ ρ n _ _ S h fun v d F1 H1 n1 s1 t1 i1 h1 => ?_
  obtain ⟨e1, only, h1⟩ := h1
  have S1 := S.step s1 t1
  obtain ⟨a, e2, ok⟩ := S1.getOwnD e1
  refine ⟨.ref a, e2, ?_⟩
  refine ha.rel c F1 H1 σ ρ n1 _ _ S1 h1 fun vs ds F2 H2 n2 s2 t2 is2 l2 h2 => ?_
  obtain ⟨k1, k2, rfl, h2⟩ := h2
  obtain ⟨u1, u2, rfl, j1, j2⟩ := is2.two
  cases j1
  cases j2
  refine ⟨by show 2 ≤ sizeLine; decide, fun q hq => ?_⟩
  have S2 := S1.step s2 t2
  have s3 := Step.new (o := .tup [.int k1, .int k2]) s2.sub hq
  have S3 := S2.step0 s3
  obtain ⟨a', kvs, ea, g0, gf, gt, gh, gk, gi⟩ := (ok.step s2).step s3.weak
  cases ea
  have ek : kvs = [] := by
    cases kvs with
    | nil => rfl
    | cons _ _ => simp at gk
  subst ek
  refine ⟨a, _, rfl, DPut.t (k := [.inl k1, .inl k2]) gh upd_same (by show 0 < sizeLine; decide), ?_⟩
  have ep : putK ([] : List (List Key × V)) [.inl k1, .inl k2] v = [([.inl k1, .inl k2], v)] := rfl
  rw [ep]
  have iv := i1.mono s2.le
  refine ti.nx F2 _ _ _ n2 ⟨⟨S3.st.le, fun b o nb r => ?_, fun b o r => ?_, S3.st.fr, fun b r => upd_there (S3.st.there b r)⟩, ?_, by simp [S3.len], fun j s' r => ?_, fun j k l m b hjk q1 q2 q3 q4 => ?_⟩ h2
  · have z : b ≠ a := fun z => by rw [z, g0] at r; cases r
    rw [upd_ne z]
    exact S3.st.ex b o nb r
  · have z : b ≠ a := fun z => by rw [z, gf] at r; cases r
    rw [upd_ne z]
    exact S3.st.sub b o r
  · exact S3.tin.upd gt
  · have hl : i < ρ.length := (List.getElem?_eq_some_iff.mp e1).1
    by_cases hj : i = j
    · subst hj
      rw [List.getElem?_set_self hl] at r
      cases r
      rw [e2]
      refine .inr ⟨_, rfl, a, _, rfl, g0, gf, gt, upd_same, rfl, fun i x d r1 r2 => ?_⟩
      cases i with
      | zero =>
        cases Option.some.inj r1
        cases Option.some.inj r2
        exact iv
      | succ i => simp at r1
    · rw [List.getElem?_set_ne hj] at r
      rcases S3.sl j s' r with w | ⟨w, r1, r2⟩
      · exact .inl w
      · refine .inr ⟨w, r1, ?_⟩
        cases s' with
        | no => trivial
        | d x => exact r2
        | own l1 =>
          obtain ⟨b, zs, rfl, b0, bf, bt, bh, bi⟩ := r2
          have z : b ≠ a := fun z => by rw [z, gh] at bh; cases bh
          exact ⟨b, zs, rfl, b0, bf, bt, by rw [upd_ne z]; exact bh, bi⟩
        | ownD l1 => exact absurd r (only j l1 (fun z => hj z.symm))
        | tin => exact r2
  · have ni : ∀ (j : Nat) (l1 : List D), (ρ.set i (Slot.ownD [([k1, k2], d)]))[j]? = some (.own l1) → ρ[j]? = some (.own l1) := fun j l1 q => by
      by_cases hj : i = j
      · subst hj
        have hl : i < ρ.length := by have := (List.getElem?_eq_some_iff.mp q).1; simpa using this
        rw [List.getElem?_set_self hl] at q
        cases q
      · rw [List.getElem?_set_ne hj] at q
        exact q
    exact S3.dis j k l m b hjk (ni j l q1) (ni k m q2) q3 q4
def dFrzD (i : Nat) (t : DS) : DS := fun G ρ n => ∃ l, ρ[i]? = some (.ownD l) ∧ (∀ j l, j ≠ i → ρ[j]? ≠ some (.ownD l)) ∧ t G (ρ.set i (.d (.dt l))) n
theorem ab_frzD (i : Nat) {sts : List Stmt} {t' : TS} {t : DS} (h : AB X sts t' t) : AB X sts t' (dFrzD i t) := ⟨h.pe, fun c F H σ ρ n G E S h0 ti => by
  obtain ⟨l, e, only, h0⟩ := h0
  obtain ⟨a, e2, a', kvs, ea, g0, gf, gt, gh, gk, gi⟩ := S.getOwnD e
  cases ea
  have le : Same F (upd F a (.dT kvs)) := same_upd gf
  refine h.rel c (upd F a (.dT kvs)) H σ _ n G E ⟨⟨S.st.le.trans le, S.st.ex, fun b o q => ?_, fun b q r => ?_, S.st.there⟩, S.tin.frl gt, by simp [S.len], fun j s' q => ?_, fun j k l' m b hjk q1 q2 q3 q4 => ?_⟩ h0 ti
  · by_cases z : b = a
    · subst z
      rw [upd_same] at q
      cases q
      exact gh
    · rw [upd_ne z] at q
      exact S.sub b o q
  · have z : b ≠ a := fun z => r (z ▸ g0)
    rw [upd_ne z]
    exact S.st.fr b q r
  · have hl : i < ρ.length := (List.getElem?_eq_some_iff.mp e).1
    by_cases hj : i = j
    · subst hj
      rw [List.getElem?_set_self hl] at q
      cases q
      rw [e2]
      exact .inr ⟨_, rfl, Is.dt upd_same gk fun k x d r1 r2 => (gi k x d r1 r2).mono le⟩
    · rw [List.getElem?_set_ne hj] at q
      rcases S.sl j s' q with r | ⟨w, r1, r2⟩
      · exact .inl r
      · refine .inr ⟨w, r1, ?_⟩
        cases s' with
        | no => trivial
        | d x => exact Is.mono le (show Is X.K F w x from r2)
        | own l' =>
          obtain ⟨b, ys, rfl, b0, bf, bt, bh, bi⟩ := r2
          have z : b ≠ a := fun z => by rw [z, gh] at bh; cases bh
          exact ⟨b, ys, rfl, b0, by rw [upd_ne z]; exact bf, bt, bh, bi.mono le⟩
        | ownD l1 => exact absurd q (only j l1 (fun z => hj z.symm))
        | tin => exact r2
  · have ni : ∀ (j : Nat) (l1 : List D), (ρ.set i (Slot.d (.dt l)))[j]? = some (.own l1) → ρ[j]? = some (.own l1) := fun j l1 q => by
      by_cases hj : i = j
      · subst hj
        have hl : i < ρ.length := by have := (List.getElem?_eq_some_iff.mp q).1; simpa using this
        rw [List.getElem?_set_self hl] at q
        cases q
      · rw [List.getElem?_set_ne hj] at q
        exact q
    exact S.dis j k l' m b hjk (ni j l' q1) (ni k m q2) q3 q4⟩
/-- f() -/
def dFn0 (R : RD) : DE := fun _ n k => R [] n k
theorem ae_call0 {k : Nat} {x : Str} {R : RD} {p : Pos} (C : Cal X.prog X.w X.K X.mg X.base k x [] R) (hr : Room k X.A) (hg : Gl X x := by rfl)
    (hdb : (x == ("__debug__" : Str)) = false := by decide) : AE X (.Call (.Name x p) [] [] pos) (tCall (spD X.K 0 R) [] E0 tNil) (dFn0 R) := by
  obtain ⟨f, fd, F, hk, hb, hm⟩ := C.ex
  refine ⟨pe_call0 F hr hg hm hk hb .nil pass0 hdb, fun c F H σ ρ n Q k S h q => ?_⟩
  exact ⟨c.t, F, [], n, k, S.sub, S.tin, ⟨rfl, fun i v s h _ => by simp at h⟩, rfl, h, fun v d F2 H2 n2 s2 t2 i2 h2 => q v d F2 H2 n2 s2 t2 i2 h2⟩
end
end DL

namespace DL
open PySem PySem.Spec PyProof.Rows L2 Gn
/-! ### a new source of draws, handed to a def -/
def spBox (K : PySem.W.Frag) : Sp := fun vs H Q _ => ∃ (F : Hp) (l : List Int) (j : Int), Same F H ∧ (∃ v w, vs = [v, w] ∧ Is K F v (.lst (l.map D.int)) ∧ Is K F w (.int j)) ∧ 0 ≤ j ∧ j < (l.length : Int) ∧ l.length ≤ 1000 ∧
  ∀ (a : Addr) (x y : Int) (F' H' : Hp), Step none F H F' H' → H a = none → F' a = none → H' a = some (.lst [.int x, .int y, .int 0]) → 0 ≤ y → y < 2 ^ 62 → Q (.ref a) H'
structure CalBox (P : Program) (w : World) (K : PySem.W.Frag) (mg : Str → Option Value) (base : Heap) (k : Nat) : Prop where
  ex : ∃ f fd, FnOk P w K mg base CX0 k f fd ["_law_script", "_law_k"] (spBox K) ∧ PySem.W.keepIn K (.ref f) = true ∧ Binds K fd ["_law_script", "_law_k"] [] ∧ mg "_law_box" = some (.ref f)
theorem CalBox.up {P : Program} {w : World} {K : PySem.W.Frag} {mg : Str → Option Value} {base : Heap} {j k : Nat} (C : CalBox P w K mg base j) (h : j ≤ k) : CalBox P w K mg base k := by
  obtain ⟨f, fd, F, r⟩ := C.ex
  exact ⟨f, fd, F.mono h, r⟩
theorem Step.over {t : Option Addr} {F H F' H' F3 H3 : Hp} {a : Addr} (s : Step t F H F' H') (h : H a = none) (s3 : Step (some a) F' H' F3 H3) : Step t F H F3 H3 :=
  ⟨s.le.trans s3.le, fun b o nb e => s3.ex b o (fun z => by
    cases z
    rw [h] at e
    cases e) (s.ex b o nb e), s3.sub, fun b e nb => s3.fr b (s.fr b e nb) (s.there b nb), fun b nb => s3.there b (s.there b nb)⟩
def dBox (R : RD) (t : DA) : DE := fun ρ n k => t ρ n fun ds n1 => ∃ (l : List Int) (j : Int), ds = [.lst (l.map D.int), .int j] ∧ 0 ≤ j ∧ j < (l.length : Int) ∧ l.length ≤ 1000 ∧ R [.tin] 0 fun d _ => k d n1
theorem ae_boxcall {X : Cx} {c e : Expr} {pos p p5 p6 : Pos} {k : Nat} {x : Str} {R : RD} {t' : TA} {t : DA} (C : Cal X.prog X.w X.K X.mg X.base k x ["_law_tin"] R) (B : CalBox X.prog X.w X.K X.mg X.base k) (hr : Room k X.A) (ha : AD X [c, e] t' t) (hg : Gl X x := by rfl) (hg2 : Gl X "_law_box" := by rfl)
    (hdb : (x == ("__debug__" : Str)) = false := by decide) (he : starEach [c, e] X.env = (false, eval c X.env) :: starEach [e] X.env := by rfl) (hpl : (backTo p6 (starEach [e] X.env)).any (·.1) = false := by rfl)
    (he2 : starEach [.Call (.Name "_law_box" p5) [c, e] [] p6] X.env = (false, eval (.Call (.Name "_law_box" p5) [c, e] [] p6) X.env) :: starEach [] X.env := by rfl) (hpl2 : (backTo pos (starEach [] X.env)).any (·.1) = false := by rfl) :
    AE X (.Call (.Name x p) [.Call (.Name "_law_box" p5) [c, e] [] p6] [] pos) (tCall (spD X.K 1 R) [] E0 (tCons (tCall (spBox X.K) [] E0 t') tNil)) (dBox R t) := by
  obtain ⟨f, fd, Fk, hk, hb, hm⟩ := C.ex
  obtain ⟨f2, fd2, Fk2, hk2, hb2, hm2⟩ := B.ex
  refine ⟨pe_call Fk hr hg hm hk hb .nil pass0 (pa_cons (pe_call Fk2 hr hg2 hm2 hk2 hb2 .nil pass0 ha.pe (by decide) he hpl) pa_nil he2) hdb he2 hpl2, fun c F H σ ρ n Q k S h q => ?_⟩
  refine ha.rel c F H σ ρ n _ _ S h fun vs ds F1 H1 n1 s1 t1 is l2 h1 => ?_
  obtain ⟨l, j, rfl, b1, b2, b3, hR⟩ := h1
  obtain ⟨v, w, rfl, i1, i2⟩ := is.two
  refine ⟨F1, l, j, s1.sub, ⟨v, w, rfl, i1, i2⟩, b1, b2, b3, fun a x y F2 H2 s2 g1 g2 g3 y0 y1 => ?_⟩
  refine ⟨some a, F2, [.tin], 0, fun d _ => k d n1, s2.sub, ⟨g2, x, y, 0, g3, y0, y1, by decide, by decide⟩, ⟨rfl, fun i u s e1 e2 => ?_⟩, rfl, hR, fun u d F3 H3 n3 s3 t3 i3 h3 => ?_⟩
  · cases i with
    | zero =>
      cases Option.some.inj e1
      cases Option.some.inj e2
      exact ⟨a, rfl, rfl⟩
    | succ i => simp at e2
  · have hn : H a = none := s1.back g1
    refine q u d F3 H3 n1 ((s1.trans s2.weak).over hn s3) ?_ i3 h3
    have t2 := t1.step0 s2
    cases hc : c.t with
    | none => trivial
    | some b =>
      rw [hc] at t1 t2
      obtain ⟨m1, x1, y1, z1, m2, m3⟩ := t2
      obtain ⟨_, _, _, _, m4, _⟩ := t1
      have ne : some b ≠ some a := fun z => by
        cases z
        rw [g1] at m4
        cases m4
      exact ⟨s3.fr b m1 (by rw [m2]; exact fun z => nomatch z), x1, y1, z1, s3.ex b _ ne m2, m3⟩
/-- the def that makes it -/
theorem box_ok {w : World} {K : PySem.W.Frag} {mg : Str → Option Value} {base : Heap} (z : Fx K mg) (i jx : Nat) {N : List Str} {k : Nat} (hd : fnA[jx]? = some (dOf "_law_box" i)) (hf : faA[jx]? = some (.glo "_law_box")) (S : FnScope N ["_law_script", "_law_k"] (defScope (topS i)))
    (hb : ∀ (dV kV doc pm : Value) (an : Option Addr) (cdv ct : Value) (us : List Value), us.length = 2 → bindArgs (PySem.W.fnOf "_law_box" "_law_box" (defArgs (topS i)) (defBody (topS i)) (defScope (topS i)) .none kV doc pm an cdv ct) ⟨us, []⟩ = pure ((["_law_script", "_law_k"] : List Str).zip us)) {t : DS} {tl : DLs}
    (ht : ∀ (l : List Int) (j : Int) (G : DEnds), 0 ≤ j → j < (l.length : Int) → l.length ≤ 1000 → (G.nx = fun ρ n => tl ρ n fun l' _ => ∃ x y : Int, l' = [.int x, .int y, .int 0] ∧ 0 ≤ y ∧ y < 2 ^ 62) → t G ([.d (.lst (l.map D.int)), .d (.int j)] ++ List.replicate (N.length - 2) .no) 0)
    (hbody : ∀ (f : Addr) (cdv : Value) (A : Around) (outer : List Env) (s : Shared) (H : Hp) (E : XK), Room k (A.deeper (envOfC "_law_box" (defScope (topS i)) s.heap.objs.size f cdv)) →
      ∃ ts te', PSs (cxOf CX0 PR w K mg base N "_law_box" (defScope (topS i)) f cdv A outer s H E).nox (defBody (topS i)) (tSeq ts (tRet te')) ∧ RelSt K ts t ∧ RelL K te' tl) : CalBox PR w K mg base (k + 1) := by
  obtain ⟨fd, F⟩ := z.d.def_ jx hd
  refine ⟨_, fd, FunD.ok F S (fun vs H Q E h => ?_) (fun cdv A outer s H vs Q E hr h => ?_), F.kp, F.bindsN (hb .none), z.glo jx hf⟩
  · obtain ⟨F, l, j, _, ⟨v, w, rfl, _⟩, _⟩ := h
    rfl
  · obtain ⟨ts, te', hp, h1, h2⟩ := hbody _ cdv A outer s H E hr
    obtain ⟨F, l, j, e, ⟨v, w, rfl, i1, i2⟩, b1, b2, b3, hq⟩ := h
    refine ⟨_, hp.nox, ?_⟩
    have S0 : Sat K ⟨none, F, H⟩ F H (start N [v, w]) ([.d (.lst (l.map D.int)), .d (.int j)] ++ List.replicate (N.length - 2) .no) 0 := argsC_sat (m := N.length - 2) e trivial ⟨rfl, fun i u s e1 e2 => by
      match i with
      | 0 => cases Option.some.inj e1; cases Option.some.inj e2; exact i1
      | 1 => cases Option.some.inj e1; cases Option.some.inj e2; exact i2
      | i + 2 => simp at e1⟩
    refine h1 ⟨none, F, H⟩ F H _ _ 0 ⟨fun ρ n => tl ρ n fun l' _ => ∃ x y : Int, l' = [.int x, .int y, .int 0] ∧ 0 ≤ y ∧ y < 2 ^ 62, fun _ _ => False, fun _ _ => False, fun _ _ => False⟩ _ S0 (ht l j _ b1 b2 b3 rfl) ⟨fun F' H' σ ρ n S' h' => ?_, fun _ _ _ _ _ _ _ _ h => h.elim, fun _ _ _ _ _ _ h => h.elim, fun _ _ _ _ _ _ h => h.elim⟩
    refine h2 ⟨none, F, H⟩ F' H' σ ρ n _ _ S' h' fun a xs l' F2 H2 n2 s2 t2 g1 g2 g3 is hk => ?_
    obtain ⟨x, y, rfl, y0, y1⟩ := hk
    obtain ⟨u1, u2, u3, rfl, k1, k2, k3⟩ := is.three
    cases k1
    cases k2
    cases k3
    exact hq a x y F2 H2 (S'.st.trans s2) (S'.st.back g1) g2 g3 y0 y1
end DL

namespace DL
open PySem PySem.Spec PyProof.Rows L2 Gn

/-! ### is_number: 0 thing -/
theorem sc_is_number : FnScope ["thing"] ["thing"] (defScope (topS 7)) := ⟨rfl, rfl, rfl, by decide +kernel, rfl, by decide +kernel, by decide +kernel⟩
def t_is_number : DS := (dRet (dAndV (dIsi "int" (dVar 0)) (dNotV (dIsi "bool" (dVar 0)))))
theorem a_is_number {w : World} {K : PySem.W.Frag} {mg : Str → Option Value} {base : Heap} (z : Fx K mg) {k : Nat} (f : Addr) (cdv : Value) (A : Around) (outer : List Env) (s : Shared) (H : Hp) (E : XK) (hr : Room k (A.deeper (envOfC "is_number" (defScope (topS 7)) s.heap.objs.size f cdv))) :
    ∃ ts, AB (cxOf CX0 PR w K mg base ["thing"] "is_number" (defScope (topS 7)) f cdv A outer s H E).nox (defBody (topS 7)) ts (t_is_number) := by
  exact ⟨_, (ab_one (as_ret (ae_and (ae_isi (T := "int") (ae_var 0) (by rfl) (by exact z.free 71) (by rfl) (by exact z.free 74) (by decide +kernel)) (ae_one (ae_not (ae_isi (T := "bool") (ae_var 0) (by rfl) (by exact z.free 71) (by rfl) (by exact z.free 75) (by decide +kernel)))))))⟩
/-! ### tuple_of: 0 thing, 1 part -/
theorem sc_tuple_of : FnScope ["thing", "part"] ["thing"] (defScope (topS 8)) := ⟨rfl, rfl, rfl, by decide +kernel, rfl, by decide +kernel, by decide +kernel⟩
def g_tuple_of_1 (R_tuple_of : RD) : DG := (dgName 1)
def e_tuple_of_1 (R_tuple_of : RD) : DE := (dFn R_tuple_of (sCons (dVar 1) sNil))
def t_tuple_of (R_tuple_of : RD) : DS := (dSeq (dIfS (dTest (dIsi2 "list" "tuple" (dVar 0))) (dRet (dCall pTupleZ (dCons (dOfL (dLc (iSeqD (dVar 0)) (g_tuple_of_1 R_tuple_of) dYes (e_tuple_of_1 R_tuple_of) [1])) dNil))) dNext) (dRet (dVar 0)))
theorem a_tuple_of {w : World} {K : PySem.W.Frag} {mg : Str → Option Value} {base : Heap} (z : Fx K mg) {k : Nat} {R_tuple_of : RD} (C_tuple_of : CA w K mg base k "tuple_of" ["thing"] R_tuple_of) (f : Addr) (cdv : Value) (A : Around) (outer : List Env) (s : Shared) (H : Hp) (E : XK) (hr : Room k (A.deeper (envOfC "tuple_of" (defScope (topS 8)) s.heap.objs.size f cdv))) :
    ∃ ts, AB (cxOf CX0 PR w K mg base ["thing", "part"] "tuple_of" (defScope (topS 8)) f cdv A outer s H E).nox (defBody (topS 8)) ts (t_tuple_of R_tuple_of) := by
  exact ⟨_, (ab_cons (as_if (at_val (ae_isi2 (T := "list") (T2 := "tuple") (ae_var 0) (by rfl) (by exact z.free 71) (by rfl) (by exact z.free 72) (by decide +kernel) (by rfl) (by exact z.free 73) (by decide +kernel))) (ab_one (as_ret (ae_callTy cd_tupleZ (by rfl) (by exact z.free 73) (by decide +kernel) (ad_cons (AL.ae (al_lcE (by rfl) (by exact sc_tuple_of.nd) (own := [("part", 1)]) (blkOk_by (by kernel_rfl)) rfl (ai_seq (ae_var 0)) (fun _ _ _ _ _ => ⟨_, (ag_name 1 (by exact sc_tuple_of.nd))⟩) (fun _ _ _ _ _ => ⟨_, ats_nil⟩) (fun _ _ _ _ _ => ⟨_, (ae_call C_tuple_of hr (aa_cons (ae_var 1) aa_nil))⟩))) ad_nil)))) ab_nil) (ab_one (as_ret (ae_var 0))))⟩
/-! ### is_tuple_of: 0 thing, 1 many -/
theorem sc_is_tuple_of : FnScope ["thing", "many"] ["thing", "many"] (defScope (topS 9)) := ⟨rfl, rfl, rfl, by decide +kernel, rfl, by decide +kernel, by decide +kernel⟩
def t_is_tuple_of : DS := (dRet (dAndV (dIsi "tuple" (dVar 0)) (dOp pEq (dCall pLen (dCons (dVar 0) dNil)) (dVar 1))))
theorem a_is_tuple_of {w : World} {K : PySem.W.Frag} {mg : Str → Option Value} {base : Heap} (z : Fx K mg) {k : Nat} (f : Addr) (cdv : Value) (A : Around) (outer : List Env) (s : Shared) (H : Hp) (E : XK) (hr : Room k (A.deeper (envOfC "is_tuple_of" (defScope (topS 9)) s.heap.objs.size f cdv))) :
    ∃ ts, AB (cxOf CX0 PR w K mg base ["thing", "many"] "is_tuple_of" (defScope (topS 9)) f cdv A outer s H E).nox (defBody (topS 9)) ts (t_is_tuple_of) := by
  exact ⟨_, (ab_one (as_ret (ae_and (ae_isi (T := "tuple") (ae_var 0) (by rfl) (by exact z.free 71) (by rfl) (by exact z.free 73) (by decide +kernel)) (ae_one (ae_cmp od_eq (ae_callB cd_len (by rfl) (by exact z.free 77) (by decide +kernel) (ad_cons (ae_var 0) ad_nil)) (ae_var 1) (nomark _))))))⟩
/-! ### fraction: 0 top, 1 below, 2 most -/
theorem sc_fraction : FnScope ["top", "below", "most"] ["top", "below"] (defScope (topS 11)) := ⟨rfl, rfl, rfl, by decide +kernel, rfl, by decide +kernel, by decide +kernel⟩
def t_fraction : DS := (dSeq (dIfS (dTest (dOp pEq (dVar 1) (dC (.int 0)))) dNever dNext) (dSeq (dSet 2 (dIf (dTest (dOp pGt (dVar 1) (dC (.int 0)))) (dCall pGcd (dCons (dVar 0) (dCons (dVar 1) dNil))) (dUn pNeg (dCall pGcd (dCons (dVar 0) (dCons (dVar 1) dNil)))))) (dRet (dTup (dCons (dOp pFdiv (dVar 0) (dVar 2)) (dCons (dOp pFdiv (dVar 1) (dVar 2)) dNil))))))
theorem a_fraction {w : World} {K : PySem.W.Frag} {mg : Str → Option Value} {base : Heap} (z : Fx K mg) {k : Nat} (f : Addr) (cdv : Value) (A : Around) (outer : List Env) (s : Shared) (H : Hp) (E : XK) (hr : Room k (A.deeper (envOfC "fraction" (defScope (topS 11)) s.heap.objs.size f cdv))) :
    ∃ ts, AB (cxOf CX0 PR w K mg base ["top", "below", "most"] "fraction" (defScope (topS 11)) f cdv A outer s H E).nox (defBody (topS 11)) ts (t_fraction) := by
  exact ⟨_, (ab_cons (as_if (at_cmp od_eq (ae_var 1) ae_int (nomark _)) (ab_one as_never) ab_nil) (ab_cons (as_set 2 (by exact sc_fraction.nd) (ae_if (at_cmp od_gt (ae_var 1) ae_int (nomark _)) (ae_callFun cd_gcd (by rfl) (by exact z.gcd) (ad_cons (ae_var 0) (ad_cons (ae_var 1) ad_nil))) (ae_neg (ae_callFun cd_gcd (by rfl) (by exact z.gcd) (ad_cons (ae_var 0) (ad_cons (ae_var 1) ad_nil)))))) (ab_one (as_ret (ae_tup (ad_cons (ae_op od_fdiv (ae_var 0) (ae_var 2)) (ad_cons (ae_op od_fdiv (ae_var 1) (ae_var 2)) ad_nil)))))))⟩
/-! ### plus: 0 one, 1 other -/
theorem sc_plus : FnScope ["one", "other"] ["one", "other"] (defScope (topS 12)) := ⟨rfl, rfl, rfl, by decide +kernel, rfl, by decide +kernel, by decide +kernel⟩
def t_plus (R_fraction : RD) : DS := (dRet (dFn R_fraction (sCons (dOp pAdd (dOp pMul (dOp pIx (dVar 0) (dC (.int 0))) (dOp pIx (dVar 1) (dC (.int 1)))) (dOp pMul (dOp pIx (dVar 1) (dC (.int 0))) (dOp pIx (dVar 0) (dC (.int 1))))) (sCons (dOp pMul (dOp pIx (dVar 0) (dC (.int 1))) (dOp pIx (dVar 1) (dC (.int 1)))) sNil))))
theorem a_plus {w : World} {K : PySem.W.Frag} {mg : Str → Option Value} {base : Heap} (z : Fx K mg) {k : Nat} {R_fraction : RD} (C_fraction : CA w K mg base k "fraction" ["top", "below"] R_fraction) (f : Addr) (cdv : Value) (A : Around) (outer : List Env) (s : Shared) (H : Hp) (E : XK) (hr : Room k (A.deeper (envOfC "plus" (defScope (topS 12)) s.heap.objs.size f cdv))) :
    ∃ ts, AB (cxOf CX0 PR w K mg base ["one", "other"] "plus" (defScope (topS 12)) f cdv A outer s H E).nox (defBody (topS 12)) ts (t_plus R_fraction) := by
  exact ⟨_, (ab_one (as_ret (ae_call C_fraction hr (aa_cons (ae_op od_add (ae_op od_mul (ae_ix (ae_var 0) ae_int) (ae_ix (ae_var 1) ae_int)) (ae_op od_mul (ae_ix (ae_var 1) ae_int) (ae_ix (ae_var 0) ae_int))) (aa_cons (ae_op od_mul (ae_ix (ae_var 0) ae_int) (ae_ix (ae_var 1) ae_int)) aa_nil)))))⟩
/-! ### minus: 0 one, 1 other -/
theorem sc_minus : FnScope ["one", "other"] ["one", "other"] (defScope (topS 13)) := ⟨rfl, rfl, rfl, by decide +kernel, rfl, by decide +kernel, by decide +kernel⟩
def t_minus (R_fraction : RD) : DS := (dRet (dFn R_fraction (sCons (dOp pSub (dOp pMul (dOp pIx (dVar 0) (dC (.int 0))) (dOp pIx (dVar 1) (dC (.int 1)))) (dOp pMul (dOp pIx (dVar 1) (dC (.int 0))) (dOp pIx (dVar 0) (dC (.int 1))))) (sCons (dOp pMul (dOp pIx (dVar 0) (dC (.int 1))) (dOp pIx (dVar 1) (dC (.int 1)))) sNil))))
theorem a_minus {w : World} {K : PySem.W.Frag} {mg : Str → Option Value} {base : Heap} (z : Fx K mg) {k : Nat} {R_fraction : RD} (C_fraction : CA w K mg base k "fraction" ["top", "below"] R_fraction) (f : Addr) (cdv : Value) (A : Around) (outer : List Env) (s : Shared) (H : Hp) (E : XK) (hr : Room k (A.deeper (envOfC "minus" (defScope (topS 13)) s.heap.objs.size f cdv))) :
    ∃ ts, AB (cxOf CX0 PR w K mg base ["one", "other"] "minus" (defScope (topS 13)) f cdv A outer s H E).nox (defBody (topS 13)) ts (t_minus R_fraction) := by
  exact ⟨_, (ab_one (as_ret (ae_call C_fraction hr (aa_cons (ae_op od_sub (ae_op od_mul (ae_ix (ae_var 0) ae_int) (ae_ix (ae_var 1) ae_int)) (ae_op od_mul (ae_ix (ae_var 1) ae_int) (ae_ix (ae_var 0) ae_int))) (aa_cons (ae_op od_mul (ae_ix (ae_var 0) ae_int) (ae_ix (ae_var 1) ae_int)) aa_nil)))))⟩
/-! ### is_less: 0 one, 1 other -/
theorem sc_is_less : FnScope ["one", "other"] ["one", "other"] (defScope (topS 14)) := ⟨rfl, rfl, rfl, by decide +kernel, rfl, by decide +kernel, by decide +kernel⟩
def t_is_less : DS := (dRet (dOp pLt (dOp pMul (dOp pIx (dVar 0) (dC (.int 0))) (dOp pIx (dVar 1) (dC (.int 1)))) (dOp pMul (dOp pIx (dVar 1) (dC (.int 0))) (dOp pIx (dVar 0) (dC (.int 1))))))
theorem a_is_less {w : World} {K : PySem.W.Frag} {mg : Str → Option Value} {base : Heap} (z : Fx K mg) {k : Nat} (f : Addr) (cdv : Value) (A : Around) (outer : List Env) (s : Shared) (H : Hp) (E : XK) (hr : Room k (A.deeper (envOfC "is_less" (defScope (topS 14)) s.heap.objs.size f cdv))) :
    ∃ ts, AB (cxOf CX0 PR w K mg base ["one", "other"] "is_less" (defScope (topS 14)) f cdv A outer s H E).nox (defBody (topS 14)) ts (t_is_less) := by
  exact ⟨_, (ab_one (as_ret (ae_cmp od_lt (ae_op od_mul (ae_ix (ae_var 0) ae_int) (ae_ix (ae_var 1) ae_int)) (ae_op od_mul (ae_ix (ae_var 1) ae_int) (ae_ix (ae_var 0) ae_int)) (nomark _))))⟩
/-! ### on: 0 tether, 1 scale, 2 a, 3 c, 4 b, 5 d, 6 top, 7 below -/
theorem sc_on : FnScope ["tether", "scale", "a", "c", "b", "d", "top", "below"] ["tether", "scale"] (defScope (topS 15)) := ⟨rfl, rfl, rfl, by decide +kernel, rfl, by decide +kernel, by decide +kernel⟩
def t_on (R_fraction : RD) : DS := (dSeq (dAsg (dVar 0) (dgTup 4 (dgCons (dgName 2) (dgCons (dgName 3) (dgCons (dgName 4) (dgCons (dgName 5) dgNil)))))) (dSeq (dAsg (dVar 1) (dgTup 2 (dgCons (dgName 6) (dgCons (dgName 7) dgNil)))) (dRet (dTup (dCons (dFn R_fraction (sCons (dOp pSub (dOp pMul (dVar 6) (dVar 2)) (dOp pMul (dVar 3) (dVar 7))) (sCons (dVar 7) sNil))) (dCons (dFn R_fraction (sCons (dOp pAdd (dOp pMul (dVar 6) (dVar 4)) (dOp pMul (dVar 5) (dVar 7))) (sCons (dVar 7) sNil))) dNil))))))
theorem a_on {w : World} {K : PySem.W.Frag} {mg : Str → Option Value} {base : Heap} (z : Fx K mg) {k : Nat} {R_fraction : RD} (C_fraction : CA w K mg base k "fraction" ["top", "below"] R_fraction) (f : Addr) (cdv : Value) (A : Around) (outer : List Env) (s : Shared) (H : Hp) (E : XK) (hr : Room k (A.deeper (envOfC "on" (defScope (topS 15)) s.heap.objs.size f cdv))) :
    ∃ ts, AB (cxOf CX0 PR w K mg base ["tether", "scale", "a", "c", "b", "d", "top", "below"] "on" (defScope (topS 15)) f cdv A outer s H E).nox (defBody (topS 15)) ts (t_on R_fraction) := by
  exact ⟨_, (ab_cons (as_asg (ae_var 0) (ag_tup (by rfl) (ags_cons (ag_name 2 (by exact sc_on.nd)) (ags_cons (ag_name 3 (by exact sc_on.nd)) (ags_cons (ag_name 4 (by exact sc_on.nd)) (ags_cons (ag_name 5 (by exact sc_on.nd)) ags_nil)))))) (ab_cons (as_asg (ae_var 1) (ag_tup (by rfl) (ags_cons (ag_name 6 (by exact sc_on.nd)) (ags_cons (ag_name 7 (by exact sc_on.nd)) ags_nil)))) (ab_one (as_ret (ae_tup (ad_cons (ae_call C_fraction hr (aa_cons (ae_op od_sub (ae_op od_mul (ae_var 6) (ae_var 2)) (ae_op od_mul (ae_var 3) (ae_var 7))) (aa_cons (ae_var 7) aa_nil))) (ad_cons (ae_call C_fraction hr (aa_cons (ae_op od_add (ae_op od_mul (ae_var 6) (ae_var 4)) (ae_op od_mul (ae_var 5) (ae_var 7))) (aa_cons (ae_var 7) aa_nil))) ad_nil)))))))⟩
/-! ### reach: 0 one, 1 other -/
theorem sc_reach : FnScope ["one", "other"] ["one", "other"] (defScope (topS 17)) := ⟨rfl, rfl, rfl, by decide +kernel, rfl, by decide +kernel, by decide +kernel⟩
def t_reach : DS := (dRet (dOp pAdd (dCall pAbs (dCons (dOp pSub (dOp pIx (dVar 0) (dC (.int 0))) (dOp pIx (dVar 1) (dC (.int 0)))) dNil)) (dCall pAbs (dCons (dOp pSub (dOp pIx (dVar 0) (dC (.int 1))) (dOp pIx (dVar 1) (dC (.int 1)))) dNil))))
theorem a_reach {w : World} {K : PySem.W.Frag} {mg : Str → Option Value} {base : Heap} (z : Fx K mg) {k : Nat} (f : Addr) (cdv : Value) (A : Around) (outer : List Env) (s : Shared) (H : Hp) (E : XK) (hr : Room k (A.deeper (envOfC "reach" (defScope (topS 17)) s.heap.objs.size f cdv))) :
    ∃ ts, AB (cxOf CX0 PR w K mg base ["one", "other"] "reach" (defScope (topS 17)) f cdv A outer s H E).nox (defBody (topS 17)) ts (t_reach) := by
  exact ⟨_, (ab_one (as_ret (ae_op od_add (ae_callB cd_abs (by rfl) (by exact z.free 78) (by decide +kernel) (ad_cons (ae_op od_sub (ae_ix (ae_var 0) ae_int) (ae_ix (ae_var 1) ae_int)) ad_nil)) (ae_callB cd_abs (by rfl) (by exact z.free 78) (by decide +kernel) (ad_cons (ae_op od_sub (ae_ix (ae_var 0) ae_int) (ae_ix (ae_var 1) ae_int)) ad_nil)))))⟩
/-! ### stepped: 0 near, 1 goal, 2 many, 3 own, 4 its -/
theorem sc_stepped : FnScope ["near", "goal", "many", "own", "its"] ["near", "goal", "many"] (defScope (topS 18)) := ⟨rfl, rfl, rfl, by decide +kernel, rfl, by decide +kernel, by decide +kernel⟩
def g_stepped_1 : DG := (dgTup 2 (dgCons (dgName 3) (dgCons (dgName 4) dgNil)))
def e_stepped_1 : DE := (dIf (dTest (dOp pEq (dVar 3) (dVar 4))) (dVar 3) (dIf (dTest (dOp pLt (dVar 3) (dVar 4))) (dOp pAdd (dVar 3) (dVar 2)) (dOp pSub (dVar 3) (dVar 2))))
def t_stepped : DS := (dRet (dCall pTuple (dCons (dOfL (dLc (iZipD (dCons (dVar 0) (dCons (dVar 1) dNil))) (g_stepped_1) dYes (e_stepped_1) [3, 4])) dNil)))
theorem a_stepped {w : World} {K : PySem.W.Frag} {mg : Str → Option Value} {base : Heap} (z : Fx K mg) {k : Nat} (f : Addr) (cdv : Value) (A : Around) (outer : List Env) (s : Shared) (H : Hp) (E : XK) (hr : Room k (A.deeper (envOfC "stepped" (defScope (topS 18)) s.heap.objs.size f cdv))) :
    ∃ ts, AB (cxOf CX0 PR w K mg base ["near", "goal", "many", "own", "its"] "stepped" (defScope (topS 18)) f cdv A outer s H E).nox (defBody (topS 18)) ts (t_stepped) := by
  exact ⟨_, (ab_one (as_ret (ae_callTy cd_tuple (by rfl) (by exact z.free 73) (by decide +kernel) (ad_cons (AL.ae (al_lcE (by rfl) (by exact sc_stepped.nd) (own := [("own", 3), ("its", 4)]) (blkOk_by (by kernel_rfl)) rfl (ai_zip (by rfl) (by exact z.free 84) (ad_cons (ae_var 0) (ad_cons (ae_var 1) ad_nil))) (fun _ _ _ _ _ => ⟨_, (ag_tup (by rfl) (ags_cons (ag_name 3 (by exact sc_stepped.nd)) (ags_cons (ag_name 4 (by exact sc_stepped.nd)) ags_nil)))⟩) (fun _ _ _ _ _ => ⟨_, ats_nil⟩) (fun _ _ _ _ _ => ⟨_, (ae_if (at_cmp od_eq (ae_var 3) (ae_var 4) (nomark _)) (ae_var 3) (ae_if (at_cmp od_lt (ae_var 3) (ae_var 4) (nomark _)) (ae_op od_add (ae_var 3) (ae_var 2)) (ae_op od_sub (ae_var 3) (ae_var 2))))⟩))) ad_nil))))⟩
/-! ### spot_in: 0 way, 1 far, 2 left, 3 near, 4 goal -/
theorem sc_spot_in : FnScope ["way", "far", "left", "near", "goal"] ["way", "far"] (defScope (topS 19)) := ⟨rfl, rfl, rfl, by decide +kernel, rfl, by decide +kernel, by decide +kernel⟩
def g_spot_in_L1 (R_reach R_stepped : RD) : DG := (dgTup 2 (dgCons (dgName 3) (dgCons (dgName 4) dgNil)))
def t_spot_in_L1 (R_reach R_stepped : RD) : DS := (dSeq (dIfS (dTest (dOp pLe (dVar 2) (dFn R_reach (sCons (dVar 3) (sCons (dVar 4) sNil))))) (dRet (dFn R_stepped (sCons (dVar 3) (sCons (dVar 4) (sCons (dVar 2) sNil))))) dNext) (dSet 2 (dOp pSub (dVar 2) (dFn R_reach (sCons (dVar 3) (sCons (dVar 4) sNil))))))
def t_spot_in (R_reach R_stepped : RD) : DS := (dSeq (dSet 2 (dVar 1)) (dSeq (dFor (iZipD (dCons (dVar 0) (dCons (dSl (dVar 0) (dPart (dC (.int 1))) dNoPart) dNil))) (g_spot_in_L1 R_reach R_stepped) (t_spot_in_L1 R_reach R_stepped)) (dRet (dOp pIx (dVar 0) (dUn pNeg (dC (.int 1)))))))
theorem a_spot_in {w : World} {K : PySem.W.Frag} {mg : Str → Option Value} {base : Heap} (z : Fx K mg) {k : Nat} {R_reach R_stepped : RD} (C_reach : CA w K mg base k "reach" ["one", "other"] R_reach) (C_stepped : CA w K mg base k "stepped" ["near", "goal", "many"] R_stepped) (f : Addr) (cdv : Value) (A : Around) (outer : List Env) (s : Shared) (H : Hp) (E : XK) (hr : Room k (A.deeper (envOfC "spot_in" (defScope (topS 19)) s.heap.objs.size f cdv))) :
    ∃ ts, AB (cxOf CX0 PR w K mg base ["way", "far", "left", "near", "goal"] "spot_in" (defScope (topS 19)) f cdv A outer s H E).nox (defBody (topS 19)) ts (t_spot_in R_reach R_stepped) := by
  exact ⟨_, (ab_cons (as_set 2 (by exact sc_spot_in.nd) (ae_var 1)) (ab_cons (as_for (by rfl) (by rfl) (ai_zip (by rfl) (by exact z.free 84) (ad_cons (ae_var 0) (ad_cons (ae_slice (ae_var 0) (ao_some ae_int) ao_none) ad_nil))) (ag_tup (by rfl) (ags_cons (ag_name 3 (by exact sc_spot_in.nd)) (ags_cons (ag_name 4 (by exact sc_spot_in.nd)) ags_nil))) (ab_cons (as_if (at_cmp od_le (ae_var 2) (ae_call C_reach hr (aa_cons (ae_var 3) (aa_cons (ae_var 4) aa_nil))) (nomark _)) (ab_one (as_ret (ae_call C_stepped hr (aa_cons (ae_var 3) (aa_cons (ae_var 4) (aa_cons (ae_var 2) aa_nil)))))) ab_nil) (ab_one (as_set 2 (by exact sc_spot_in.nd) (ae_op od_sub (ae_var 2) (ae_call C_reach hr (aa_cons (ae_var 3) (aa_cons (ae_var 4) aa_nil)))))))) (ab_one (as_ret (ae_ix (ae_var 0) (ae_neg ae_int))))))⟩
end DL

namespace DL
open PySem PySem.Spec PyProof.Rows L2 Gn

/-! ### piece_in: 0 way, 1 first, 2 last, 3 found, 4 here, 5 near, 6 goal -/
theorem sc_piece_in : FnScope ["way", "first", "last", "found", "here", "near", "goal"] ["way", "first", "last"] (defScope (topS 20)) := ⟨rfl, rfl, rfl, by decide +kernel, rfl, by decide +kernel, by decide +kernel⟩
def g_piece_in_L1 (R_spot_in R_reach : RD) : DG := (dgTup 2 (dgCons (dgName 5) (dgCons (dgName 6) dgNil)))
def t_piece_in_L1 (R_spot_in R_reach : RD) : DS := (dSeq (dSet 4 (dOp pAdd (dVar 4) (dFn R_reach (sCons (dVar 5) (sCons (dVar 6) sNil))))) (dIfS (dTest (dChain pLt pLt (dVar 1) (dVar 4) (dVar 2))) (dApp 3 (dVar 6)) dNext))
def t_piece_in (R_spot_in R_reach : RD) : DS := (dSeq (dPar [3, 4] (kConsL (dCons (dFn R_spot_in (sCons (dVar 0) (sCons (dVar 1) sNil))) dNil) (kCons (dC (.int 0)) sNil))) (dSeq (dFor (iZipD (dCons (dVar 0) (dCons (dSl (dVar 0) (dPart (dC (.int 1))) dNoPart) dNil))) (g_piece_in_L1 R_spot_in R_reach) (t_piece_in_L1 R_spot_in R_reach)) (dSeq (dIfS (dTest (dOp pGt (dVar 2) (dVar 1))) (dApp 3 (dFn R_spot_in (sCons (dVar 0) (sCons (dVar 2) sNil)))) dNext) (dFrz 3 (dRet (dCall pTuple (dCons (dVar 3) dNil)))))))
theorem a_piece_in {w : World} {K : PySem.W.Frag} {mg : Str → Option Value} {base : Heap} (z : Fx K mg) {k : Nat} {R_spot_in R_reach : RD} (C_spot_in : CA w K mg base k "spot_in" ["way", "far"] R_spot_in) (C_reach : CA w K mg base k "reach" ["one", "other"] R_reach) (f : Addr) (cdv : Value) (A : Around) (outer : List Env) (s : Shared) (H : Hp) (E : XK) (hr : Room k (A.deeper (envOfC "piece_in" (defScope (topS 20)) s.heap.objs.size f cdv))) :
    ∃ ts, AB (cxOf CX0 PR w K mg base ["way", "first", "last", "found", "here", "near", "goal"] "piece_in" (defScope (topS 20)) f cdv A outer s H E).nox (defBody (topS 20)) ts (t_piece_in R_spot_in R_reach) := by
  exact ⟨_, (ab_cons (as_par 3 4 (by rfl) (by exact sc_piece_in.nd) (ak_l (al_lst (ad_cons (ae_call C_spot_in hr (aa_cons (ae_var 0) (aa_cons (ae_var 1) aa_nil))) ad_nil)) (ak_d ae_int ak_nil))) (ab_cons (as_for (by rfl) (by rfl) (ai_zip (by rfl) (by exact z.free 84) (ad_cons (ae_var 0) (ad_cons (ae_slice (ae_var 0) (ao_some ae_int) ao_none) ad_nil))) (ag_tup (by rfl) (ags_cons (ag_name 5 (by exact sc_piece_in.nd)) (ags_cons (ag_name 6 (by exact sc_piece_in.nd)) ags_nil))) (ab_cons (as_set 4 (by exact sc_piece_in.nd) (ae_op od_add (ae_var 4) (ae_call C_reach hr (aa_cons (ae_var 5) (aa_cons (ae_var 6) aa_nil))))) (ab_one (as_if (at_chain od_lt od_lt (ae_var 1) (ae_var 4) (ae_var 2)) (ab_one (as_app 3 (ae_var 6))) ab_nil)))) (ab_cons (as_if (at_cmp od_gt (ae_var 2) (ae_var 1) (nomark _)) (ab_one (as_app 3 (ae_call C_spot_in hr (aa_cons (ae_var 0) (aa_cons (ae_var 2) aa_nil))))) ab_nil) (ab_frz 3 (ab_one (as_ret (ae_callTy cd_tuple (by rfl) (by exact z.free 73) (by decide +kernel) (ad_cons (ae_var 3) ad_nil))))))))⟩
/-! ### frame_of: 0 spots, 1 across, 2 down, 3 own -/
theorem sc_frame_of : FnScope ["spots", "across", "down", "own"] ["spots"] (defScope (topS 21)) := ⟨rfl, rfl, rfl, by decide +kernel, rfl, by decide +kernel, by decide +kernel⟩
def g_frame_of_1 : DG := (dgName 3)
def e_frame_of_1 : DE := (dOp pIx (dVar 3) (dC (.int 0)))
def g_frame_of_2 : DG := (dgName 3)
def e_frame_of_2 : DE := (dOp pIx (dVar 3) (dC (.int 1)))
def t_frame_of : DS := (dSeq (dPar [1, 2] (kCons (dOfL (dLc (iSeqD (dVar 0)) (g_frame_of_1) dYes (e_frame_of_1) [3])) (kCons (dOfL (dLc (iSeqD (dVar 0)) (g_frame_of_2) dYes (e_frame_of_2) [3])) sNil))) (dRet (dTup (dCons (dCall pMin (dCons (dVar 1) dNil)) (dCons (dCall pMin (dCons (dVar 2) dNil)) (dCons (dCall pMax (dCons (dVar 1) dNil)) (dCons (dCall pMax (dCons (dVar 2) dNil)) dNil)))))))
theorem a_frame_of {w : World} {K : PySem.W.Frag} {mg : Str → Option Value} {base : Heap} (z : Fx K mg) {k : Nat} (f : Addr) (cdv : Value) (A : Around) (outer : List Env) (s : Shared) (H : Hp) (E : XK) (hr : Room k (A.deeper (envOfC "frame_of" (defScope (topS 21)) s.heap.objs.size f cdv))) :
    ∃ ts, AB (cxOf CX0 PR w K mg base ["spots", "across", "down", "own"] "frame_of" (defScope (topS 21)) f cdv A outer s H E).nox (defBody (topS 21)) ts (t_frame_of) := by
  exact ⟨_, (ab_cons (as_par 1 2 (by rfl) (by exact sc_frame_of.nd) (ak_d (AL.ae (al_lcE (by rfl) (by exact sc_frame_of.nd) (own := [("own", 3)]) (blkOk_by (by kernel_rfl)) rfl (ai_seq (ae_var 0)) (fun _ _ _ _ _ => ⟨_, (ag_name 3 (by exact sc_frame_of.nd))⟩) (fun _ _ _ _ _ => ⟨_, ats_nil⟩) (fun _ _ _ _ _ => ⟨_, (ae_ix (ae_var 3) ae_int)⟩))) (ak_d (AL.ae (al_lcE (by rfl) (by exact sc_frame_of.nd) (own := [("own", 3)]) (blkOk_by (by kernel_rfl)) rfl (ai_seq (ae_var 0)) (fun _ _ _ _ _ => ⟨_, (ag_name 3 (by exact sc_frame_of.nd))⟩) (fun _ _ _ _ _ => ⟨_, ats_nil⟩) (fun _ _ _ _ _ => ⟨_, (ae_ix (ae_var 3) ae_int)⟩))) ak_nil))) (ab_one (as_ret (ae_tup (ad_cons (ae_callB (cd_min (by rfl)) (by rfl) (by exact z.free 80) (by decide +kernel) (ad_cons (ae_var 1) ad_nil)) (ad_cons (ae_callB (cd_min (by rfl)) (by rfl) (by exact z.free 80) (by decide +kernel) (ad_cons (ae_var 2) ad_nil)) (ad_cons (ae_callB (cd_max (by rfl)) (by rfl) (by exact z.free 81) (by decide +kernel) (ad_cons (ae_var 1) ad_nil)) (ad_cons (ae_callB (cd_max (by rfl)) (by rfl) (by exact z.free 81) (by decide +kernel) (ad_cons (ae_var 2) ad_nil)) ad_nil))))))))⟩
/-! ### tie_in: 0 feature, 1 kind, 2 where -/
theorem sc_tie_in : FnScope ["feature", "kind", "where"] ["feature"] (defScope (topS 22)) := ⟨rfl, rfl, rfl, by decide +kernel, rfl, by decide +kernel, by decide +kernel⟩
def t_tie_in (R_frame_of R_piece_in : RD) : DS := (dSeq (dPar [1, 2] (kCons (dOp pIx (dVar 0) (dC (.int 2))) (kCons (dOp pIx (dVar 0) (dC (.int 3))) sNil))) (dSeq (dIfS (dTest (dOp pEq (dVar 1) (dC (.int 0)))) (dRet (dOp pCatT (dVar 2) (dVar 2))) dNext) (dRet (dIf (dTest (dOp pEq (dVar 1) (dC (.int 1)))) (dFn R_frame_of (sCons (dFn R_piece_in (sCons (dOp pIx (dVar 2) (dC (.int 0))) (sCons (dOp pIx (dVar 2) (dC (.int 1))) (sCons (dOp pIx (dVar 2) (dC (.int 2))) sNil)))) sNil)) (dVar 2)))))
theorem a_tie_in {w : World} {K : PySem.W.Frag} {mg : Str → Option Value} {base : Heap} (z : Fx K mg) {k : Nat} {R_frame_of R_piece_in : RD} (C_frame_of : CA w K mg base k "frame_of" ["spots"] R_frame_of) (C_piece_in : CA w K mg base k "piece_in" ["way", "first", "last"] R_piece_in) (f : Addr) (cdv : Value) (A : Around) (outer : List Env) (s : Shared) (H : Hp) (E : XK) (hr : Room k (A.deeper (envOfC "tie_in" (defScope (topS 22)) s.heap.objs.size f cdv))) :
    ∃ ts, AB (cxOf CX0 PR w K mg base ["feature", "kind", "where"] "tie_in" (defScope (topS 22)) f cdv A outer s H E).nox (defBody (topS 22)) ts (t_tie_in R_frame_of R_piece_in) := by
  exact ⟨_, (ab_cons (as_par 1 2 (by rfl) (by exact sc_tie_in.nd) (ak_d (ae_ix (ae_var 0) ae_int) (ak_d (ae_ix (ae_var 0) ae_int) ak_nil))) (ab_cons (as_if (at_cmp od_eq (ae_var 1) ae_int (nomark _)) (ab_one (as_ret (ae_op od_catT (ae_var 2) (ae_var 2)))) ab_nil) (ab_one (as_ret (ae_if (at_cmp od_eq (ae_var 1) ae_int (nomark _)) (ae_call C_frame_of hr (aa_cons (ae_call C_piece_in hr (aa_cons (ae_ix (ae_var 2) ae_int) (aa_cons (ae_ix (ae_var 2) ae_int) (aa_cons (ae_ix (ae_var 2) ae_int) aa_nil)))) aa_nil)) (ae_var 2))))))⟩
/-! ### width_in: 0 style, 1 line, 2 widths, 3 sign -/
theorem sc_width_in : FnScope ["style", "line", "widths", "sign"] ["style", "line"] (defScope (topS 24)) := ⟨rfl, rfl, rfl, by decide +kernel, rfl, by decide +kernel, by decide +kernel⟩
def g_width_in_1 : DG := (dgName 3)
def e_width_in_1 : DE := (dDGet2 (dVar 2) (dVar 3) (dOp pIx (dVar 0) (dC (.int 0))))
def t_width_in : DS := (dSeq (dSet 2 (dCall pDictT (dCons (dOp pIx (dVar 0) (dC (.int 1))) dNil))) (dRet (dOp pAdd (dCall pSum (dCons (dOfL (dLc (iStrD (dVar 1)) (g_width_in_1) dYes (e_width_in_1) [3])) dNil)) (dOp pMul (dOp pIx (dVar 0) (dC (.int 2))) (dCall pMax2 (dCons (dOp pSub (dCall pLenS (dCons (dVar 1) dNil)) (dC (.int 1))) (dCons (dC (.int 0)) dNil)))))))
theorem a_width_in {w : World} {K : PySem.W.Frag} {mg : Str → Option Value} {base : Heap} (z : Fx K mg) {k : Nat} (f : Addr) (cdv : Value) (A : Around) (outer : List Env) (s : Shared) (H : Hp) (E : XK) (hr : Room k (A.deeper (envOfC "width_in" (defScope (topS 24)) s.heap.objs.size f cdv))) :
    ∃ ts, AB (cxOf CX0 PR w K mg base ["style", "line", "widths", "sign"] "width_in" (defScope (topS 24)) f cdv A outer s H E).nox (defBody (topS 24)) ts (t_width_in) := by
  exact ⟨_, (ab_cons (as_set 2 (by exact sc_width_in.nd) (ae_callTy (cd_dictT (by rfl)) (by rfl) (by exact z.free 86) (by decide +kernel) (ad_cons (ae_ix (ae_var 0) ae_int) ad_nil))) (ab_one (as_ret (ae_op od_add (ae_callB (cd_sum (by rfl)) (by rfl) (by exact z.free 79) (by decide +kernel) (ad_cons (AL.ae (al_lcE (by rfl) (by exact sc_width_in.nd) (own := [("sign", 3)]) (blkOk_by (by kernel_rfl)) rfl (ai_str (ae_var 1)) (fun _ _ _ _ _ => ⟨_, (ag_name 3 (by exact sc_width_in.nd))⟩) (fun _ _ _ _ _ => ⟨_, ats_nil⟩) (fun _ _ _ _ _ => ⟨_, (ae_dget2 hr.units1 (ae_var 2) (ae_var 3) (ae_ix (ae_var 0) ae_int))⟩))) ad_nil)) (ae_op od_mul (ae_ix (ae_var 0) ae_int) (ae_callB (cd_max2 (by rfl)) (by rfl) (by exact z.free 81) (by decide +kernel) (ad_cons (ae_op od_sub (ae_callB cd_lenS (by rfl) (by exact z.free 77) (by decide +kernel) (ad_cons (ae_var 1) ad_nil)) ae_int) (ad_cons ae_int ad_nil))))))))⟩
/-! ### words_of: 0 text, 1 own -/
theorem sc_words_of : FnScope ["text", "own"] ["text"] (defScope (topS 25)) := ⟨rfl, rfl, rfl, by decide +kernel, rfl, by decide +kernel, by decide +kernel⟩
def g_words_of_1 : DG := (dgName 1)
def f_words_of_1 : DT := (dTest (dOp pNe (dVar 1) (dC (.str ""))))
def e_words_of_1 : DE := (dVar 1)
def t_words_of : DS := (dRet (dOfL (dLc (iSeqD (dSplit (dVar 0) (dC (.str " ")))) (g_words_of_1) (f_words_of_1) (e_words_of_1) [1])))
theorem a_words_of {w : World} {K : PySem.W.Frag} {mg : Str → Option Value} {base : Heap} (z : Fx K mg) {k : Nat} (f : Addr) (cdv : Value) (A : Around) (outer : List Env) (s : Shared) (H : Hp) (E : XK) (hr : Room k (A.deeper (envOfC "words_of" (defScope (topS 25)) s.heap.objs.size f cdv))) :
    ∃ ts, AB (cxOf CX0 PR w K mg base ["text", "own"] "words_of" (defScope (topS 25)) f cdv A outer s H E).nox (defBody (topS 25)) ts (t_words_of) := by
  exact ⟨_, (ab_one (as_ret (AL.ae (al_lcE (by rfl) (by exact sc_words_of.nd) (own := [("own", 1)]) (blkOk_by (by kernel_rfl)) rfl (ai_seq (ae_split (ae_var 0) ae_str)) (fun _ _ _ _ _ => ⟨_, (ag_name 1 (by exact sc_words_of.nd))⟩) (fun _ _ _ _ _ => ⟨_, (ats_one (at_cmp od_ne (ae_var 1) ae_str (nomark _)))⟩) (fun _ _ _ _ _ => ⟨_, (ae_var 1)⟩)))))⟩
/-! ### nexts: 0 wide, 1 ahead, 2 first, 3 most, 4 ends, 5 last -/
theorem sc_nexts : FnScope ["wide", "ahead", "first", "most", "ends", "last"] ["wide", "ahead", "first", "most"] (defScope (topS 27)) := ⟨rfl, rfl, rfl, by decide +kernel, rfl, by decide +kernel, by decide +kernel⟩
def g_nexts_1 : DG := (dgName 5)
def f_nexts_1 : DT := (dTest (dOp pNotN (dOp pIx (dVar 1) (dVar 5)) (dC .non)))
def e_nexts_1 : DE := (dVar 5)
def g_nexts_2 : DG := (dgName 5)
def f_nexts_2 : DT := (dOr (dTest (dOp pIsN (dVar 3) (dC .non))) (dOr (dTest (dOp pEq (dVar 5) (dOp pAdd (dVar 2) (dC (.int 1))))) (dTest (dOp pLe (dDGetT (dVar 0) (dCons (dVar 2) (dCons (dVar 5) dNil))) (dVar 3)))))
def e_nexts_2 : DE := (dVar 5)
def t_nexts : DS := (dSeq (dSetL 4 (dLc (iRng2D (dCons (dOp pAdd (dVar 2) (dC (.int 1))) (dCons (dCall pLen (dCons (dVar 1) dNil)) dNil))) (g_nexts_1) (f_nexts_1) (e_nexts_1) [5])) (dFrz 4 (dRet (dOfL (dLc (iSeqD (dVar 4)) (g_nexts_2) (f_nexts_2) (e_nexts_2) [5])))))
theorem a_nexts {w : World} {K : PySem.W.Frag} {mg : Str → Option Value} {base : Heap} (z : Fx K mg) {k : Nat} (f : Addr) (cdv : Value) (A : Around) (outer : List Env) (s : Shared) (H : Hp) (E : XK) (hr : Room k (A.deeper (envOfC "nexts" (defScope (topS 27)) s.heap.objs.size f cdv))) :
    ∃ ts, AB (cxOf CX0 PR w K mg base ["wide", "ahead", "first", "most", "ends", "last"] "nexts" (defScope (topS 27)) f cdv A outer s H E).nox (defBody (topS 27)) ts (t_nexts) := by
  exact ⟨_, (ab_cons (as_setLcE 4 (by rfl) (by exact sc_nexts.nd) (by rfl) (by rfl) (by rfl) (own := [("last", 5)]) (blkOk_by (by kernel_rfl)) rfl (ai_range2 (by rfl) (by exact z.free 83) (ad_cons (ae_op od_add (ae_var 2) ae_int) (ad_cons (ae_callB cd_len (by rfl) (by exact z.free 77) (by decide +kernel) (ad_cons (ae_var 1) ad_nil)) ad_nil))) (fun _ _ _ _ _ => ⟨_, (ag_name 5 (by exact sc_nexts.nd))⟩) (fun _ _ _ _ _ => ⟨_, (ats_one (at_cmp od_notN (ae_ix (ae_var 1) (ae_var 5)) ae_non (nomark _)))⟩) (fun _ _ _ _ _ => ⟨_, (ae_var 5)⟩)) (ab_frz 4 (ab_one (as_ret (AL.ae (al_lcE (by rfl) (by exact sc_nexts.nd) (own := [("last", 5)]) (blkOk_by (by kernel_rfl)) rfl (ai_seq (ae_var 4)) (fun _ _ _ _ _ => ⟨_, (ag_name 5 (by exact sc_nexts.nd))⟩) (fun _ _ _ _ _ => ⟨_, (ats_one (AW.at_ (aw_or (at_cmp od_isN (ae_var 3) ae_non (nomark _)) (aw_or (at_cmp od_eq (ae_var 5) (ae_op od_add (ae_var 2) ae_int) (nomark _)) (aw_or1 (at_cmp od_le (ae_dgetT hr.units1 (ae_var 0) (ad_cons (ae_var 2) (ad_cons (ae_var 5) ad_nil))) (ae_var 3) (nomark _)))))))⟩) (fun _ _ _ _ _ => ⟨_, (ae_var 5)⟩)))))))⟩
/-! ### table_in: 0 wide, 1 count, 2 most, 3 table, 4 _, 5 ahead, 6 row, 7 first, 8 found, 9 last -/
theorem sc_table_in : FnScope ["wide", "count", "most", "table", "_", "ahead", "row", "first", "found", "last"] ["wide", "count", "most"] (defScope (topS 28)) := ⟨rfl, rfl, rfl, by decide +kernel, rfl, by decide +kernel, by decide +kernel⟩
def g_table_in_1 (R_nexts : RD) : DG := (dgName 9)
def e_table_in_1 (R_nexts : RD) : DE := (dCall pMax2 (dCons (dDGetT (dVar 0) (dCons (dVar 7) (dCons (dVar 9) dNil))) (dCons (dOp pIx (dVar 5) (dVar 9)) dNil)))
def g_table_in_L2 (R_nexts : RD) : DG := (dgName 7)
def t_table_in_L2 (R_nexts : RD) : DS := (dSeq (dSetL 8 (dLc (iSeqD (dFn R_nexts (sCons (dVar 0) (sCons (dVar 5) (sCons (dVar 7) (sCons (dVar 2) sNil)))))) (g_table_in_1 R_nexts) dYes (e_table_in_1 R_nexts) [9])) (dFrz 8 (dApp 6 (dIf (dTest (dOp pNeP (dVar 8) (dLst dNil))) (dCall pMin (dCons (dVar 8) dNil)) (dC .non)))))
def g_table_in_L1 (R_nexts : RD) : DG := (dgName 4)
def t_table_in_L1 (R_nexts : RD) : DS := (dSeq (dPar [5, 6] (kCons (dOwnIx 3 (dUn pNeg (dC (.int 1)))) (kConsL dNil sNil))) (dSeq (dFor (iRng1D (dCons (dVar 1) dNil)) (g_table_in_L2 R_nexts) (t_table_in_L2 R_nexts)) (dFrz 6 (dApp 3 (dOfL (dCatL (dVar 6) (dLst (dCons (dC .non) dNil))))))))
def t_table_in (R_nexts : RD) : DS := (dSeq (dSetL 3 (dCons (dOfL (dCatL (dOfL (dRepL (dLst (dCons (dC .non) dNil)) (dVar 1))) (dLst (dCons (dC (.int 0)) dNil)))) dNil)) (dSeq (dFor (iRng1D (dCons (dVar 1) dNil)) (g_table_in_L1 R_nexts) (t_table_in_L1 R_nexts)) (dFrz 3 (dRet (dVar 3)))))
theorem a_table_in {w : World} {K : PySem.W.Frag} {mg : Str → Option Value} {base : Heap} (z : Fx K mg) {k : Nat} {R_nexts : RD} (C_nexts : CA w K mg base k "nexts" ["wide", "ahead", "first", "most"] R_nexts) (f : Addr) (cdv : Value) (A : Around) (outer : List Env) (s : Shared) (H : Hp) (E : XK) (hr : Room k (A.deeper (envOfC "table_in" (defScope (topS 28)) s.heap.objs.size f cdv))) :
    ∃ ts, AB (cxOf CX0 PR w K mg base ["wide", "count", "most", "table", "_", "ahead", "row", "first", "found", "last"] "table_in" (defScope (topS 28)) f cdv A outer s H E).nox (defBody (topS 28)) ts (t_table_in R_nexts) := by
  exact ⟨_, (ab_cons (as_setL 3 (by exact sc_table_in.nd) (al_lst (ad_cons (AL.ae (al_cat (AL.ae (al_rep (ae_lst (ad_cons ae_non ad_nil)) (ae_var 1))) (ae_lst (ad_cons ae_int ad_nil)))) ad_nil))) (ab_cons (as_for (by rfl) (by rfl) (ai_range1 (by rfl) (by exact z.free 83) (ad_cons (ae_var 1) ad_nil)) (ag_name 4 (by exact sc_table_in.nd)) (ab_cons (as_unp 5 6 (by rfl) (by exact sc_table_in.nd) (ak_d (ae_ownIx 3 (ae_neg ae_int)) (ak_l (al_lst ad_nil) ak_nil))) (ab_cons (as_for (by rfl) (by rfl) (ai_range1 (by rfl) (by exact z.free 83) (ad_cons (ae_var 1) ad_nil)) (ag_name 7 (by exact sc_table_in.nd)) (ab_cons (as_setLcE 8 (by rfl) (by exact sc_table_in.nd) (by rfl) (by rfl) (by rfl) (own := [("last", 9)]) (blkOk_by (by kernel_rfl)) rfl (ai_seq (ae_call C_nexts hr (aa_cons (ae_var 0) (aa_cons (ae_var 5) (aa_cons (ae_var 7) (aa_cons (ae_var 2) aa_nil)))))) (fun _ _ _ _ _ => ⟨_, (ag_name 9 (by exact sc_table_in.nd))⟩) (fun _ _ _ _ _ => ⟨_, ats_nil⟩) (fun _ _ _ _ _ => ⟨_, (ae_callB (cd_max2 (by rfl)) (by rfl) (by exact z.free 81) (by decide +kernel) (ad_cons (ae_dgetT hr.units1 (ae_var 0) (ad_cons (ae_var 7) (ad_cons (ae_var 9) ad_nil))) (ad_cons (ae_ix (ae_var 5) (ae_var 9)) ad_nil)))⟩)) (ab_frz 8 (ab_one (as_app 6 (ae_if (at_cmp (od_neP hr.units) (ae_var 8) (ae_lst ad_nil) (nomark _)) (ae_callB (cd_min (by rfl)) (by rfl) (by exact z.free 80) (by decide +kernel) (ad_cons (ae_var 8) ad_nil)) ae_non)))))) (ab_frz 6 (ab_one (as_app 3 (AL.ae (al_cat (ae_var 6) (ae_lst (ad_cons ae_non ad_nil)))))))))) (ab_frz 3 (ab_one (as_ret (ae_var 3))))))⟩
/-! ### lines_of: 0 style, 1 text, 2 own, 3 words, 4 wide, 5 table, 6 many, 7 least, 8 first, 9 found, 10 left, 11 ends, 12 last, 13 place, 14 row -/
theorem sc_lines_of : FnScope ["style", "text", "own", "words", "wide", "table", "many", "least", "first", "found", "left", "ends", "last", "place", "row"] ["style", "text"] (defScope (topS 29)) := ⟨rfl, rfl, rfl, by decide +kernel, rfl, by decide +kernel, by decide +kernel⟩
def g_lines_of_1 (R_tuple_of R_words_of R_wide_in R_table_in R_nexts : RD) : DG := (dgTup 2 (dgCons (dgName 13) (dgCons (dgName 14) dgNil)))
def f_lines_of_1 (R_tuple_of R_words_of R_wide_in R_table_in R_nexts : RD) : DT := (dTest (dOp pNotN (dOp pIx (dVar 14) (dC (.int 0))) (dC .non)))
def e_lines_of_1 (R_tuple_of R_words_of R_wide_in R_table_in R_nexts : RD) : DE := (dVar 13)
def g_lines_of_2 (R_tuple_of R_words_of R_wide_in R_table_in R_nexts : RD) : DG := (dgName 12)
def f_lines_of_2 (R_tuple_of R_words_of R_wide_in R_table_in R_nexts : RD) : DT := (dTest (dOp pLe (dDGetT (dVar 4) (dCons (dVar 8) (dCons (dVar 12) dNil))) (dVar 7)))
def e_lines_of_2 (R_tuple_of R_words_of R_wide_in R_table_in R_nexts : RD) : DE := (dVar 12)
def g_lines_of_3 (R_tuple_of R_words_of R_wide_in R_table_in R_nexts : RD) : DG := (dgName 13)
def f_lines_of_3 (R_tuple_of R_words_of R_wide_in R_table_in R_nexts : RD) : DT := (dTest (dOp pLe (dOp pIx (dOp pIx (dVar 5) (dVar 10)) (dVar 13)) (dVar 7)))
def e_lines_of_3 (R_tuple_of R_words_of R_wide_in R_table_in R_nexts : RD) : DE := (dVar 13)
def g_lines_of_L1 (R_tuple_of R_words_of R_wide_in R_table_in R_nexts : RD) : DG := (dgName 10)
def t_lines_of_L1 (R_tuple_of R_words_of R_wide_in R_table_in R_nexts : RD) : DS := (dSeq (dSetL 11 (dLc (iSeqD (dFn R_nexts (sCons (dVar 4) (sCons (dOp pIx (dVar 5) (dVar 10)) (sCons (dVar 8) (sCons (dOp pIx (dVar 2) (dC (.int 5))) sNil)))))) (g_lines_of_2 R_tuple_of R_words_of R_wide_in R_table_in R_nexts) (f_lines_of_2 R_tuple_of R_words_of R_wide_in R_table_in R_nexts) (e_lines_of_2 R_tuple_of R_words_of R_wide_in R_table_in R_nexts) [12])) (dFrz 11 (dSeq (dSet 12 (dOp pIx (dOfL (dLc (iSeqD (dVar 11)) (g_lines_of_3 R_tuple_of R_words_of R_wide_in R_table_in R_nexts) (f_lines_of_3 R_tuple_of R_words_of R_wide_in R_table_in R_nexts) (e_lines_of_3 R_tuple_of R_words_of R_wide_in R_table_in R_nexts) [13])) (dUn pNeg (dC (.int 1))))) (dSeq (dApp 9 (dJoin (dC (.str " ")) (dSl (dVar 3) (dPart (dVar 8)) (dPart (dVar 12))))) (dSet 8 (dVar 12))))))
def t_lines_of (R_tuple_of R_words_of R_wide_in R_table_in R_nexts : RD) : DS := (dSeq (dPar [2, 3] (kCons (dFn R_tuple_of (sCons (dVar 0) sNil)) (kCons (dFn R_words_of (sCons (dVar 1) sNil)) sNil))) (dSeq (dIfS (dTest (dOp pEqP (dVar 3) (dLst dNil))) (dRet (dTup (dCons (dC (.str "")) dNil))) dNext) (dSeq (dSet 4 (dFn R_wide_in (sCons (dVar 2) (sCons (dVar 3) sNil)))) (dSeq (dSet 5 (dFn R_table_in (sCons (dVar 4) (sCons (dCall pLen (dCons (dVar 3) dNil)) (sCons (dOp pIx (dVar 2) (dC (.int 5))) sNil))))) (dSeq (dSet 6 (dOp pIx (dOfL (dLc (iEnumDL (dCons (dVar 5) dNil)) (g_lines_of_1 R_tuple_of R_words_of R_wide_in R_table_in R_nexts) (f_lines_of_1 R_tuple_of R_words_of R_wide_in R_table_in R_nexts) (e_lines_of_1 R_tuple_of R_words_of R_wide_in R_table_in R_nexts) [13, 14])) (dC (.int 0)))) (dSeq (dPar [7, 8, 9] (kCons (dOp pIx (dOp pIx (dVar 5) (dVar 6)) (dC (.int 0))) (kCons (dC (.int 0)) (kConsL dNil sNil)))) (dSeq (dFor (iRng3D (dCons (dOp pSub (dVar 6) (dC (.int 1))) (dCons (dUn pNeg (dC (.int 1))) (dCons (dUn pNeg (dC (.int 1))) dNil)))) (g_lines_of_L1 R_tuple_of R_words_of R_wide_in R_table_in R_nexts) (t_lines_of_L1 R_tuple_of R_words_of R_wide_in R_table_in R_nexts)) (dFrz 9 (dRet (dCall pTuple (dCons (dVar 9) dNil)))))))))))
theorem a_lines_of {w : World} {K : PySem.W.Frag} {mg : Str → Option Value} {base : Heap} (z : Fx K mg) {k : Nat} {R_tuple_of R_words_of R_wide_in R_table_in R_nexts : RD} (C_tuple_of : CA w K mg base k "tuple_of" ["thing"] R_tuple_of) (C_words_of : CA w K mg base k "words_of" ["text"] R_words_of) (C_wide_in : CA w K mg base k "wide_in" ["style", "words"] R_wide_in) (C_table_in : CA w K mg base k "table_in" ["wide", "count", "most"] R_table_in) (C_nexts : CA w K mg base k "nexts" ["wide", "ahead", "first", "most"] R_nexts) (f : Addr) (cdv : Value) (A : Around) (outer : List Env) (s : Shared) (H : Hp) (E : XK) (hr : Room k (A.deeper (envOfC "lines_of" (defScope (topS 29)) s.heap.objs.size f cdv))) :
    ∃ ts, AB (cxOf CX0 PR w K mg base ["style", "text", "own", "words", "wide", "table", "many", "least", "first", "found", "left", "ends", "last", "place", "row"] "lines_of" (defScope (topS 29)) f cdv A outer s H E).nox (defBody (topS 29)) ts (t_lines_of R_tuple_of R_words_of R_wide_in R_table_in R_nexts) := by
  exact ⟨_, (ab_cons (as_par 2 3 (by rfl) (by exact sc_lines_of.nd) (ak_d (ae_call C_tuple_of hr (aa_cons (ae_var 0) aa_nil)) (ak_d (ae_call C_words_of hr (aa_cons (ae_var 1) aa_nil)) ak_nil))) (ab_cons (as_if (at_cmp (od_eqP hr.units) (ae_var 3) (ae_lst ad_nil) (nomark _)) (ab_one (as_ret (ae_tup (ad_cons ae_str ad_nil)))) ab_nil) (ab_cons (as_set 4 (by exact sc_lines_of.nd) (ae_call C_wide_in hr (aa_cons (ae_var 2) (aa_cons (ae_var 3) aa_nil)))) (ab_cons (as_set 5 (by exact sc_lines_of.nd) (ae_call C_table_in hr (aa_cons (ae_var 4) (aa_cons (ae_callB cd_len (by rfl) (by exact z.free 77) (by decide +kernel) (ad_cons (ae_var 3) ad_nil)) (aa_cons (ae_ix (ae_var 2) ae_int) aa_nil))))) (ab_cons (as_set 6 (by exact sc_lines_of.nd) (ae_ix (AL.ae (al_lcE (by rfl) (by exact sc_lines_of.nd) (own := [("place", 13), ("row", 14)]) (blkOk_by (by kernel_rfl)) rfl (ai_enumL (by rfl) (by exact z.free 85) (ad_cons (ae_var 5) ad_nil)) (fun _ _ _ _ _ => ⟨_, (ag_tup (by rfl) (ags_cons (ag_name 13 (by exact sc_lines_of.nd)) (ags_cons (ag_name 14 (by exact sc_lines_of.nd)) ags_nil)))⟩) (fun _ _ _ _ _ => ⟨_, (ats_one (at_cmp od_notN (ae_ix (ae_var 14) ae_int) ae_non (nomark _)))⟩) (fun _ _ _ _ _ => ⟨_, (ae_var 13)⟩))) ae_int)) (ab_cons (as_unp3 7 8 9 (by rfl) (by exact sc_lines_of.nd) (ak_d (ae_ix (ae_ix (ae_var 5) (ae_var 6)) ae_int) (ak_d ae_int (ak_l (al_lst ad_nil) ak_nil)))) (ab_cons (as_for (by rfl) (by rfl) (ai_range3 (by rfl) (by exact z.free 83) (ad_cons (ae_op od_sub (ae_var 6) ae_int) (ad_cons (ae_neg ae_int) (ad_cons (ae_neg ae_int) ad_nil)))) (ag_name 10 (by exact sc_lines_of.nd)) (ab_cons (as_setLcE 11 (by rfl) (by exact sc_lines_of.nd) (by rfl) (by rfl) (by rfl) (own := [("last", 12)]) (blkOk_by (by kernel_rfl)) rfl (ai_seq (ae_call C_nexts hr (aa_cons (ae_var 4) (aa_cons (ae_ix (ae_var 5) (ae_var 10)) (aa_cons (ae_var 8) (aa_cons (ae_ix (ae_var 2) ae_int) aa_nil)))))) (fun _ _ _ _ _ => ⟨_, (ag_name 12 (by exact sc_lines_of.nd))⟩) (fun _ _ _ _ _ => ⟨_, (ats_one (at_cmp od_le (ae_dgetT hr.units1 (ae_var 4) (ad_cons (ae_var 8) (ad_cons (ae_var 12) ad_nil))) (ae_var 7) (nomark _)))⟩) (fun _ _ _ _ _ => ⟨_, (ae_var 12)⟩)) (ab_frz 11 (ab_cons (as_set 12 (by exact sc_lines_of.nd) (ae_ix (AL.ae (al_lcE (by rfl) (by exact sc_lines_of.nd) (own := [("place", 13)]) (blkOk_by (by kernel_rfl)) rfl (ai_seq (ae_var 11)) (fun _ _ _ _ _ => ⟨_, (ag_name 13 (by exact sc_lines_of.nd))⟩) (fun _ _ _ _ _ => ⟨_, (ats_one (at_cmp od_le (ae_ix (ae_ix (ae_var 5) (ae_var 10)) (ae_var 13)) (ae_var 7) (nomark _)))⟩) (fun _ _ _ _ _ => ⟨_, (ae_var 13)⟩))) (ae_neg ae_int))) (ab_cons (as_app 9 (ae_join ae_str (ae_slice (ae_var 3) (ao_some (ae_var 8)) (ao_some (ae_var 12))))) (ab_one (as_set 8 (by exact sc_lines_of.nd) (ae_var 12)))))))) (ab_frz 9 (ab_one (as_ret (ae_callTy cd_tuple (by rfl) (by exact z.free 73) (by decide +kernel) (ad_cons (ae_var 9) ad_nil))))))))))))⟩
/-! ### size_of: 0 style, 1 text, 2 own, 3 lines, 4 width, 5 line -/
theorem sc_size_of : FnScope ["style", "text", "own", "lines", "width", "line"] ["style", "text"] (defScope (topS 30)) := ⟨rfl, rfl, rfl, by decide +kernel, rfl, by decide +kernel, by decide +kernel⟩
def g_size_of_1 (R_tuple_of R_lines_of R_width_in : RD) : DG := (dgName 5)
def e_size_of_1 (R_tuple_of R_lines_of R_width_in : RD) : DE := (dFn R_width_in (sCons (dVar 2) (sCons (dVar 5) sNil)))
def t_size_of (R_tuple_of R_lines_of R_width_in : RD) : DS := (dSeq (dSet 2 (dFn R_tuple_of (sCons (dVar 0) sNil))) (dSeq (dSet 3 (dFn R_lines_of (sCons (dVar 2) (sCons (dVar 1) sNil)))) (dSeq (dSet 4 (dCall pMax (dCons (dOfL (dLc (iSeqD (dVar 3)) (g_size_of_1 R_tuple_of R_lines_of R_width_in) dYes (e_size_of_1 R_tuple_of R_lines_of R_width_in) [5])) dNil))) (dRet (dTup (dCons (dCall pMax2 (dCons (dVar 4) (dCons (dC (.int 1)) dNil))) (dCons (dOp pAdd (dOp pMul (dOp pIx (dVar 2) (dC (.int 3))) (dCall pLen (dCons (dVar 3) dNil))) (dOp pMul (dOp pIx (dVar 2) (dC (.int 4))) (dOp pSub (dCall pLen (dCons (dVar 3) dNil)) (dC (.int 1))))) dNil)))))))
theorem a_size_of {w : World} {K : PySem.W.Frag} {mg : Str → Option Value} {base : Heap} (z : Fx K mg) {k : Nat} {R_tuple_of R_lines_of R_width_in : RD} (C_tuple_of : CA w K mg base k "tuple_of" ["thing"] R_tuple_of) (C_lines_of : CA w K mg base k "lines_of" ["style", "text"] R_lines_of) (C_width_in : CA w K mg base k "width_in" ["style", "line"] R_width_in) (f : Addr) (cdv : Value) (A : Around) (outer : List Env) (s : Shared) (H : Hp) (E : XK) (hr : Room k (A.deeper (envOfC "size_of" (defScope (topS 30)) s.heap.objs.size f cdv))) :
    ∃ ts, AB (cxOf CX0 PR w K mg base ["style", "text", "own", "lines", "width", "line"] "size_of" (defScope (topS 30)) f cdv A outer s H E).nox (defBody (topS 30)) ts (t_size_of R_tuple_of R_lines_of R_width_in) := by
  exact ⟨_, (ab_cons (as_set 2 (by exact sc_size_of.nd) (ae_call C_tuple_of hr (aa_cons (ae_var 0) aa_nil))) (ab_cons (as_set 3 (by exact sc_size_of.nd) (ae_call C_lines_of hr (aa_cons (ae_var 2) (aa_cons (ae_var 1) aa_nil)))) (ab_cons (as_set 4 (by exact sc_size_of.nd) (ae_callB (cd_max (by rfl)) (by rfl) (by exact z.free 81) (by decide +kernel) (ad_cons (AL.ae (al_lcE (by rfl) (by exact sc_size_of.nd) (own := [("line", 5)]) (blkOk_by (by kernel_rfl)) rfl (ai_seq (ae_var 3)) (fun _ _ _ _ _ => ⟨_, (ag_name 5 (by exact sc_size_of.nd))⟩) (fun _ _ _ _ _ => ⟨_, ats_nil⟩) (fun _ _ _ _ _ => ⟨_, (ae_call C_width_in hr (aa_cons (ae_var 2) (aa_cons (ae_var 5) aa_nil)))⟩))) ad_nil))) (ab_one (as_ret (ae_tup (ad_cons (ae_callB (cd_max2 (by rfl)) (by rfl) (by exact z.free 81) (by decide +kernel) (ad_cons (ae_var 4) (ad_cons ae_int ad_nil))) (ad_cons (ae_op od_add (ae_op od_mul (ae_ix (ae_var 2) ae_int) (ae_callB cd_len (by rfl) (by exact z.free 77) (by decide +kernel) (ad_cons (ae_var 3) ad_nil))) (ae_op od_mul (ae_ix (ae_var 2) ae_int) (ae_op od_sub (ae_callB cd_len (by rfl) (by exact z.free 77) (by decide +kernel) (ad_cons (ae_var 3) ad_nil)) ae_int))) ad_nil))))))))⟩
/-! ### tethers_of: 0 style, 1 size, 2 area, 3 hold, 4 slack, 5 wide, 6 high, 7 west, 8 north, 9 east, 10 south, 11 across, 12 down -/
theorem sc_tethers_of : FnScope ["style", "size", "area", "hold", "slack", "wide", "high", "west", "north", "east", "south", "across", "down"] ["style", "size", "area"] (defScope (topS 31)) := ⟨rfl, rfl, rfl, by decide +kernel, rfl, by decide +kernel, by decide +kernel⟩
def t_tethers_of : DS := (dSeq (dPar [3, 4] (kCons (dOp pIx (dVar 0) (dC (.int 6))) (kCons (dOp pIx (dVar 0) (dC (.int 7))) sNil))) (dSeq (dAsg (dVar 1) (dgTup 2 (dgCons (dgName 5) (dgCons (dgName 6) dgNil)))) (dSeq (dAsg (dVar 2) (dgTup 4 (dgCons (dgName 7) (dgCons (dgName 8) (dgCons (dgName 9) (dgCons (dgName 10) dgNil)))))) (dSeq (dSet 11 (dTup (dCons (dVar 7) (dCons (dOp pAdd (dOp pFdiv (dVar 5) (dC (.int 2))) (dVar 4)) (dCons (dVar 9) (dCons (dOp pSub (dVar 4) (dOp pFdiv (dVar 5) (dC (.int 2)))) dNil)))))) (dSeq (dSet 12 (dTup (dCons (dVar 8) (dCons (dOp pAdd (dOp pFdiv (dVar 6) (dC (.int 2))) (dVar 4)) (dCons (dVar 10) (dCons (dOp pSub (dVar 4) (dOp pFdiv (dVar 6) (dC (.int 2)))) dNil)))))) (dSeq (dIfS (dTest (dOp pEq (dVar 3) (dC (.str "free")))) (dRet (dTup (dCons (dTup (dCons (dVar 7) (dCons (dOp pAdd (dVar 5) (dVar 4)) (dCons (dVar 9) (dCons (dVar 4) dNil))))) (dCons (dTup (dCons (dVar 8) (dCons (dOp pAdd (dVar 6) (dVar 4)) (dCons (dVar 10) (dCons (dVar 4) dNil))))) dNil)))) dNext) (dSeq (dIfS (dTest (dOp (pInT false) (dVar 3) (dTup (dCons (dC (.str "left")) (dCons (dC (.str "right")) dNil))))) (dRet (dTup (dCons (dIf (dTest (dOp pEq (dVar 3) (dC (.str "left")))) (dTup (dCons (dVar 7) (dCons (dOp pAdd (dVar 5) (dVar 4)) (dCons (dVar 7) (dCons (dOp pSub (dC (.int 0)) (dVar 5)) dNil))))) (dTup (dCons (dVar 9) (dCons (dC (.int 0)) (dCons (dVar 9) (dCons (dVar 4) dNil)))))) (dCons (dVar 12) dNil)))) dNext) (dSeq (dIfS (dTest (dOp (pInT false) (dVar 3) (dTup (dCons (dC (.str "over")) (dCons (dC (.str "under")) dNil))))) (dRet (dTup (dCons (dVar 11) (dCons (dIf (dTest (dOp pEq (dVar 3) (dC (.str "over")))) (dTup (dCons (dVar 8) (dCons (dOp pAdd (dVar 6) (dVar 4)) (dCons (dVar 8) (dCons (dOp pSub (dC (.int 0)) (dVar 6)) dNil))))) (dTup (dCons (dVar 10) (dCons (dC (.int 0)) (dCons (dVar 10) (dCons (dVar 4) dNil)))))) dNil)))) dNext) (dRet (dTup (dCons (dVar 11) (dCons (dVar 12) dNil))))))))))))
theorem a_tethers_of {w : World} {K : PySem.W.Frag} {mg : Str → Option Value} {base : Heap} (z : Fx K mg) {k : Nat} (f : Addr) (cdv : Value) (A : Around) (outer : List Env) (s : Shared) (H : Hp) (E : XK) (hr : Room k (A.deeper (envOfC "tethers_of" (defScope (topS 31)) s.heap.objs.size f cdv))) :
    ∃ ts, AB (cxOf CX0 PR w K mg base ["style", "size", "area", "hold", "slack", "wide", "high", "west", "north", "east", "south", "across", "down"] "tethers_of" (defScope (topS 31)) f cdv A outer s H E).nox (defBody (topS 31)) ts (t_tethers_of) := by
  exact ⟨_, (ab_cons (as_par 3 4 (by rfl) (by exact sc_tethers_of.nd) (ak_d (ae_ix (ae_var 0) ae_int) (ak_d (ae_ix (ae_var 0) ae_int) ak_nil))) (ab_cons (as_asg (ae_var 1) (ag_tup (by rfl) (ags_cons (ag_name 5 (by exact sc_tethers_of.nd)) (ags_cons (ag_name 6 (by exact sc_tethers_of.nd)) ags_nil)))) (ab_cons (as_asg (ae_var 2) (ag_tup (by rfl) (ags_cons (ag_name 7 (by exact sc_tethers_of.nd)) (ags_cons (ag_name 8 (by exact sc_tethers_of.nd)) (ags_cons (ag_name 9 (by exact sc_tethers_of.nd)) (ags_cons (ag_name 10 (by exact sc_tethers_of.nd)) ags_nil)))))) (ab_cons (as_set 11 (by exact sc_tethers_of.nd) (ae_tup (ad_cons (ae_var 7) (ad_cons (ae_op od_add (ae_op od_fdiv (ae_var 5) ae_int) (ae_var 4)) (ad_cons (ae_var 9) (ad_cons (ae_op od_sub (ae_var 4) (ae_op od_fdiv (ae_var 5) ae_int)) ad_nil)))))) (ab_cons (as_set 12 (by exact sc_tethers_of.nd) (ae_tup (ad_cons (ae_var 8) (ad_cons (ae_op od_add (ae_op od_fdiv (ae_var 6) ae_int) (ae_var 4)) (ad_cons (ae_var 10) (ad_cons (ae_op od_sub (ae_var 4) (ae_op od_fdiv (ae_var 6) ae_int)) ad_nil)))))) (ab_cons (as_if (at_cmp od_eq (ae_var 3) ae_str (nomark _)) (ab_one (as_ret (ae_tup (ad_cons (ae_tup (ad_cons (ae_var 7) (ad_cons (ae_op od_add (ae_var 5) (ae_var 4)) (ad_cons (ae_var 9) (ad_cons (ae_var 4) ad_nil))))) (ad_cons (ae_tup (ad_cons (ae_var 8) (ad_cons (ae_op od_add (ae_var 6) (ae_var 4)) (ad_cons (ae_var 10) (ad_cons (ae_var 4) ad_nil))))) ad_nil))))) ab_nil) (ab_cons (as_if (at_cmp od_inT (ae_var 3) (ae_tup (ad_cons ae_str (ad_cons ae_str ad_nil))) (by rfl)) (ab_one (as_ret (ae_tup (ad_cons (ae_if (at_cmp od_eq (ae_var 3) ae_str (nomark _)) (ae_tup (ad_cons (ae_var 7) (ad_cons (ae_op od_add (ae_var 5) (ae_var 4)) (ad_cons (ae_var 7) (ad_cons (ae_op od_sub ae_int (ae_var 5)) ad_nil))))) (ae_tup (ad_cons (ae_var 9) (ad_cons ae_int (ad_cons (ae_var 9) (ad_cons (ae_var 4) ad_nil)))))) (ad_cons (ae_var 12) ad_nil))))) ab_nil) (ab_cons (as_if (at_cmp od_inT (ae_var 3) (ae_tup (ad_cons ae_str (ad_cons ae_str ad_nil))) (by rfl)) (ab_one (as_ret (ae_tup (ad_cons (ae_var 11) (ad_cons (ae_if (at_cmp od_eq (ae_var 3) ae_str (nomark _)) (ae_tup (ad_cons (ae_var 8) (ad_cons (ae_op od_add (ae_var 6) (ae_var 4)) (ad_cons (ae_var 8) (ad_cons (ae_op od_sub ae_int (ae_var 6)) ad_nil))))) (ae_tup (ad_cons (ae_var 10) (ad_cons ae_int (ad_cons (ae_var 10) (ad_cons (ae_var 4) ad_nil)))))) ad_nil))))) ab_nil) (ab_one (as_ret (ae_tup (ad_cons (ae_var 11) (ad_cons (ae_var 12) ad_nil)))))))))))))⟩
/-! ### is_tether: 0 thing, 1 own -/
theorem sc_is_tether : FnScope ["thing", "own"] ["thing"] (defScope (topS 35)) := ⟨rfl, rfl, rfl, by decide +kernel, rfl, by decide +kernel, by decide +kernel⟩
def g_is_tether_1 (R_is_tuple_of R_is_number : RD) : DG := (dgName 1)
def e_is_tether_1 (R_is_tuple_of R_is_number : RD) : DE := (dFn R_is_number (sCons (dVar 1) sNil))
def t_is_tether (R_is_tuple_of R_is_number : RD) : DS := (dSeq (dIfS (dOr (dNot (dTest (dFn R_is_tuple_of (sCons (dVar 0) (sCons (dC (.int 4)) sNil))))) (dNot (dTest (dCall pAll (dCons (dOfL (dLc (iSeqD (dVar 0)) (g_is_tether_1 R_is_tuple_of R_is_number) dYes (e_is_tether_1 R_is_tuple_of R_is_number) [1])) dNil))))) (dRet (dC (.bl false))) dNext) (dRet (dAndV (dOp pLe (dOp pIx (dVar 0) (dC (.int 0))) (dOp pIx (dVar 0) (dC (.int 2)))) (dOp pGe (dOp pAdd (dOp pIx (dVar 0) (dC (.int 1))) (dOp pIx (dVar 0) (dC (.int 3)))) (dC (.int 0))))))
theorem a_is_tether {w : World} {K : PySem.W.Frag} {mg : Str → Option Value} {base : Heap} (z : Fx K mg) {k : Nat} {R_is_tuple_of R_is_number : RD} (C_is_tuple_of : CA w K mg base k "is_tuple_of" ["thing", "many"] R_is_tuple_of) (C_is_number : CA w K mg base k "is_number" ["thing"] R_is_number) (f : Addr) (cdv : Value) (A : Around) (outer : List Env) (s : Shared) (H : Hp) (E : XK) (hr : Room k (A.deeper (envOfC "is_tether" (defScope (topS 35)) s.heap.objs.size f cdv))) :
    ∃ ts, AB (cxOf CX0 PR w K mg base ["thing", "own"] "is_tether" (defScope (topS 35)) f cdv A outer s H E).nox (defBody (topS 35)) ts (t_is_tether R_is_tuple_of R_is_number) := by
  exact ⟨_, (ab_cons (as_if (AW.at_ (aw_or (at_not (at_val (ae_call C_is_tuple_of hr (aa_cons (ae_var 0) (aa_cons ae_int aa_nil))))) (aw_or1 (at_not (at_val (ae_callB (cd_all (by rfl)) (by rfl) (by exact z.free 82) (by decide +kernel) (ad_cons (AL.ae (al_lcE (by rfl) (by exact sc_is_tether.nd) (own := [("own", 1)]) (blkOk_by (by kernel_rfl)) rfl (ai_seq (ae_var 0)) (fun _ _ _ _ _ => ⟨_, (ag_name 1 (by exact sc_is_tether.nd))⟩) (fun _ _ _ _ _ => ⟨_, ats_nil⟩) (fun _ _ _ _ _ => ⟨_, (ae_call C_is_number hr (aa_cons (ae_var 1) aa_nil))⟩))) ad_nil))))))) (ab_one (as_ret ae_bl)) ab_nil) (ab_one (as_ret (ae_and (ae_cmp od_le (ae_ix (ae_var 0) ae_int) (ae_ix (ae_var 0) ae_int) (nomark _)) (ae_one (ae_cmp od_ge (ae_op od_add (ae_ix (ae_var 0) ae_int) (ae_ix (ae_var 0) ae_int)) ae_int (nomark _)))))))⟩
end DL

namespace DL
open PySem PySem.Spec PyProof.Rows L2 Gn

/-! ### is_name: 0 thing, 1 own -/
theorem sc_is_name : FnScope ["thing", "own"] ["thing"] (defScope (topS 36)) := ⟨rfl, rfl, rfl, by decide +kernel, rfl, by decide +kernel, by decide +kernel⟩
def g_is_name_1 (R_is_tuple_of R_is_number R_is_tether : RD) : DG := (dgName 1)
def e_is_name_1 (R_is_tuple_of R_is_number R_is_tether : RD) : DE := (dAndV (dFn R_is_number (sCons (dVar 1) sNil)) (dOp pGe (dVar 1) (dC (.int 1))))
def t_is_name (R_is_tuple_of R_is_number R_is_tether : RD) : DS := (dSeq (dIfS (dOr (dNot (dTest (dFn R_is_tuple_of (sCons (dVar 0) (sCons (dC (.int 4)) sNil))))) (dNot (dTest (dCall pAll (dCons (dOfL (dLc (iSeqD (dSl (dVar 0) dNoPart (dPart (dC (.int 2))))) (g_is_name_1 R_is_tuple_of R_is_number R_is_tether) dYes (e_is_name_1 R_is_tuple_of R_is_number R_is_tether) [1])) dNil))))) (dRet (dC (.bl false))) dNext) (dRet (dAndV (dFn R_is_tether (sCons (dOp pIx (dVar 0) (dC (.int 2))) sNil)) (dFn R_is_tether (sCons (dOp pIx (dVar 0) (dC (.int 3))) sNil)))))
theorem a_is_name {w : World} {K : PySem.W.Frag} {mg : Str → Option Value} {base : Heap} (z : Fx K mg) {k : Nat} {R_is_tuple_of R_is_number R_is_tether : RD} (C_is_tuple_of : CA w K mg base k "is_tuple_of" ["thing", "many"] R_is_tuple_of) (C_is_number : CA w K mg base k "is_number" ["thing"] R_is_number) (C_is_tether : CA w K mg base k "is_tether" ["thing"] R_is_tether) (f : Addr) (cdv : Value) (A : Around) (outer : List Env) (s : Shared) (H : Hp) (E : XK) (hr : Room k (A.deeper (envOfC "is_name" (defScope (topS 36)) s.heap.objs.size f cdv))) :
    ∃ ts, AB (cxOf CX0 PR w K mg base ["thing", "own"] "is_name" (defScope (topS 36)) f cdv A outer s H E).nox (defBody (topS 36)) ts (t_is_name R_is_tuple_of R_is_number R_is_tether) := by
  exact ⟨_, (ab_cons (as_if (AW.at_ (aw_or (at_not (at_val (ae_call C_is_tuple_of hr (aa_cons (ae_var 0) (aa_cons ae_int aa_nil))))) (aw_or1 (at_not (at_val (ae_callB (cd_all (by rfl)) (by rfl) (by exact z.free 82) (by decide +kernel) (ad_cons (AL.ae (al_lcE (by rfl) (by exact sc_is_name.nd) (own := [("own", 1)]) (blkOk_by (by kernel_rfl)) rfl (ai_seq (ae_slice (ae_var 0) ao_none (ao_some ae_int))) (fun _ _ _ _ _ => ⟨_, (ag_name 1 (by exact sc_is_name.nd))⟩) (fun _ _ _ _ _ => ⟨_, ats_nil⟩) (fun _ _ _ _ _ => ⟨_, (ae_and (ae_call C_is_number hr (aa_cons (ae_var 1) aa_nil)) (ae_one (ae_cmp od_ge (ae_var 1) ae_int (nomark _))))⟩))) ad_nil))))))) (ab_one (as_ret ae_bl)) ab_nil) (ab_one (as_ret (ae_and (ae_call C_is_tether hr (aa_cons (ae_ix (ae_var 0) ae_int) aa_nil)) (ae_one (ae_call C_is_tether hr (aa_cons (ae_ix (ae_var 0) ae_int) aa_nil)))))))⟩
/-! ### is_map: 0 thing, 1 own -/
theorem sc_is_map : FnScope ["thing", "own"] ["thing"] (defScope (topS 37)) := ⟨rfl, rfl, rfl, by decide +kernel, rfl, by decide +kernel, by decide +kernel⟩
def g_is_map_1 (R_is_name : RD) : DG := (dgName 1)
def e_is_map_1 (R_is_name : RD) : DE := (dFn R_is_name (sCons (dVar 1) sNil))
def t_is_map (R_is_name : RD) : DS := (dRet (dAndV (dIsi "tuple" (dVar 0)) (dAndV (dOp pNeP (dVar 0) (dTup dNil)) (dCall pAll (dCons (dOfL (dLc (iSeqD (dVar 0)) (g_is_map_1 R_is_name) dYes (e_is_map_1 R_is_name) [1])) dNil)))))
theorem a_is_map {w : World} {K : PySem.W.Frag} {mg : Str → Option Value} {base : Heap} (z : Fx K mg) {k : Nat} {R_is_name : RD} (C_is_name : CA w K mg base k "is_name" ["thing"] R_is_name) (f : Addr) (cdv : Value) (A : Around) (outer : List Env) (s : Shared) (H : Hp) (E : XK) (hr : Room k (A.deeper (envOfC "is_map" (defScope (topS 37)) s.heap.objs.size f cdv))) :
    ∃ ts, AB (cxOf CX0 PR w K mg base ["thing", "own"] "is_map" (defScope (topS 37)) f cdv A outer s H E).nox (defBody (topS 37)) ts (t_is_map R_is_name) := by
  exact ⟨_, (ab_one (as_ret (ae_and (ae_isi (T := "tuple") (ae_var 0) (by rfl) (by exact z.free 71) (by rfl) (by exact z.free 73) (by decide +kernel)) (ae_and (ae_cmp (od_neP hr.units) (ae_var 0) (ae_tup ad_nil) (nomark _)) (ae_one (ae_callB (cd_all (by rfl)) (by rfl) (by exact z.free 82) (by decide +kernel) (ad_cons (AL.ae (al_lcE (by rfl) (by exact sc_is_map.nd) (own := [("own", 1)]) (blkOk_by (by kernel_rfl)) rfl (ai_seq (ae_var 0)) (fun _ _ _ _ _ => ⟨_, (ag_name 1 (by exact sc_is_map.nd))⟩) (fun _ _ _ _ _ => ⟨_, ats_nil⟩) (fun _ _ _ _ _ => ⟨_, (ae_call C_is_name hr (aa_cons (ae_var 1) aa_nil))⟩))) ad_nil)))))))⟩
/-! ### sure_name: 0 chart, 1 name -/
theorem sc_sure_name : FnScope ["chart", "name"] ["chart", "name"] (defScope (topS 38)) := ⟨rfl, rfl, rfl, by decide +kernel, rfl, by decide +kernel, by decide +kernel⟩
def t_sure_name (R_is_number : RD) : DS := (dSeq (dIfS (dOr (dNot (dTest (dFn R_is_number (sCons (dVar 1) sNil)))) (dNot (dTest (dChain pLe pLt (dC (.int 0)) (dVar 1) (dCall pLen (dCons (dVar 0) dNil)))))) dNever dNext) (dRet (dOp pIx (dVar 0) (dVar 1))))
theorem a_sure_name {w : World} {K : PySem.W.Frag} {mg : Str → Option Value} {base : Heap} (z : Fx K mg) {k : Nat} {R_is_number : RD} (C_is_number : CA w K mg base k "is_number" ["thing"] R_is_number) (f : Addr) (cdv : Value) (A : Around) (outer : List Env) (s : Shared) (H : Hp) (E : XK) (hr : Room k (A.deeper (envOfC "sure_name" (defScope (topS 38)) s.heap.objs.size f cdv))) :
    ∃ ts, AB (cxOf CX0 PR w K mg base ["chart", "name"] "sure_name" (defScope (topS 38)) f cdv A outer s H E).nox (defBody (topS 38)) ts (t_sure_name R_is_number) := by
  exact ⟨_, (ab_cons (as_if (AW.at_ (aw_or (at_not (at_val (ae_call C_is_number hr (aa_cons (ae_var 1) aa_nil)))) (aw_or1 (at_not (at_chain od_le od_lt ae_int (ae_var 1) (ae_callB cd_len (by rfl) (by exact z.free 77) (by decide +kernel) (ad_cons (ae_var 0) ad_nil))))))) (ab_one as_never) ab_nil) (ab_one (as_ret (ae_ix (ae_var 0) (ae_var 1)))))⟩
/-! ### map_of: 0 page, 1 styles, 2 own, 3 told, 4 found, 5 feature, 6 style, 7 size -/
theorem sc_map_of : FnScope ["page", "styles", "own", "told", "found", "feature", "style", "size"] ["page", "styles"] (defScope (topS 39)) := ⟨rfl, rfl, rfl, by decide +kernel, rfl, by decide +kernel, by decide +kernel⟩
def g_map_of_1 (R_tuple_of R_size_of R_tethers_of R_tie_in : RD) : DG := (dgName 5)
def e_map_of_1 (R_tuple_of R_size_of R_tethers_of R_tie_in : RD) : DE := (dOp pLt (dOp pIx (dVar 5) (dC (.int 0))) (dCall pLen (dCons (dVar 3) dNil)))
def g_map_of_L1 (R_tuple_of R_size_of R_tethers_of R_tie_in : RD) : DG := (dgName 5)
def t_map_of_L1 (R_tuple_of R_size_of R_tethers_of R_tie_in : RD) : DS := (dSeq (dSet 6 (dOp pIx (dVar 3) (dOp pIx (dVar 5) (dC (.int 0))))) (dSeq (dSet 7 (dFn R_size_of (sCons (dVar 6) (sCons (dOp pIx (dVar 5) (dC (.int 1))) sNil)))) (dApp 4 (dOp pCatT (dVar 7) (dFn R_tethers_of (sCons (dVar 6) (sCons (dVar 7) (sCons (dFn R_tie_in (sCons (dVar 5) sNil)) sNil))))))))
def t_map_of (R_tuple_of R_size_of R_tethers_of R_tie_in : RD) : DS := (dSeq (dPar [2, 3] (kCons (dFn R_tuple_of (sCons (dVar 0) sNil)) (kCons (dFn R_tuple_of (sCons (dVar 1) sNil)) sNil))) (dSeq (dIfS (dTest (dOp pGt (dCall pLen (dCons (dVar 2) dNil)) (dC (.int 16)))) dNever dNext) (dSeq (dIfS (dOr (dTest (dOp pEqP (dVar 2) (dTup dNil))) (dNot (dTest (dCall pAll (dCons (dOfL (dLc (iSeqD (dVar 2)) (g_map_of_1 R_tuple_of R_size_of R_tethers_of R_tie_in) dYes (e_map_of_1 R_tuple_of R_size_of R_tethers_of R_tie_in) [5])) dNil))))) dNever dNext) (dSeq (dSetL 4 dNil) (dSeq (dFor (iSeqD (dVar 2)) (g_map_of_L1 R_tuple_of R_size_of R_tethers_of R_tie_in) (t_map_of_L1 R_tuple_of R_size_of R_tethers_of R_tie_in)) (dFrz 4 (dRet (dCall pTuple (dCons (dVar 4) dNil)))))))))
theorem a_map_of {w : World} {K : PySem.W.Frag} {mg : Str → Option Value} {base : Heap} (z : Fx K mg) {k : Nat} {R_tuple_of R_size_of R_tethers_of R_tie_in : RD} (C_tuple_of : CA w K mg base k "tuple_of" ["thing"] R_tuple_of) (C_size_of : CA w K mg base k "size_of" ["style", "text"] R_size_of) (C_tethers_of : CA w K mg base k "tethers_of" ["style", "size", "area"] R_tethers_of) (C_tie_in : CA w K mg base k "tie_in" ["feature"] R_tie_in) (f : Addr) (cdv : Value) (A : Around) (outer : List Env) (s : Shared) (H : Hp) (E : XK) (hr : Room k (A.deeper (envOfC "map_of" (defScope (topS 39)) s.heap.objs.size f cdv))) :
    ∃ ts, AB (cxOf CX0 PR w K mg base ["page", "styles", "own", "told", "found", "feature", "style", "size"] "map_of" (defScope (topS 39)) f cdv A outer s H E).nox (defBody (topS 39)) ts (t_map_of R_tuple_of R_size_of R_tethers_of R_tie_in) := by
  obtain ⟨tM, hM⟩ := z.most
  exact ⟨_, (ab_cons (as_unp 2 3 (by rfl) (by exact sc_map_of.nd) (ak_d (ae_call C_tuple_of hr (aa_cons (ae_var 0) aa_nil)) (ak_d (ae_call C_tuple_of hr (aa_cons (ae_var 1) aa_nil)) ak_nil))) (ab_cons (as_if (at_cmp od_gt (ae_callB cd_len (by rfl) (by exact z.free 77) (by decide +kernel) (ad_cons (ae_var 2) ad_nil)) (ae_glob (v := .int 16) (u := .int 16 tM) (by rfl) (by exact hM) (by exact ⟨tM, rfl⟩) (fun _ => .int 16)) (nomark _)) (ab_one as_never) ab_nil) (ab_cons (as_if (AW.at_ (aw_or (at_cmp (od_eqP hr.units) (ae_var 2) (ae_tup ad_nil) (nomark _)) (aw_or1 (at_not (at_val (ae_callB (cd_all (by rfl)) (by rfl) (by exact z.free 82) (by decide +kernel) (ad_cons (AL.ae (al_lcE (by rfl) (by exact sc_map_of.nd) (own := [("feature", 5)]) (blkOk_by (by kernel_rfl)) rfl (ai_seq (ae_var 2)) (fun _ _ _ _ _ => ⟨_, (ag_name 5 (by exact sc_map_of.nd))⟩) (fun _ _ _ _ _ => ⟨_, ats_nil⟩) (fun _ _ _ _ _ => ⟨_, (ae_cmp od_lt (ae_ix (ae_var 5) ae_int) (ae_callB cd_len (by rfl) (by exact z.free 77) (by decide +kernel) (ad_cons (ae_var 3) ad_nil)) (nomark _))⟩))) ad_nil))))))) (ab_one as_never) ab_nil) (ab_cons (as_setL 4 (by exact sc_map_of.nd) (al_lst ad_nil)) (ab_cons (as_for (by rfl) (by rfl) (ai_seq (ae_var 2)) (ag_name 5 (by exact sc_map_of.nd)) (ab_cons (as_set 6 (by exact sc_map_of.nd) (ae_ix (ae_var 3) (ae_ix (ae_var 5) ae_int))) (ab_cons (as_set 7 (by exact sc_map_of.nd) (ae_call C_size_of hr (aa_cons (ae_var 6) (aa_cons (ae_ix (ae_var 5) ae_int) aa_nil)))) (ab_one (as_app 4 (ae_op od_catT (ae_var 7) (ae_call C_tethers_of hr (aa_cons (ae_var 6) (aa_cons (ae_var 7) (aa_cons (ae_call C_tie_in hr (aa_cons (ae_var 5) aa_nil)) aa_nil)))))))))) (ab_frz 4 (ab_one (as_ret (ae_callTy cd_tuple (by rfl) (by exact z.free 73) (by decide +kernel) (ad_cons (ae_var 4) ad_nil))))))))))⟩
/-! ### part_of: 0 chart, 1 lot, 2 own, 3 name -/
theorem sc_part_of : FnScope ["chart", "lot", "own", "name"] ["chart", "lot"] (defScope (topS 40)) := ⟨rfl, rfl, rfl, by decide +kernel, rfl, by decide +kernel, by decide +kernel⟩
def g_part_of_1 (R_tuple_of : RD) : DG := (dgName 3)
def e_part_of_1 (R_tuple_of : RD) : DE := (dOp pIx (dVar 2) (dVar 3))
def t_part_of (R_tuple_of : RD) : DS := (dSeq (dSet 2 (dFn R_tuple_of (sCons (dVar 0) sNil))) (dSeq (dIfS (dTest (dOp pEq (dCall pLen (dCons (dVar 1) dNil)) (dC (.int 0)))) dNever dNext) (dRet (dCall pTuple (dCons (dOfL (dLc (iSeqD (dVar 1)) (g_part_of_1 R_tuple_of) dYes (e_part_of_1 R_tuple_of) [3])) dNil)))))
theorem a_part_of {w : World} {K : PySem.W.Frag} {mg : Str → Option Value} {base : Heap} (z : Fx K mg) {k : Nat} {R_tuple_of : RD} (C_tuple_of : CA w K mg base k "tuple_of" ["thing"] R_tuple_of) (f : Addr) (cdv : Value) (A : Around) (outer : List Env) (s : Shared) (H : Hp) (E : XK) (hr : Room k (A.deeper (envOfC "part_of" (defScope (topS 40)) s.heap.objs.size f cdv))) :
    ∃ ts, AB (cxOf CX0 PR w K mg base ["chart", "lot", "own", "name"] "part_of" (defScope (topS 40)) f cdv A outer s H E).nox (defBody (topS 40)) ts (t_part_of R_tuple_of) := by
  exact ⟨_, (ab_cons (as_set 2 (by exact sc_part_of.nd) (ae_call C_tuple_of hr (aa_cons (ae_var 0) aa_nil))) (ab_cons (as_if (at_cmp od_eq (ae_callB cd_len (by rfl) (by exact z.free 77) (by decide +kernel) (ad_cons (ae_var 1) ad_nil)) ae_int (nomark _)) (ab_one as_never) ab_nil) (ab_one (as_ret (ae_callTy cd_tuple (by rfl) (by exact z.free 73) (by decide +kernel) (ad_cons (AL.ae (al_lcE (by rfl) (by exact sc_part_of.nd) (own := [("name", 3)]) (blkOk_by (by kernel_rfl)) rfl (ai_seq (ae_var 1)) (fun _ _ _ _ _ => ⟨_, (ag_name 3 (by exact sc_part_of.nd))⟩) (fun _ _ _ _ _ => ⟨_, ats_nil⟩) (fun _ _ _ _ _ => ⟨_, (ae_ix (ae_var 2) (ae_var 3))⟩))) ad_nil))))))⟩
/-! ### joined: 0 chart, 1 other -/
theorem sc_joined : FnScope ["chart", "other"] ["chart", "other"] (defScope (topS 41)) := ⟨rfl, rfl, rfl, by decide +kernel, rfl, by decide +kernel, by decide +kernel⟩
def t_joined (R_tuple_of : RD) : DS := (dRet (dOp pCatT (dFn R_tuple_of (sCons (dVar 0) sNil)) (dFn R_tuple_of (sCons (dVar 1) sNil))))
theorem a_joined {w : World} {K : PySem.W.Frag} {mg : Str → Option Value} {base : Heap} (z : Fx K mg) {k : Nat} {R_tuple_of : RD} (C_tuple_of : CA w K mg base k "tuple_of" ["thing"] R_tuple_of) (f : Addr) (cdv : Value) (A : Around) (outer : List Env) (s : Shared) (H : Hp) (E : XK) (hr : Room k (A.deeper (envOfC "joined" (defScope (topS 41)) s.heap.objs.size f cdv))) :
    ∃ ts, AB (cxOf CX0 PR w K mg base ["chart", "other"] "joined" (defScope (topS 41)) f cdv A outer s H E).nox (defBody (topS 41)) ts (t_joined R_tuple_of) := by
  exact ⟨_, (ab_one (as_ret (ae_op od_catT (ae_call C_tuple_of hr (aa_cons (ae_var 0) aa_nil)) (ae_call C_tuple_of hr (aa_cons (ae_var 1) aa_nil)))))⟩
/-! ### tether_turned: 0 tether, 1 size, 2 a, 3 c, 4 b, 5 d -/
theorem sc_tether_turned : FnScope ["tether", "size", "a", "c", "b", "d"] ["tether", "size"] (defScope (topS 42)) := ⟨rfl, rfl, rfl, by decide +kernel, rfl, by decide +kernel, by decide +kernel⟩
def t_tether_turned : DS := (dSeq (dAsg (dVar 0) (dgTup 4 (dgCons (dgName 2) (dgCons (dgName 3) (dgCons (dgName 4) (dgCons (dgName 5) dgNil)))))) (dRet (dTup (dCons (dOp pSub (dC (.int 0)) (dVar 4)) (dCons (dOp pAdd (dVar 5) (dVar 1)) (dCons (dOp pSub (dC (.int 0)) (dVar 2)) (dCons (dOp pSub (dVar 3) (dVar 1)) dNil)))))))
theorem a_tether_turned {w : World} {K : PySem.W.Frag} {mg : Str → Option Value} {base : Heap} (z : Fx K mg) {k : Nat} (f : Addr) (cdv : Value) (A : Around) (outer : List Env) (s : Shared) (H : Hp) (E : XK) (hr : Room k (A.deeper (envOfC "tether_turned" (defScope (topS 42)) s.heap.objs.size f cdv))) :
    ∃ ts, AB (cxOf CX0 PR w K mg base ["tether", "size", "a", "c", "b", "d"] "tether_turned" (defScope (topS 42)) f cdv A outer s H E).nox (defBody (topS 42)) ts (t_tether_turned) := by
  exact ⟨_, (ab_cons (as_asg (ae_var 0) (ag_tup (by rfl) (ags_cons (ag_name 2 (by exact sc_tether_turned.nd)) (ags_cons (ag_name 3 (by exact sc_tether_turned.nd)) (ags_cons (ag_name 4 (by exact sc_tether_turned.nd)) (ags_cons (ag_name 5 (by exact sc_tether_turned.nd)) ags_nil)))))) (ab_one (as_ret (ae_tup (ad_cons (ae_op od_sub ae_int (ae_var 4)) (ad_cons (ae_op od_add (ae_var 5) (ae_var 1)) (ad_cons (ae_op od_sub ae_int (ae_var 2)) (ad_cons (ae_op od_sub (ae_var 3) (ae_var 1)) ad_nil))))))))⟩
/-! ### turned: 0 chart, 1 found, 2 width, 3 height, 4 across, 5 down -/
theorem sc_turned : FnScope ["chart", "found", "width", "height", "across", "down"] ["chart"] (defScope (topS 43)) := ⟨rfl, rfl, rfl, by decide +kernel, rfl, by decide +kernel, by decide +kernel⟩
def g_turned_L1 (R_tuple_of R_tether_turned : RD) : DG := (dgTup 4 (dgCons (dgName 2) (dgCons (dgName 3) (dgCons (dgName 4) (dgCons (dgName 5) dgNil)))))
def t_turned_L1 (R_tuple_of R_tether_turned : RD) : DS := (dApp 1 (dTup (dCons (dVar 2) (dCons (dVar 3) (dCons (dFn R_tether_turned (sCons (dVar 4) (sCons (dVar 2) sNil))) (dCons (dFn R_tether_turned (sCons (dVar 5) (sCons (dVar 3) sNil))) dNil))))))
def t_turned (R_tuple_of R_tether_turned : RD) : DS := (dSeq (dSetL 1 dNil) (dSeq (dFor (iSeqD (dRev (dFn R_tuple_of (sCons (dVar 0) sNil)))) (g_turned_L1 R_tuple_of R_tether_turned) (t_turned_L1 R_tuple_of R_tether_turned)) (dFrz 1 (dRet (dCall pTuple (dCons (dVar 1) dNil))))))
theorem a_turned {w : World} {K : PySem.W.Frag} {mg : Str → Option Value} {base : Heap} (z : Fx K mg) {k : Nat} {R_tuple_of R_tether_turned : RD} (C_tuple_of : CA w K mg base k "tuple_of" ["thing"] R_tuple_of) (C_tether_turned : CA w K mg base k "tether_turned" ["tether", "size"] R_tether_turned) (f : Addr) (cdv : Value) (A : Around) (outer : List Env) (s : Shared) (H : Hp) (E : XK) (hr : Room k (A.deeper (envOfC "turned" (defScope (topS 43)) s.heap.objs.size f cdv))) :
    ∃ ts, AB (cxOf CX0 PR w K mg base ["chart", "found", "width", "height", "across", "down"] "turned" (defScope (topS 43)) f cdv A outer s H E).nox (defBody (topS 43)) ts (t_turned R_tuple_of R_tether_turned) := by
  exact ⟨_, (ab_cons (as_setL 1 (by exact sc_turned.nd) (al_lst ad_nil)) (ab_cons (as_for (by rfl) (by rfl) (ai_seq (ae_rev (ae_call C_tuple_of hr (aa_cons (ae_var 0) aa_nil)))) (ag_tup (by rfl) (ags_cons (ag_name 2 (by exact sc_turned.nd)) (ags_cons (ag_name 3 (by exact sc_turned.nd)) (ags_cons (ag_name 4 (by exact sc_turned.nd)) (ags_cons (ag_name 5 (by exact sc_turned.nd)) ags_nil))))) (ab_one (as_app 1 (ae_tup (ad_cons (ae_var 2) (ad_cons (ae_var 3) (ad_cons (ae_call C_tether_turned hr (aa_cons (ae_var 4) (aa_cons (ae_var 2) aa_nil))) (ad_cons (ae_call C_tether_turned hr (aa_cons (ae_var 5) (aa_cons (ae_var 3) aa_nil))) ad_nil)))))))) (ab_frz 1 (ab_one (as_ret (ae_callTy cd_tuple (by rfl) (by exact z.free 73) (by decide +kernel) (ad_cons (ae_var 1) ad_nil)))))))⟩
/-! ### sides_turned: 0 sides, 1 own, 2 found, 3 last, 4 other, 5 one -/
theorem sc_sides_turned : FnScope ["sides", "own", "found", "last", "other", "one"] ["sides"] (defScope (topS 44)) := ⟨rfl, rfl, rfl, by decide +kernel, rfl, by decide +kernel, by decide +kernel⟩
def g_sides_turned_1 (R_tuple_of : RD) : DG := (dgName 5)
def e_sides_turned_1 (R_tuple_of : RD) : DE := (dOp pIx (dOp pIx (dVar 1) (dOp pSub (dVar 3) (dVar 5))) (dOp pSub (dVar 3) (dVar 4)))
def g_sides_turned_L1 (R_tuple_of : RD) : DG := (dgName 4)
def t_sides_turned_L1 (R_tuple_of : RD) : DS := (dApp 2 (dCall pTuple (dCons (dOfL (dLc (iRng1D (dCons (dVar 4) dNil)) (g_sides_turned_1 R_tuple_of) dYes (e_sides_turned_1 R_tuple_of) [5])) dNil)))
def t_sides_turned (R_tuple_of : RD) : DS := (dSeq (dPar [1, 2] (kCons (dFn R_tuple_of (sCons (dVar 0) sNil)) (kConsL dNil sNil))) (dSeq (dSet 3 (dOp pSub (dCall pLen (dCons (dVar 1) dNil)) (dC (.int 1)))) (dSeq (dFor (iRng1D (dCons (dCall pLen (dCons (dVar 1) dNil)) dNil)) (g_sides_turned_L1 R_tuple_of) (t_sides_turned_L1 R_tuple_of)) (dFrz 2 (dRet (dCall pTuple (dCons (dVar 2) dNil)))))))
theorem a_sides_turned {w : World} {K : PySem.W.Frag} {mg : Str → Option Value} {base : Heap} (z : Fx K mg) {k : Nat} {R_tuple_of : RD} (C_tuple_of : CA w K mg base k "tuple_of" ["thing"] R_tuple_of) (f : Addr) (cdv : Value) (A : Around) (outer : List Env) (s : Shared) (H : Hp) (E : XK) (hr : Room k (A.deeper (envOfC "sides_turned" (defScope (topS 44)) s.heap.objs.size f cdv))) :
    ∃ ts, AB (cxOf CX0 PR w K mg base ["sides", "own", "found", "last", "other", "one"] "sides_turned" (defScope (topS 44)) f cdv A outer s H E).nox (defBody (topS 44)) ts (t_sides_turned R_tuple_of) := by
  exact ⟨_, (ab_cons (as_unp 1 2 (by rfl) (by exact sc_sides_turned.nd) (ak_d (ae_call C_tuple_of hr (aa_cons (ae_var 0) aa_nil)) (ak_l (al_lst ad_nil) ak_nil))) (ab_cons (as_set 3 (by exact sc_sides_turned.nd) (ae_op od_sub (ae_callB cd_len (by rfl) (by exact z.free 77) (by decide +kernel) (ad_cons (ae_var 1) ad_nil)) ae_int)) (ab_cons (as_for (by rfl) (by rfl) (ai_range1 (by rfl) (by exact z.free 83) (ad_cons (ae_callB cd_len (by rfl) (by exact z.free 77) (by decide +kernel) (ad_cons (ae_var 1) ad_nil)) ad_nil)) (ag_name 4 (by exact sc_sides_turned.nd)) (ab_one (as_app 2 (ae_callTy cd_tuple (by rfl) (by exact z.free 73) (by decide +kernel) (ad_cons (AL.ae (al_lcE (by rfl) (by exact sc_sides_turned.nd) (own := [("one", 5)]) (blkOk_by (by kernel_rfl)) rfl (ai_range1 (by rfl) (by exact z.free 83) (ad_cons (ae_var 4) ad_nil)) (fun _ _ _ _ _ => ⟨_, (ag_name 5 (by exact sc_sides_turned.nd))⟩) (fun _ _ _ _ _ => ⟨_, ats_nil⟩) (fun _ _ _ _ _ => ⟨_, (ae_ix (ae_ix (ae_var 1) (ae_op od_sub (ae_var 3) (ae_var 5))) (ae_op od_sub (ae_var 3) (ae_var 4)))⟩))) ad_nil))))) (ab_frz 2 (ab_one (as_ret (ae_callTy cd_tuple (by rfl) (by exact z.free 73) (by decide +kernel) (ad_cons (ae_var 2) ad_nil))))))))⟩
/-! ### place_turned: 0 chart, 1 name, 2 place, 3 own, 4 axis -/
theorem sc_place_turned : FnScope ["chart", "name", "place", "own", "axis"] ["chart", "name", "place"] (defScope (topS 45)) := ⟨rfl, rfl, rfl, by decide +kernel, rfl, by decide +kernel, by decide +kernel⟩
def g_place_turned_1 (R_sure_name R_tuple_of R_minus R_plus : RD) : DG := (dgName 4)
def e_place_turned_1 (R_sure_name R_tuple_of R_minus R_plus : RD) : DE := (dFn R_minus (sCons (dC (.tup [.int 0, .int 1])) (sCons (dFn R_plus (sCons (dFn R_tuple_of (sCons (dOp pIx (dVar 2) (dVar 4)) sNil)) (sCons (dTup (dCons (dOp pIx (dVar 3) (dVar 4)) (dCons (dC (.int 1)) dNil))) sNil))) sNil)))
def t_place_turned (R_sure_name R_tuple_of R_minus R_plus : RD) : DS := (dSeq (dSet 3 (dFn R_sure_name (sCons (dFn R_tuple_of (sCons (dVar 0) sNil)) (sCons (dVar 1) sNil)))) (dRet (dCall pTuple (dCons (dOfL (dLc (iSeqD (dTup (dCons (dC (.int 0)) (dCons (dC (.int 1)) dNil)))) (g_place_turned_1 R_sure_name R_tuple_of R_minus R_plus) dYes (e_place_turned_1 R_sure_name R_tuple_of R_minus R_plus) [4])) dNil))))
theorem a_place_turned {w : World} {K : PySem.W.Frag} {mg : Str → Option Value} {base : Heap} (z : Fx K mg) {k : Nat} {R_sure_name R_tuple_of R_minus R_plus : RD} (C_sure_name : CA w K mg base k "sure_name" ["chart", "name"] R_sure_name) (C_tuple_of : CA w K mg base k "tuple_of" ["thing"] R_tuple_of) (C_minus : CA w K mg base k "minus" ["one", "other"] R_minus) (C_plus : CA w K mg base k "plus" ["one", "other"] R_plus) (f : Addr) (cdv : Value) (A : Around) (outer : List Env) (s : Shared) (H : Hp) (E : XK) (hr : Room k (A.deeper (envOfC "place_turned" (defScope (topS 45)) s.heap.objs.size f cdv))) :
    ∃ ts, AB (cxOf CX0 PR w K mg base ["chart", "name", "place", "own", "axis"] "place_turned" (defScope (topS 45)) f cdv A outer s H E).nox (defBody (topS 45)) ts (t_place_turned R_sure_name R_tuple_of R_minus R_plus) := by
  obtain ⟨aN, hN1, hN2⟩ := z.nought
  exact ⟨_, (ab_cons (as_set 3 (by exact sc_place_turned.nd) (ae_call C_sure_name hr (aa_cons (ae_call C_tuple_of hr (aa_cons (ae_var 0) aa_nil)) (aa_cons (ae_var 1) aa_nil)))) (ab_one (as_ret (ae_callTy cd_tuple (by rfl) (by exact z.free 73) (by decide +kernel) (ad_cons (AL.ae (al_lcE (by rfl) (by exact sc_place_turned.nd) (own := [("axis", 4)]) (blkOk_by (by kernel_rfl)) rfl (ai_seq (ae_tup (ad_cons ae_int (ad_cons ae_int ad_nil)))) (fun _ _ _ _ _ => ⟨_, (ag_name 4 (by exact sc_place_turned.nd))⟩) (fun _ _ _ _ _ => ⟨_, ats_nil⟩) (fun _ _ _ _ _ => ⟨_, (ae_call C_minus hr (aa_cons (ae_nought (a := aN) (by rfl) (by exact hN1) (by exact hN2)) (aa_cons (ae_call C_plus hr (aa_cons (ae_call C_tuple_of hr (aa_cons (ae_ix (ae_var 2) (ae_var 4)) aa_nil)) (aa_cons (ae_tup (ad_cons (ae_ix (ae_var 3) (ae_var 4)) (ad_cons ae_int ad_nil))) aa_nil))) aa_nil)))⟩))) ad_nil)))))⟩
/-! ### tether_by: 0 tether, 1 many, 2 more, 3 a, 4 c, 5 b, 6 d -/
theorem sc_tether_by : FnScope ["tether", "many", "more", "a", "c", "b", "d"] ["tether", "many", "more"] (defScope (topS 46)) := ⟨rfl, rfl, rfl, by decide +kernel, rfl, by decide +kernel, by decide +kernel⟩
def t_tether_by : DS := (dSeq (dAsg (dVar 0) (dgTup 4 (dgCons (dgName 3) (dgCons (dgName 4) (dgCons (dgName 5) (dgCons (dgName 6) dgNil)))))) (dRet (dTup (dCons (dOp pAdd (dOp pMul (dVar 1) (dVar 3)) (dVar 2)) (dCons (dVar 4) (dCons (dOp pAdd (dOp pMul (dVar 1) (dVar 5)) (dVar 2)) (dCons (dVar 6) dNil)))))))
theorem a_tether_by {w : World} {K : PySem.W.Frag} {mg : Str → Option Value} {base : Heap} (z : Fx K mg) {k : Nat} (f : Addr) (cdv : Value) (A : Around) (outer : List Env) (s : Shared) (H : Hp) (E : XK) (hr : Room k (A.deeper (envOfC "tether_by" (defScope (topS 46)) s.heap.objs.size f cdv))) :
    ∃ ts, AB (cxOf CX0 PR w K mg base ["tether", "many", "more", "a", "c", "b", "d"] "tether_by" (defScope (topS 46)) f cdv A outer s H E).nox (defBody (topS 46)) ts (t_tether_by) := by
  exact ⟨_, (ab_cons (as_asg (ae_var 0) (ag_tup (by rfl) (ags_cons (ag_name 3 (by exact sc_tether_by.nd)) (ags_cons (ag_name 4 (by exact sc_tether_by.nd)) (ags_cons (ag_name 5 (by exact sc_tether_by.nd)) (ags_cons (ag_name 6 (by exact sc_tether_by.nd)) ags_nil)))))) (ab_one (as_ret (ae_tup (ad_cons (ae_op od_add (ae_op od_mul (ae_var 1) (ae_var 3)) (ae_var 2)) (ad_cons (ae_var 4) (ad_cons (ae_op od_add (ae_op od_mul (ae_var 1) (ae_var 5)) (ae_var 2)) (ad_cons (ae_var 6) ad_nil))))))))⟩
end DL

namespace DL
open PySem PySem.Spec PyProof.Rows L2 Gn

/-! ### map_moved: 0 chart, 1 across, 2 down, 3 own -/
theorem sc_map_moved : FnScope ["chart", "across", "down", "own"] ["chart", "across", "down"] (defScope (topS 47)) := ⟨rfl, rfl, rfl, by decide +kernel, rfl, by decide +kernel, by decide +kernel⟩
def g_map_moved_1 (R_tuple_of R_tether_by : RD) : DG := (dgName 3)
def e_map_moved_1 (R_tuple_of R_tether_by : RD) : DE := (dOp pCatT (dSl (dVar 3) dNoPart (dPart (dC (.int 2)))) (dTup (dCons (dFn R_tether_by (sCons (dOp pIx (dVar 3) (dC (.int 2))) (sCons (dC (.int 1)) (sCons (dVar 1) sNil)))) (dCons (dFn R_tether_by (sCons (dOp pIx (dVar 3) (dC (.int 3))) (sCons (dC (.int 1)) (sCons (dVar 2) sNil)))) dNil))))
def t_map_moved (R_tuple_of R_tether_by : RD) : DS := (dRet (dCall pTuple (dCons (dOfL (dLc (iSeqD (dFn R_tuple_of (sCons (dVar 0) sNil))) (g_map_moved_1 R_tuple_of R_tether_by) dYes (e_map_moved_1 R_tuple_of R_tether_by) [3])) dNil)))
theorem a_map_moved {w : World} {K : PySem.W.Frag} {mg : Str → Option Value} {base : Heap} (z : Fx K mg) {k : Nat} {R_tuple_of R_tether_by : RD} (C_tuple_of : CA w K mg base k "tuple_of" ["thing"] R_tuple_of) (C_tether_by : CA w K mg base k "tether_by" ["tether", "many", "more"] R_tether_by) (f : Addr) (cdv : Value) (A : Around) (outer : List Env) (s : Shared) (H : Hp) (E : XK) (hr : Room k (A.deeper (envOfC "map_moved" (defScope (topS 47)) s.heap.objs.size f cdv))) :
    ∃ ts, AB (cxOf CX0 PR w K mg base ["chart", "across", "down", "own"] "map_moved" (defScope (topS 47)) f cdv A outer s H E).nox (defBody (topS 47)) ts (t_map_moved R_tuple_of R_tether_by) := by
  exact ⟨_, (ab_one (as_ret (ae_callTy cd_tuple (by rfl) (by exact z.free 73) (by decide +kernel) (ad_cons (AL.ae (al_lcE (by rfl) (by exact sc_map_moved.nd) (own := [("own", 3)]) (blkOk_by (by kernel_rfl)) rfl (ai_seq (ae_call C_tuple_of hr (aa_cons (ae_var 0) aa_nil))) (fun _ _ _ _ _ => ⟨_, (ag_name 3 (by exact sc_map_moved.nd))⟩) (fun _ _ _ _ _ => ⟨_, ats_nil⟩) (fun _ _ _ _ _ => ⟨_, (ae_op od_catT (ae_slice (ae_var 3) ao_none (ao_some ae_int)) (ae_tup (ad_cons (ae_call C_tether_by hr (aa_cons (ae_ix (ae_var 3) ae_int) (aa_cons ae_int (aa_cons (ae_var 1) aa_nil)))) (ad_cons (ae_call C_tether_by hr (aa_cons (ae_ix (ae_var 3) ae_int) (aa_cons ae_int (aa_cons (ae_var 2) aa_nil)))) ad_nil))))⟩))) ad_nil))))⟩
/-! ### spread: 0 chart, 1 many, 2 own -/
theorem sc_spread : FnScope ["chart", "many", "own"] ["chart", "many"] (defScope (topS 48)) := ⟨rfl, rfl, rfl, by decide +kernel, rfl, by decide +kernel, by decide +kernel⟩
def g_spread_1 (R_tuple_of R_tether_by : RD) : DG := (dgName 2)
def e_spread_1 (R_tuple_of R_tether_by : RD) : DE := (dOp pCatT (dSl (dVar 2) dNoPart (dPart (dC (.int 2)))) (dTup (dCons (dFn R_tether_by (sCons (dOp pIx (dVar 2) (dC (.int 2))) (sCons (dVar 1) (sCons (dC (.int 0)) sNil)))) (dCons (dFn R_tether_by (sCons (dOp pIx (dVar 2) (dC (.int 3))) (sCons (dVar 1) (sCons (dC (.int 0)) sNil)))) dNil))))
def t_spread (R_tuple_of R_tether_by : RD) : DS := (dRet (dCall pTuple (dCons (dOfL (dLc (iSeqD (dFn R_tuple_of (sCons (dVar 0) sNil))) (g_spread_1 R_tuple_of R_tether_by) dYes (e_spread_1 R_tuple_of R_tether_by) [2])) dNil)))
theorem a_spread {w : World} {K : PySem.W.Frag} {mg : Str → Option Value} {base : Heap} (z : Fx K mg) {k : Nat} {R_tuple_of R_tether_by : RD} (C_tuple_of : CA w K mg base k "tuple_of" ["thing"] R_tuple_of) (C_tether_by : CA w K mg base k "tether_by" ["tether", "many", "more"] R_tether_by) (f : Addr) (cdv : Value) (A : Around) (outer : List Env) (s : Shared) (H : Hp) (E : XK) (hr : Room k (A.deeper (envOfC "spread" (defScope (topS 48)) s.heap.objs.size f cdv))) :
    ∃ ts, AB (cxOf CX0 PR w K mg base ["chart", "many", "own"] "spread" (defScope (topS 48)) f cdv A outer s H E).nox (defBody (topS 48)) ts (t_spread R_tuple_of R_tether_by) := by
  exact ⟨_, (ab_one (as_ret (ae_callTy cd_tuple (by rfl) (by exact z.free 73) (by decide +kernel) (ad_cons (AL.ae (al_lcE (by rfl) (by exact sc_spread.nd) (own := [("own", 2)]) (blkOk_by (by kernel_rfl)) rfl (ai_seq (ae_call C_tuple_of hr (aa_cons (ae_var 0) aa_nil))) (fun _ _ _ _ _ => ⟨_, (ag_name 2 (by exact sc_spread.nd))⟩) (fun _ _ _ _ _ => ⟨_, ats_nil⟩) (fun _ _ _ _ _ => ⟨_, (ae_op od_catT (ae_slice (ae_var 2) ao_none (ao_some ae_int)) (ae_tup (ad_cons (ae_call C_tether_by hr (aa_cons (ae_ix (ae_var 2) ae_int) (aa_cons (ae_var 1) (aa_cons ae_int aa_nil)))) (ad_cons (ae_call C_tether_by hr (aa_cons (ae_ix (ae_var 2) ae_int) (aa_cons (ae_var 1) (aa_cons ae_int aa_nil)))) ad_nil))))⟩))) ad_nil))))⟩
/-! ### tether_sized: 0 tether, 1 many, 2 a, 3 c, 4 b, 5 d -/
theorem sc_tether_sized : FnScope ["tether", "many", "a", "c", "b", "d"] ["tether", "many"] (defScope (topS 49)) := ⟨rfl, rfl, rfl, by decide +kernel, rfl, by decide +kernel, by decide +kernel⟩
def t_tether_sized : DS := (dSeq (dAsg (dVar 0) (dgTup 4 (dgCons (dgName 2) (dgCons (dgName 3) (dgCons (dgName 4) (dgCons (dgName 5) dgNil)))))) (dRet (dTup (dCons (dVar 2) (dCons (dOp pMul (dVar 1) (dVar 3)) (dCons (dVar 4) (dCons (dOp pMul (dVar 1) (dVar 5)) dNil)))))))
theorem a_tether_sized {w : World} {K : PySem.W.Frag} {mg : Str → Option Value} {base : Heap} (z : Fx K mg) {k : Nat} (f : Addr) (cdv : Value) (A : Around) (outer : List Env) (s : Shared) (H : Hp) (E : XK) (hr : Room k (A.deeper (envOfC "tether_sized" (defScope (topS 49)) s.heap.objs.size f cdv))) :
    ∃ ts, AB (cxOf CX0 PR w K mg base ["tether", "many", "a", "c", "b", "d"] "tether_sized" (defScope (topS 49)) f cdv A outer s H E).nox (defBody (topS 49)) ts (t_tether_sized) := by
  exact ⟨_, (ab_cons (as_asg (ae_var 0) (ag_tup (by rfl) (ags_cons (ag_name 2 (by exact sc_tether_sized.nd)) (ags_cons (ag_name 3 (by exact sc_tether_sized.nd)) (ags_cons (ag_name 4 (by exact sc_tether_sized.nd)) (ags_cons (ag_name 5 (by exact sc_tether_sized.nd)) ags_nil)))))) (ab_one (as_ret (ae_tup (ad_cons (ae_var 2) (ad_cons (ae_op od_mul (ae_var 1) (ae_var 3)) (ad_cons (ae_var 4) (ad_cons (ae_op od_mul (ae_var 1) (ae_var 5)) ad_nil))))))))⟩
/-! ### sized: 0 chart, 1 many, 2 found, 3 width, 4 height, 5 across, 6 down -/
theorem sc_sized : FnScope ["chart", "many", "found", "width", "height", "across", "down"] ["chart", "many"] (defScope (topS 50)) := ⟨rfl, rfl, rfl, by decide +kernel, rfl, by decide +kernel, by decide +kernel⟩
def g_sized_L1 (R_tuple_of R_tether_sized : RD) : DG := (dgTup 4 (dgCons (dgName 3) (dgCons (dgName 4) (dgCons (dgName 5) (dgCons (dgName 6) dgNil)))))
def t_sized_L1 (R_tuple_of R_tether_sized : RD) : DS := (dApp 2 (dTup (dCons (dOp pMul (dVar 1) (dVar 3)) (dCons (dOp pMul (dVar 1) (dVar 4)) (dCons (dFn R_tether_sized (sCons (dVar 5) (sCons (dVar 1) sNil))) (dCons (dFn R_tether_sized (sCons (dVar 6) (sCons (dVar 1) sNil))) dNil))))))
def t_sized (R_tuple_of R_tether_sized : RD) : DS := (dSeq (dSetL 2 dNil) (dSeq (dFor (iSeqD (dFn R_tuple_of (sCons (dVar 0) sNil))) (g_sized_L1 R_tuple_of R_tether_sized) (t_sized_L1 R_tuple_of R_tether_sized)) (dFrz 2 (dRet (dCall pTuple (dCons (dVar 2) dNil))))))
theorem a_sized {w : World} {K : PySem.W.Frag} {mg : Str → Option Value} {base : Heap} (z : Fx K mg) {k : Nat} {R_tuple_of R_tether_sized : RD} (C_tuple_of : CA w K mg base k "tuple_of" ["thing"] R_tuple_of) (C_tether_sized : CA w K mg base k "tether_sized" ["tether", "many"] R_tether_sized) (f : Addr) (cdv : Value) (A : Around) (outer : List Env) (s : Shared) (H : Hp) (E : XK) (hr : Room k (A.deeper (envOfC "sized" (defScope (topS 50)) s.heap.objs.size f cdv))) :
    ∃ ts, AB (cxOf CX0 PR w K mg base ["chart", "many", "found", "width", "height", "across", "down"] "sized" (defScope (topS 50)) f cdv A outer s H E).nox (defBody (topS 50)) ts (t_sized R_tuple_of R_tether_sized) := by
  exact ⟨_, (ab_cons (as_setL 2 (by exact sc_sized.nd) (al_lst ad_nil)) (ab_cons (as_for (by rfl) (by rfl) (ai_seq (ae_call C_tuple_of hr (aa_cons (ae_var 0) aa_nil))) (ag_tup (by rfl) (ags_cons (ag_name 3 (by exact sc_sized.nd)) (ags_cons (ag_name 4 (by exact sc_sized.nd)) (ags_cons (ag_name 5 (by exact sc_sized.nd)) (ags_cons (ag_name 6 (by exact sc_sized.nd)) ags_nil))))) (ab_one (as_app 2 (ae_tup (ad_cons (ae_op od_mul (ae_var 1) (ae_var 3)) (ad_cons (ae_op od_mul (ae_var 1) (ae_var 4)) (ad_cons (ae_call C_tether_sized hr (aa_cons (ae_var 5) (aa_cons (ae_var 1) aa_nil))) (ad_cons (ae_call C_tether_sized hr (aa_cons (ae_var 6) (aa_cons (ae_var 1) aa_nil))) ad_nil)))))))) (ab_frz 2 (ab_one (as_ret (ae_callTy cd_tuple (by rfl) (by exact z.free 73) (by decide +kernel) (ad_cons (ae_var 2) ad_nil)))))))⟩
/-! ### stretch_at: 0 chart, 1 name, 2 axis, 3 scale -/
theorem sc_stretch_at : FnScope ["chart", "name", "axis", "scale"] ["chart", "name", "axis", "scale"] (defScope (topS 51)) := ⟨rfl, rfl, rfl, by decide +kernel, rfl, by decide +kernel, by decide +kernel⟩
def t_stretch_at (R_on R_tuple_of R_sure_name : RD) : DS := (dRet (dFn R_on (sCons (dOp pIx (dFn R_sure_name (sCons (dFn R_tuple_of (sCons (dVar 0) sNil)) (sCons (dVar 1) sNil))) (dOp pAdd (dC (.int 2)) (dVar 2))) (sCons (dFn R_tuple_of (sCons (dVar 3) sNil)) sNil))))
theorem a_stretch_at {w : World} {K : PySem.W.Frag} {mg : Str → Option Value} {base : Heap} (z : Fx K mg) {k : Nat} {R_on R_tuple_of R_sure_name : RD} (C_on : CA w K mg base k "on" ["tether", "scale"] R_on) (C_tuple_of : CA w K mg base k "tuple_of" ["thing"] R_tuple_of) (C_sure_name : CA w K mg base k "sure_name" ["chart", "name"] R_sure_name) (f : Addr) (cdv : Value) (A : Around) (outer : List Env) (s : Shared) (H : Hp) (E : XK) (hr : Room k (A.deeper (envOfC "stretch_at" (defScope (topS 51)) s.heap.objs.size f cdv))) :
    ∃ ts, AB (cxOf CX0 PR w K mg base ["chart", "name", "axis", "scale"] "stretch_at" (defScope (topS 51)) f cdv A outer s H E).nox (defBody (topS 51)) ts (t_stretch_at R_on R_tuple_of R_sure_name) := by
  exact ⟨_, (ab_one (as_ret (ae_call C_on hr (aa_cons (ae_ix (ae_call C_sure_name hr (aa_cons (ae_call C_tuple_of hr (aa_cons (ae_var 0) aa_nil)) (aa_cons (ae_var 1) aa_nil))) (ae_op od_add ae_int (ae_var 2))) (aa_cons (ae_call C_tuple_of hr (aa_cons (ae_var 3) aa_nil)) aa_nil)))))⟩
/-! ### lets: 0 chart, 1 name, 2 scale, 3 place, 4 own, 5 here, 6 axis, 7 low, 8 high -/
theorem sc_lets : FnScope ["chart", "name", "scale", "place", "own", "here", "axis", "low", "high"] ["chart", "name", "scale", "place"] (defScope (topS 52)) := ⟨rfl, rfl, rfl, by decide +kernel, rfl, by decide +kernel, by decide +kernel⟩
def g_lets_L1 (R_sure_name R_tuple_of R_on R_is_less : RD) : DG := (dgName 6)
def t_lets_L1 (R_sure_name R_tuple_of R_on R_is_less : RD) : DS := (dSeq (dAsg (dFn R_on (sCons (dOp pIx (dVar 4) (dOp pAdd (dC (.int 2)) (dVar 6))) (sCons (dFn R_tuple_of (sCons (dVar 2) sNil)) sNil))) (dgTup 2 (dgCons (dgName 7) (dgCons (dgName 8) dgNil)))) (dIfS (dOr (dTest (dFn R_is_less (sCons (dOp pIx (dVar 5) (dVar 6)) (sCons (dVar 7) sNil)))) (dTest (dFn R_is_less (sCons (dVar 8) (sCons (dOp pIx (dVar 5) (dVar 6)) sNil))))) (dRet (dC (.bl false))) dNext))
def t_lets (R_sure_name R_tuple_of R_on R_is_less : RD) : DS := (dSeq (dPar [4, 5] (kCons (dFn R_sure_name (sCons (dFn R_tuple_of (sCons (dVar 0) sNil)) (sCons (dVar 1) sNil))) (kCons (dFn R_tuple_of (sCons (dVar 3) sNil)) sNil))) (dSeq (dFor (iSeqD (dTup (dCons (dC (.int 0)) (dCons (dC (.int 1)) dNil)))) (g_lets_L1 R_sure_name R_tuple_of R_on R_is_less) (t_lets_L1 R_sure_name R_tuple_of R_on R_is_less)) (dRet (dC (.bl true)))))
theorem a_lets {w : World} {K : PySem.W.Frag} {mg : Str → Option Value} {base : Heap} (z : Fx K mg) {k : Nat} {R_sure_name R_tuple_of R_on R_is_less : RD} (C_sure_name : CA w K mg base k "sure_name" ["chart", "name"] R_sure_name) (C_tuple_of : CA w K mg base k "tuple_of" ["thing"] R_tuple_of) (C_on : CA w K mg base k "on" ["tether", "scale"] R_on) (C_is_less : CA w K mg base k "is_less" ["one", "other"] R_is_less) (f : Addr) (cdv : Value) (A : Around) (outer : List Env) (s : Shared) (H : Hp) (E : XK) (hr : Room k (A.deeper (envOfC "lets" (defScope (topS 52)) s.heap.objs.size f cdv))) :
    ∃ ts, AB (cxOf CX0 PR w K mg base ["chart", "name", "scale", "place", "own", "here", "axis", "low", "high"] "lets" (defScope (topS 52)) f cdv A outer s H E).nox (defBody (topS 52)) ts (t_lets R_sure_name R_tuple_of R_on R_is_less) := by
  exact ⟨_, (ab_cons (as_par 4 5 (by rfl) (by exact sc_lets.nd) (ak_d (ae_call C_sure_name hr (aa_cons (ae_call C_tuple_of hr (aa_cons (ae_var 0) aa_nil)) (aa_cons (ae_var 1) aa_nil))) (ak_d (ae_call C_tuple_of hr (aa_cons (ae_var 3) aa_nil)) ak_nil))) (ab_cons (as_for (by rfl) (by rfl) (ai_seq (ae_tup (ad_cons ae_int (ad_cons ae_int ad_nil)))) (ag_name 6 (by exact sc_lets.nd)) (ab_cons (as_asg (ae_call C_on hr (aa_cons (ae_ix (ae_var 4) (ae_op od_add ae_int (ae_var 6))) (aa_cons (ae_call C_tuple_of hr (aa_cons (ae_var 2) aa_nil)) aa_nil))) (ag_tup (by rfl) (ags_cons (ag_name 7 (by exact sc_lets.nd)) (ags_cons (ag_name 8 (by exact sc_lets.nd)) ags_nil)))) (ab_one (as_if (AW.at_ (aw_or (at_val (ae_call C_is_less hr (aa_cons (ae_ix (ae_var 5) (ae_var 6)) (aa_cons (ae_var 7) aa_nil)))) (aw_or1 (at_val (ae_call C_is_less hr (aa_cons (ae_var 8) (aa_cons (ae_ix (ae_var 5) (ae_var 6)) aa_nil))))))) (ab_one (as_ret ae_bl)) ab_nil)))) (ab_one (as_ret ae_bl))))⟩
/-! ### box_in: 0 name, 1 place -/
theorem sc_box_in : FnScope ["name", "place"] ["name", "place"] (defScope (topS 53)) := ⟨rfl, rfl, rfl, by decide +kernel, rfl, by decide +kernel, by decide +kernel⟩
def t_box_in (R_plus : RD) : DS := (dRet (dOp pCatT (dVar 1) (dTup (dCons (dFn R_plus (sCons (dOp pIx (dVar 1) (dC (.int 0))) (sCons (dTup (dCons (dOp pIx (dVar 0) (dC (.int 0))) (dCons (dC (.int 1)) dNil))) sNil))) (dCons (dFn R_plus (sCons (dOp pIx (dVar 1) (dC (.int 1))) (sCons (dTup (dCons (dOp pIx (dVar 0) (dC (.int 1))) (dCons (dC (.int 1)) dNil))) sNil))) dNil)))))
theorem a_box_in {w : World} {K : PySem.W.Frag} {mg : Str → Option Value} {base : Heap} (z : Fx K mg) {k : Nat} {R_plus : RD} (C_plus : CA w K mg base k "plus" ["one", "other"] R_plus) (f : Addr) (cdv : Value) (A : Around) (outer : List Env) (s : Shared) (H : Hp) (E : XK) (hr : Room k (A.deeper (envOfC "box_in" (defScope (topS 53)) s.heap.objs.size f cdv))) :
    ∃ ts, AB (cxOf CX0 PR w K mg base ["name", "place"] "box_in" (defScope (topS 53)) f cdv A outer s H E).nox (defBody (topS 53)) ts (t_box_in R_plus) := by
  exact ⟨_, (ab_one (as_ret (ae_op od_catT (ae_var 1) (ae_tup (ad_cons (ae_call C_plus hr (aa_cons (ae_ix (ae_var 1) ae_int) (aa_cons (ae_tup (ad_cons (ae_ix (ae_var 0) ae_int) (ad_cons ae_int ad_nil))) aa_nil))) (ad_cons (ae_call C_plus hr (aa_cons (ae_ix (ae_var 1) ae_int) (aa_cons (ae_tup (ad_cons (ae_ix (ae_var 0) ae_int) (ad_cons ae_int ad_nil))) aa_nil))) ad_nil))))))⟩
/-! ### box_at: 0 chart, 1 name, 2 place -/
theorem sc_box_at : FnScope ["chart", "name", "place"] ["chart", "name", "place"] (defScope (topS 54)) := ⟨rfl, rfl, rfl, by decide +kernel, rfl, by decide +kernel, by decide +kernel⟩
def t_box_at (R_box_in R_tuple_of R_sure_name : RD) : DS := (dRet (dFn R_box_in (sCons (dFn R_sure_name (sCons (dFn R_tuple_of (sCons (dVar 0) sNil)) (sCons (dVar 1) sNil))) (sCons (dFn R_tuple_of (sCons (dVar 2) sNil)) sNil))))
theorem a_box_at {w : World} {K : PySem.W.Frag} {mg : Str → Option Value} {base : Heap} (z : Fx K mg) {k : Nat} {R_box_in R_tuple_of R_sure_name : RD} (C_box_in : CA w K mg base k "box_in" ["name", "place"] R_box_in) (C_tuple_of : CA w K mg base k "tuple_of" ["thing"] R_tuple_of) (C_sure_name : CA w K mg base k "sure_name" ["chart", "name"] R_sure_name) (f : Addr) (cdv : Value) (A : Around) (outer : List Env) (s : Shared) (H : Hp) (E : XK) (hr : Room k (A.deeper (envOfC "box_at" (defScope (topS 54)) s.heap.objs.size f cdv))) :
    ∃ ts, AB (cxOf CX0 PR w K mg base ["chart", "name", "place"] "box_at" (defScope (topS 54)) f cdv A outer s H E).nox (defBody (topS 54)) ts (t_box_at R_box_in R_tuple_of R_sure_name) := by
  exact ⟨_, (ab_one (as_ret (ae_call C_box_in hr (aa_cons (ae_call C_sure_name hr (aa_cons (ae_call C_tuple_of hr (aa_cons (ae_var 0) aa_nil)) (aa_cons (ae_var 1) aa_nil))) (aa_cons (ae_call C_tuple_of hr (aa_cons (ae_var 2) aa_nil)) aa_nil)))))⟩
/-! ### do_cover: 0 chart, 1 name, 2 place, 3 other, 4 there, 5 own, 6 near, 7 far, 8 one, 9 two, 10 axis -/
theorem sc_do_cover : FnScope ["chart", "name", "place", "other", "there", "own", "near", "far", "one", "two", "axis"] ["chart", "name", "place", "other", "there"] (defScope (topS 55)) := ⟨rfl, rfl, rfl, by decide +kernel, rfl, by decide +kernel, by decide +kernel⟩
def g_do_cover_1 (R_tuple_of R_sure_name R_box_in R_is_less : RD) : DG := (dgName 10)
def e_do_cover_1 (R_tuple_of R_sure_name R_box_in R_is_less : RD) : DE := (dAndV (dFn R_is_less (sCons (dOp pIx (dVar 8) (dVar 10)) (sCons (dOp pIx (dVar 9) (dOp pAdd (dVar 10) (dC (.int 2)))) sNil))) (dFn R_is_less (sCons (dOp pIx (dVar 9) (dVar 10)) (sCons (dOp pIx (dVar 8) (dOp pAdd (dVar 10) (dC (.int 2)))) sNil))))
def t_do_cover (R_tuple_of R_sure_name R_box_in R_is_less : RD) : DS := (dSeq (dSet 5 (dFn R_tuple_of (sCons (dVar 0) sNil))) (dSeq (dPar [6, 7] (kCons (dFn R_sure_name (sCons (dVar 5) (sCons (dVar 1) sNil))) (kCons (dFn R_sure_name (sCons (dVar 5) (sCons (dVar 3) sNil))) sNil))) (dSeq (dPar [8, 9] (kCons (dFn R_box_in (sCons (dVar 6) (sCons (dFn R_tuple_of (sCons (dVar 2) sNil)) sNil))) (kCons (dFn R_box_in (sCons (dVar 7) (sCons (dFn R_tuple_of (sCons (dVar 4) sNil)) sNil))) sNil))) (dRet (dCall pAll (dCons (dOfL (dLc (iSeqD (dTup (dCons (dC (.int 0)) (dCons (dC (.int 1)) dNil)))) (g_do_cover_1 R_tuple_of R_sure_name R_box_in R_is_less) dYes (e_do_cover_1 R_tuple_of R_sure_name R_box_in R_is_less) [10])) dNil))))))
theorem a_do_cover {w : World} {K : PySem.W.Frag} {mg : Str → Option Value} {base : Heap} (z : Fx K mg) {k : Nat} {R_tuple_of R_sure_name R_box_in R_is_less : RD} (C_tuple_of : CA w K mg base k "tuple_of" ["thing"] R_tuple_of) (C_sure_name : CA w K mg base k "sure_name" ["chart", "name"] R_sure_name) (C_box_in : CA w K mg base k "box_in" ["name", "place"] R_box_in) (C_is_less : CA w K mg base k "is_less" ["one", "other"] R_is_less) (f : Addr) (cdv : Value) (A : Around) (outer : List Env) (s : Shared) (H : Hp) (E : XK) (hr : Room k (A.deeper (envOfC "do_cover" (defScope (topS 55)) s.heap.objs.size f cdv))) :
    ∃ ts, AB (cxOf CX0 PR w K mg base ["chart", "name", "place", "other", "there", "own", "near", "far", "one", "two", "axis"] "do_cover" (defScope (topS 55)) f cdv A outer s H E).nox (defBody (topS 55)) ts (t_do_cover R_tuple_of R_sure_name R_box_in R_is_less) := by
  exact ⟨_, (ab_cons (as_set 5 (by exact sc_do_cover.nd) (ae_call C_tuple_of hr (aa_cons (ae_var 0) aa_nil))) (ab_cons (as_par 6 7 (by rfl) (by exact sc_do_cover.nd) (ak_d (ae_call C_sure_name hr (aa_cons (ae_var 5) (aa_cons (ae_var 1) aa_nil))) (ak_d (ae_call C_sure_name hr (aa_cons (ae_var 5) (aa_cons (ae_var 3) aa_nil))) ak_nil))) (ab_cons (as_unp 8 9 (by rfl) (by exact sc_do_cover.nd) (ak_d (ae_call C_box_in hr (aa_cons (ae_var 6) (aa_cons (ae_call C_tuple_of hr (aa_cons (ae_var 2) aa_nil)) aa_nil))) (ak_d (ae_call C_box_in hr (aa_cons (ae_var 7) (aa_cons (ae_call C_tuple_of hr (aa_cons (ae_var 4) aa_nil)) aa_nil))) ak_nil))) (ab_one (as_ret (ae_callB (cd_all (by rfl)) (by rfl) (by exact z.free 82) (by decide +kernel) (ad_cons (AL.ae (al_lcE (by rfl) (by exact sc_do_cover.nd) (own := [("axis", 10)]) (blkOk_by (by kernel_rfl)) rfl (ai_seq (ae_tup (ad_cons ae_int (ad_cons ae_int ad_nil)))) (fun _ _ _ _ _ => ⟨_, (ag_name 10 (by exact sc_do_cover.nd))⟩) (fun _ _ _ _ _ => ⟨_, ats_nil⟩) (fun _ _ _ _ _ => ⟨_, (ae_and (ae_call C_is_less hr (aa_cons (ae_ix (ae_var 8) (ae_var 10)) (aa_cons (ae_ix (ae_var 9) (ae_op od_add (ae_var 10) ae_int)) aa_nil))) (ae_one (ae_call C_is_less hr (aa_cons (ae_ix (ae_var 9) (ae_var 10)) (aa_cons (ae_ix (ae_var 8) (ae_op od_add (ae_var 10) ae_int)) aa_nil)))))⟩))) ad_nil)))))))⟩
/-! ### _law_of: 0 _law_tin, 1 _law_goods_so -/
theorem sc__law_of : FnScope ["_law_tin", "_law_goods_so"] ["_law_tin", "_law_goods_so"] (defScope (topS 60)) := ⟨rfl, rfl, rfl, by decide +kernel, rfl, by decide +kernel, by decide +kernel⟩
def t__law_of (R__law_take : RD) : DS := (dRet (dOp pIx (dVar 1) (dFn R__law_take (sTin 0 (sCons (dCall pLen (dCons (dVar 1) dNil)) sNil)))))
theorem a__law_of {w : World} {K : PySem.W.Frag} {mg : Str → Option Value} {base : Heap} (z : Fx K mg) {k : Nat} {R__law_take : RD} (C__law_take : CA w K mg base k "_law_take" ["_law_tin", "_law_below_so"] R__law_take) (f : Addr) (cdv : Value) (A : Around) (outer : List Env) (s : Shared) (H : Hp) (E : XK) (hr : Room k (A.deeper (envOfC "_law_of" (defScope (topS 60)) s.heap.objs.size f cdv))) :
    ∃ ts, AB (cxOf CX0 PR w K mg base ["_law_tin", "_law_goods_so"] "_law_of" (defScope (topS 60)) f cdv A outer s H E).nox (defBody (topS 60)) ts (t__law_of R__law_take) := by
  exact ⟨_, (ab_one (as_ret (ae_ix (ae_var 1) (ae_call C__law_take hr (aa_tin 0 (aa_cons (ae_callB cd_len (by rfl) (by exact z.free 77) (by decide +kernel) (ad_cons (ae_var 1) ad_nil)) aa_nil))))))⟩
/-! ### _law_lists: 0 _law_matter, 1 _law_bit -/
theorem sc__law_lists : FnScope ["_law_matter", "_law_bit"] ["_law_matter"] (defScope (topS 61)) := ⟨rfl, rfl, rfl, by decide +kernel, rfl, by decide +kernel, by decide +kernel⟩
def g__law_lists_1 (R__law_lists : RD) : DG := (dgName 1)
def e__law_lists_1 (R__law_lists : RD) : DE := (dFn R__law_lists (sCons (dVar 1) sNil))
def t__law_lists (R__law_lists : RD) : DS := (dSeq (dIfS (dTest (dIsi2 "list" "tuple" (dVar 0))) (dRet (dOfL (dLc (iSeqD (dVar 0)) (g__law_lists_1 R__law_lists) dYes (e__law_lists_1 R__law_lists) [1]))) dNext) (dRet (dVar 0)))
theorem a__law_lists {w : World} {K : PySem.W.Frag} {mg : Str → Option Value} {base : Heap} (z : Fx K mg) {k : Nat} {R__law_lists : RD} (C__law_lists : CA w K mg base k "_law_lists" ["_law_matter"] R__law_lists) (f : Addr) (cdv : Value) (A : Around) (outer : List Env) (s : Shared) (H : Hp) (E : XK) (hr : Room k (A.deeper (envOfC "_law_lists" (defScope (topS 61)) s.heap.objs.size f cdv))) :
    ∃ ts, AB (cxOf CX0 PR w K mg base ["_law_matter", "_law_bit"] "_law_lists" (defScope (topS 61)) f cdv A outer s H E).nox (defBody (topS 61)) ts (t__law_lists R__law_lists) := by
  exact ⟨_, (ab_cons (as_if (at_val (ae_isi2 (T := "list") (T2 := "tuple") (ae_var 0) (by rfl) (by exact z.free 71) (by rfl) (by exact z.free 72) (by decide +kernel) (by rfl) (by exact z.free 73) (by decide +kernel))) (ab_one (as_ret (AL.ae (al_lcE (by rfl) (by exact sc__law_lists.nd) (own := [("_law_bit", 1)]) (blkOk_by (by kernel_rfl)) rfl (ai_seq (ae_var 0)) (fun _ _ _ _ _ => ⟨_, (ag_name 1 (by exact sc__law_lists.nd))⟩) (fun _ _ _ _ _ => ⟨_, ats_nil⟩) (fun _ _ _ _ _ => ⟨_, (ae_call C__law_lists hr (aa_cons (ae_var 1) aa_nil))⟩))))) ab_nil) (ab_one (as_ret (ae_var 0))))⟩
end DL

namespace DL
open PySem PySem.Spec PyProof.Rows L2 Gn

/-! ### _law_same: 0 _law_got, 1 _law_due, 2 _law_mine, 3 _law_its -/
theorem sc__law_same : FnScope ["_law_got", "_law_due", "_law_mine", "_law_its"] ["_law_got", "_law_due"] (defScope (topS 62)) := ⟨rfl, rfl, rfl, by decide +kernel, rfl, by decide +kernel, by decide +kernel⟩
def g__law_same_1 (R__law_same : RD) : DG := (dgTup 2 (dgCons (dgName 2) (dgCons (dgName 3) dgNil)))
def e__law_same_1 (R__law_same : RD) : DE := (dFn R__law_same (sCons (dVar 2) (sCons (dVar 3) sNil)))
def t__law_same (R__law_same : RD) : DS := (dSeq (dIfS (dTest (dIsi2 "list" "tuple" (dVar 1))) (dSeq (dIfS (dOr (dTest (dOp pNe (dIsi "list" (dVar 0)) (dIsi "list" (dVar 1)))) (dTest (dOp pNe (dIsi "tuple" (dVar 0)) (dIsi "tuple" (dVar 1))))) (dRet (dC (.bl false))) dNext) (dRet (dAndV (dOp pEq (dCall pLen (dCons (dVar 0) dNil)) (dCall pLen (dCons (dVar 1) dNil))) (dCall pAll (dCons (dOfL (dLc (iZipD (dCons (dVar 0) (dCons (dVar 1) dNil))) (g__law_same_1 R__law_same) dYes (e__law_same_1 R__law_same) [2, 3])) dNil))))) dNext) (dSeq (dIfS (dOr (dTest (dOp pIsN (dVar 1) (dC .non))) (dTest (dIsi2 "bool" "str" (dVar 1)))) (dRet (dAndV (dOp pEq (dVar 0) (dVar 1)) (dAndV (dOp pEq (dIsi "bool" (dVar 0)) (dIsi "bool" (dVar 1))) (dOp pEq (dOp pIsN (dVar 0) (dC .non)) (dOp pIsN (dVar 1) (dC .non)))))) dNext) (dRet (dAndV (dIsi "int" (dVar 0)) (dAndV (dNotV (dIsi "bool" (dVar 0))) (dOp pEq (dVar 0) (dVar 1)))))))
theorem a__law_same {w : World} {K : PySem.W.Frag} {mg : Str → Option Value} {base : Heap} (z : Fx K mg) {k : Nat} {R__law_same : RD} (C__law_same : CA w K mg base k "_law_same" ["_law_got", "_law_due"] R__law_same) (f : Addr) (cdv : Value) (A : Around) (outer : List Env) (s : Shared) (H : Hp) (E : XK) (hr : Room k (A.deeper (envOfC "_law_same" (defScope (topS 62)) s.heap.objs.size f cdv))) :
    ∃ ts, AB (cxOf CX0 PR w K mg base ["_law_got", "_law_due", "_law_mine", "_law_its"] "_law_same" (defScope (topS 62)) f cdv A outer s H E).nox (defBody (topS 62)) ts (t__law_same R__law_same) := by
  exact ⟨_, (ab_cons (as_if (at_val (ae_isi2 (T := "list") (T2 := "tuple") (ae_var 1) (by rfl) (by exact z.free 71) (by rfl) (by exact z.free 72) (by decide +kernel) (by rfl) (by exact z.free 73) (by decide +kernel))) (ab_cons (as_if (AW.at_ (aw_or (at_cmp od_ne (ae_isi (T := "list") (ae_var 0) (by rfl) (by exact z.free 71) (by rfl) (by exact z.free 72) (by decide +kernel)) (ae_isi (T := "list") (ae_var 1) (by rfl) (by exact z.free 71) (by rfl) (by exact z.free 72) (by decide +kernel)) (nomark _)) (aw_or1 (at_cmp od_ne (ae_isi (T := "tuple") (ae_var 0) (by rfl) (by exact z.free 71) (by rfl) (by exact z.free 73) (by decide +kernel)) (ae_isi (T := "tuple") (ae_var 1) (by rfl) (by exact z.free 71) (by rfl) (by exact z.free 73) (by decide +kernel)) (nomark _))))) (ab_one (as_ret ae_bl)) ab_nil) (ab_one (as_ret (ae_and (ae_cmp od_eq (ae_callB cd_len (by rfl) (by exact z.free 77) (by decide +kernel) (ad_cons (ae_var 0) ad_nil)) (ae_callB cd_len (by rfl) (by exact z.free 77) (by decide +kernel) (ad_cons (ae_var 1) ad_nil)) (nomark _)) (ae_one (ae_callB (cd_all (by rfl)) (by rfl) (by exact z.free 82) (by decide +kernel) (ad_cons (AL.ae (al_lcE (by rfl) (by exact sc__law_same.nd) (own := [("_law_mine", 2), ("_law_its", 3)]) (blkOk_by (by kernel_rfl)) rfl (ai_zip (by rfl) (by exact z.free 84) (ad_cons (ae_var 0) (ad_cons (ae_var 1) ad_nil))) (fun _ _ _ _ _ => ⟨_, (ag_tup (by rfl) (ags_cons (ag_name 2 (by exact sc__law_same.nd)) (ags_cons (ag_name 3 (by exact sc__law_same.nd)) ags_nil)))⟩) (fun _ _ _ _ _ => ⟨_, ats_nil⟩) (fun _ _ _ _ _ => ⟨_, (ae_call C__law_same hr (aa_cons (ae_var 2) (aa_cons (ae_var 3) aa_nil)))⟩))) ad_nil))))))) ab_nil) (ab_cons (as_if (AW.at_ (aw_or (at_cmp od_isN (ae_var 1) ae_non (nomark _)) (aw_or1 (at_val (ae_isi2 (T := "bool") (T2 := "str") (ae_var 1) (by rfl) (by exact z.free 71) (by rfl) (by exact z.free 75) (by decide +kernel) (by rfl) (by exact z.free 76) (by decide +kernel)))))) (ab_one (as_ret (ae_and (ae_cmp od_eq (ae_var 0) (ae_var 1) (nomark _)) (ae_and (ae_cmp od_eq (ae_isi (T := "bool") (ae_var 0) (by rfl) (by exact z.free 71) (by rfl) (by exact z.free 75) (by decide +kernel)) (ae_isi (T := "bool") (ae_var 1) (by rfl) (by exact z.free 71) (by rfl) (by exact z.free 75) (by decide +kernel)) (nomark _)) (ae_one (ae_cmp od_eq (ae_cmp od_isN (ae_var 0) ae_non (nomark _)) (ae_cmp od_isN (ae_var 1) ae_non (nomark _)) (nomark _))))))) ab_nil) (ab_one (as_ret (ae_and (ae_isi (T := "int") (ae_var 0) (by rfl) (by exact z.free 71) (by rfl) (by exact z.free 74) (by decide +kernel)) (ae_and (ae_not (ae_isi (T := "bool") (ae_var 0) (by rfl) (by exact z.free 71) (by rfl) (by exact z.free 75) (by decide +kernel))) (ae_one (ae_cmp od_eq (ae_var 0) (ae_var 1) (nomark _)))))))))⟩
/-! ### _law_low: 0 _law_top_so, 1 _law_below_so, 2 _law_one, 3 _law_two -/
theorem sc__law_low : FnScope ["_law_top_so", "_law_below_so", "_law_one", "_law_two"] ["_law_top_so", "_law_below_so"] (defScope (topS 63)) := ⟨rfl, rfl, rfl, by decide +kernel, rfl, by decide +kernel, by decide +kernel⟩
def t__law_low : DS := (dSeq (dPar [2, 3] (kCons (dCall pAbs (dCons (dVar 0) dNil)) (kCons (dVar 1) sNil))) (dSeq (dWhile (dTest (dOp pNe (dVar 3) (dC (.int 0)))) (dPar [2, 3] (kCons (dVar 3) (kCons (dOp pMod (dVar 2) (dVar 3)) sNil)))) (dRet (dTup (dCons (dOp pFdiv (dVar 0) (dVar 2)) (dCons (dOp pFdiv (dVar 1) (dVar 2)) dNil))))))
theorem a__law_low {w : World} {K : PySem.W.Frag} {mg : Str → Option Value} {base : Heap} (z : Fx K mg) {k : Nat} (f : Addr) (cdv : Value) (A : Around) (outer : List Env) (s : Shared) (H : Hp) (E : XK) (hr : Room k (A.deeper (envOfC "_law_low" (defScope (topS 63)) s.heap.objs.size f cdv))) :
    ∃ ts, AB (cxOf CX0 PR w K mg base ["_law_top_so", "_law_below_so", "_law_one", "_law_two"] "_law_low" (defScope (topS 63)) f cdv A outer s H E).nox (defBody (topS 63)) ts (t__law_low) := by
  exact ⟨_, (ab_cons (as_par 2 3 (by rfl) (by exact sc__law_low.nd) (ak_d (ae_callB cd_abs (by rfl) (by exact z.free 78) (by decide +kernel) (ad_cons (ae_var 0) ad_nil)) (ak_d (ae_var 1) ak_nil))) (ab_cons (as_while (by rfl) (at_cmp od_ne (ae_var 3) ae_int (nomark _)) (ab_one (as_par 2 3 (by rfl) (by exact sc__law_low.nd) (ak_d (ae_var 3) (ak_d (ae_op od_mod (ae_var 2) (ae_var 3)) ak_nil))))) (ab_one (as_ret (ae_tup (ad_cons (ae_op od_fdiv (ae_var 0) (ae_var 2)) (ad_cons (ae_op od_fdiv (ae_var 1) (ae_var 2)) ad_nil)))))))⟩
/-! ### _law_sum: 0 _law_one, 1 _law_two -/
theorem sc__law_sum : FnScope ["_law_one", "_law_two"] ["_law_one", "_law_two"] (defScope (topS 64)) := ⟨rfl, rfl, rfl, by decide +kernel, rfl, by decide +kernel, by decide +kernel⟩
def t__law_sum (R__law_low : RD) : DS := (dRet (dFn R__law_low (sCons (dOp pAdd (dOp pMul (dOp pIx (dVar 0) (dC (.int 0))) (dOp pIx (dVar 1) (dC (.int 1)))) (dOp pMul (dOp pIx (dVar 1) (dC (.int 0))) (dOp pIx (dVar 0) (dC (.int 1))))) (sCons (dOp pMul (dOp pIx (dVar 0) (dC (.int 1))) (dOp pIx (dVar 1) (dC (.int 1)))) sNil))))
theorem a__law_sum {w : World} {K : PySem.W.Frag} {mg : Str → Option Value} {base : Heap} (z : Fx K mg) {k : Nat} {R__law_low : RD} (C__law_low : CA w K mg base k "_law_low" ["_law_top_so", "_law_below_so"] R__law_low) (f : Addr) (cdv : Value) (A : Around) (outer : List Env) (s : Shared) (H : Hp) (E : XK) (hr : Room k (A.deeper (envOfC "_law_sum" (defScope (topS 64)) s.heap.objs.size f cdv))) :
    ∃ ts, AB (cxOf CX0 PR w K mg base ["_law_one", "_law_two"] "_law_sum" (defScope (topS 64)) f cdv A outer s H E).nox (defBody (topS 64)) ts (t__law_sum R__law_low) := by
  exact ⟨_, (ab_one (as_ret (ae_call C__law_low hr (aa_cons (ae_op od_add (ae_op od_mul (ae_ix (ae_var 0) ae_int) (ae_ix (ae_var 1) ae_int)) (ae_op od_mul (ae_ix (ae_var 1) ae_int) (ae_ix (ae_var 0) ae_int))) (aa_cons (ae_op od_mul (ae_ix (ae_var 0) ae_int) (ae_ix (ae_var 1) ae_int)) aa_nil)))))⟩
/-! ### _law_below: 0 _law_one, 1 _law_two -/
theorem sc__law_below : FnScope ["_law_one", "_law_two"] ["_law_one", "_law_two"] (defScope (topS 65)) := ⟨rfl, rfl, rfl, by decide +kernel, rfl, by decide +kernel, by decide +kernel⟩
def t__law_below : DS := (dRet (dOp pLt (dOp pMul (dOp pIx (dVar 0) (dC (.int 0))) (dOp pIx (dVar 1) (dC (.int 1)))) (dOp pMul (dOp pIx (dVar 1) (dC (.int 0))) (dOp pIx (dVar 0) (dC (.int 1))))))
theorem a__law_below {w : World} {K : PySem.W.Frag} {mg : Str → Option Value} {base : Heap} (z : Fx K mg) {k : Nat} (f : Addr) (cdv : Value) (A : Around) (outer : List Env) (s : Shared) (H : Hp) (E : XK) (hr : Room k (A.deeper (envOfC "_law_below" (defScope (topS 65)) s.heap.objs.size f cdv))) :
    ∃ ts, AB (cxOf CX0 PR w K mg base ["_law_one", "_law_two"] "_law_below" (defScope (topS 65)) f cdv A outer s H E).nox (defBody (topS 65)) ts (t__law_below) := by
  exact ⟨_, (ab_one (as_ret (ae_cmp od_lt (ae_op od_mul (ae_ix (ae_var 0) ae_int) (ae_ix (ae_var 1) ae_int)) (ae_op od_mul (ae_ix (ae_var 1) ae_int) (ae_ix (ae_var 0) ae_int)) (nomark _))))⟩
/-! ### _law_drawn_tether: 0 _law_tin, 1 _law_a, 2 _law_c -/
theorem sc__law_drawn_tether : FnScope ["_law_tin", "_law_a", "_law_c"] ["_law_tin"] (defScope (topS 66)) := ⟨rfl, rfl, rfl, by decide +kernel, rfl, by decide +kernel, by decide +kernel⟩
def t__law_drawn_tether (R__law_take : RD) : DS := (dSeq (dPar [1, 2] (kCons (dOp pSub (dFn R__law_take (sTin 0 (sCons (dC (.int 25)) sNil))) (dC (.int 12))) (kCons (dOp pSub (dFn R__law_take (sTin 0 (sCons (dC (.int 9)) sNil))) (dC (.int 4))) sNil))) (dRet (dTup (dCons (dVar 1) (dCons (dVar 2) (dCons (dOp pAdd (dVar 1) (dFn R__law_take (sTin 0 (sCons (dC (.int 6)) sNil)))) (dCons (dOp pSub (dFn R__law_take (sTin 0 (sCons (dC (.int 5)) sNil))) (dVar 2)) dNil)))))))
theorem a__law_drawn_tether {w : World} {K : PySem.W.Frag} {mg : Str → Option Value} {base : Heap} (z : Fx K mg) {k : Nat} {R__law_take : RD} (C__law_take : CA w K mg base k "_law_take" ["_law_tin", "_law_below_so"] R__law_take) (f : Addr) (cdv : Value) (A : Around) (outer : List Env) (s : Shared) (H : Hp) (E : XK) (hr : Room k (A.deeper (envOfC "_law_drawn_tether" (defScope (topS 66)) s.heap.objs.size f cdv))) :
    ∃ ts, AB (cxOf CX0 PR w K mg base ["_law_tin", "_law_a", "_law_c"] "_law_drawn_tether" (defScope (topS 66)) f cdv A outer s H E).nox (defBody (topS 66)) ts (t__law_drawn_tether R__law_take) := by
  exact ⟨_, (ab_cons (as_par 1 2 (by rfl) (by exact sc__law_drawn_tether.nd) (ak_d (ae_op od_sub (ae_call C__law_take hr (aa_tin 0 (aa_cons ae_int aa_nil))) ae_int) (ak_d (ae_op od_sub (ae_call C__law_take hr (aa_tin 0 (aa_cons ae_int aa_nil))) ae_int) ak_nil))) (ab_one (as_ret (ae_tup (ad_cons (ae_var 1) (ad_cons (ae_var 2) (ad_cons (ae_op od_add (ae_var 1) (ae_call C__law_take hr (aa_tin 0 (aa_cons ae_int aa_nil)))) (ad_cons (ae_op od_sub (ae_call C__law_take hr (aa_tin 0 (aa_cons ae_int aa_nil))) (ae_var 2)) ad_nil))))))))⟩
/-! ### _law_drawn_plan: 0 _law_tin, 1 _law_found, 2 _law_lap, 3 _law_across_so, 4 _law_down_so -/
theorem sc__law_drawn_plan : FnScope ["_law_tin", "_law_found", "_law_lap", "_law_across_so", "_law_down_so"] ["_law_tin"] (defScope (topS 67)) := ⟨rfl, rfl, rfl, by decide +kernel, rfl, by decide +kernel, by decide +kernel⟩
def g__law_drawn_plan_L1 (R__law_take R__law_drawn_tether : RD) : DG := (dgName 2)
def t__law_drawn_plan_L1 (R__law_take R__law_drawn_tether : RD) : DS := (dSeq (dPar [3, 4] (kCons (dFn R__law_drawn_tether (sTin 0 sNil)) (kCons (dFn R__law_drawn_tether (sTin 0 sNil)) sNil))) (dApp 1 (dTup (dCons (dOp pAdd (dC (.int 1)) (dFn R__law_take (sTin 0 (sCons (dC (.int 9)) sNil)))) (dCons (dOp pAdd (dC (.int 1)) (dFn R__law_take (sTin 0 (sCons (dC (.int 5)) sNil)))) (dCons (dVar 3) (dCons (dVar 4) dNil)))))))
def t__law_drawn_plan (R__law_take R__law_drawn_tether : RD) : DS := (dSeq (dSetL 1 dNil) (dSeq (dFor (iRng1D (dCons (dOp pAdd (dC (.int 1)) (dFn R__law_take (sTin 0 (sCons (dC (.int 6)) sNil)))) dNil)) (g__law_drawn_plan_L1 R__law_take R__law_drawn_tether) (t__law_drawn_plan_L1 R__law_take R__law_drawn_tether)) (dFrz 1 (dRet (dCall pTuple (dCons (dVar 1) dNil))))))
theorem a__law_drawn_plan {w : World} {K : PySem.W.Frag} {mg : Str → Option Value} {base : Heap} (z : Fx K mg) {k : Nat} {R__law_take R__law_drawn_tether : RD} (C__law_take : CA w K mg base k "_law_take" ["_law_tin", "_law_below_so"] R__law_take) (C__law_drawn_tether : CA w K mg base k "_law_drawn_tether" ["_law_tin"] R__law_drawn_tether) (f : Addr) (cdv : Value) (A : Around) (outer : List Env) (s : Shared) (H : Hp) (E : XK) (hr : Room k (A.deeper (envOfC "_law_drawn_plan" (defScope (topS 67)) s.heap.objs.size f cdv))) :
    ∃ ts, AB (cxOf CX0 PR w K mg base ["_law_tin", "_law_found", "_law_lap", "_law_across_so", "_law_down_so"] "_law_drawn_plan" (defScope (topS 67)) f cdv A outer s H E).nox (defBody (topS 67)) ts (t__law_drawn_plan R__law_take R__law_drawn_tether) := by
  exact ⟨_, (ab_cons (as_setL 1 (by exact sc__law_drawn_plan.nd) (al_lst ad_nil)) (ab_cons (as_for (by rfl) (by rfl) (ai_range1 (by rfl) (by exact z.free 83) (ad_cons (ae_op od_add ae_int (ae_call C__law_take hr (aa_tin 0 (aa_cons ae_int aa_nil)))) ad_nil)) (ag_name 2 (by exact sc__law_drawn_plan.nd)) (ab_cons (as_par 3 4 (by rfl) (by exact sc__law_drawn_plan.nd) (ak_d (ae_call C__law_drawn_tether hr (aa_tin 0 aa_nil)) (ak_d (ae_call C__law_drawn_tether hr (aa_tin 0 aa_nil)) ak_nil))) (ab_one (as_app 1 (ae_tup (ad_cons (ae_op od_add ae_int (ae_call C__law_take hr (aa_tin 0 (aa_cons ae_int aa_nil)))) (ad_cons (ae_op od_add ae_int (ae_call C__law_take hr (aa_tin 0 (aa_cons ae_int aa_nil)))) (ad_cons (ae_var 3) (ad_cons (ae_var 4) ad_nil))))))))) (ab_frz 1 (ab_one (as_ret (ae_callTy cd_tuple (by rfl) (by exact z.free 73) (by decide +kernel) (ad_cons (ae_var 1) ad_nil)))))))⟩
/-! ### _law_number: 0 _law_tin, 1 _law_most_so, 2 _law_least_so -/
theorem sc__law_number : FnScope ["_law_tin", "_law_most_so", "_law_least_so"] ["_law_tin", "_law_most_so", "_law_least_so"] (defScope (topS 68)) := ⟨rfl, rfl, rfl, by decide +kernel, rfl, by decide +kernel, by decide +kernel⟩
def t__law_number (R__law_low R__law_take : RD) : DS := (dRet (dFn R__law_low (sCons (dOp pAdd (dVar 2) (dFn R__law_take (sTin 0 (sCons (dOp pMul (dC (.int 6)) (dVar 1)) sNil)))) (sCons (dOp pAdd (dC (.int 1)) (dFn R__law_take (sTin 0 (sCons (dC (.int 6)) sNil)))) sNil))))
theorem a__law_number {w : World} {K : PySem.W.Frag} {mg : Str → Option Value} {base : Heap} (z : Fx K mg) {k : Nat} {R__law_low R__law_take : RD} (C__law_low : CA w K mg base k "_law_low" ["_law_top_so", "_law_below_so"] R__law_low) (C__law_take : CA w K mg base k "_law_take" ["_law_tin", "_law_below_so"] R__law_take) (f : Addr) (cdv : Value) (A : Around) (outer : List Env) (s : Shared) (H : Hp) (E : XK) (hr : Room k (A.deeper (envOfC "_law_number" (defScope (topS 68)) s.heap.objs.size f cdv))) :
    ∃ ts, AB (cxOf CX0 PR w K mg base ["_law_tin", "_law_most_so", "_law_least_so"] "_law_number" (defScope (topS 68)) f cdv A outer s H E).nox (defBody (topS 68)) ts (t__law_number R__law_low R__law_take) := by
  exact ⟨_, (ab_one (as_ret (ae_call C__law_low hr (aa_cons (ae_op od_add (ae_var 2) (ae_call C__law_take hr (aa_tin 0 (aa_cons (ae_op od_mul ae_int (ae_var 1)) aa_nil)))) (aa_cons (ae_op od_add ae_int (ae_call C__law_take hr (aa_tin 0 (aa_cons ae_int aa_nil)))) aa_nil)))))⟩
/-! ### _law_half: 0 _law_one, 1 _law_axis, 2 _law_a, 3 _law_c, 4 _law_b, 5 _law_d -/
theorem sc__law_half : FnScope ["_law_one", "_law_axis", "_law_a", "_law_c", "_law_b", "_law_d"] ["_law_one", "_law_axis"] (defScope (topS 69)) := ⟨rfl, rfl, rfl, by decide +kernel, rfl, by decide +kernel, by decide +kernel⟩
def t__law_half : DS := (dSeq (dAsg (dOp pIx (dVar 0) (dOp pAdd (dC (.int 2)) (dVar 1))) (dgTup 4 (dgCons (dgName 2) (dgCons (dgName 3) (dgCons (dgName 4) (dgCons (dgName 5) dgNil)))))) (dRet (dTup (dCons (dUn pNeg (dVar 4)) (dCons (dOp pAdd (dVar 5) (dOp pIx (dVar 0) (dVar 1))) (dCons (dUn pNeg (dVar 2)) (dCons (dOp pSub (dVar 3) (dOp pIx (dVar 0) (dVar 1))) dNil)))))))
theorem a__law_half {w : World} {K : PySem.W.Frag} {mg : Str → Option Value} {base : Heap} (z : Fx K mg) {k : Nat} (f : Addr) (cdv : Value) (A : Around) (outer : List Env) (s : Shared) (H : Hp) (E : XK) (hr : Room k (A.deeper (envOfC "_law_half" (defScope (topS 69)) s.heap.objs.size f cdv))) :
    ∃ ts, AB (cxOf CX0 PR w K mg base ["_law_one", "_law_axis", "_law_a", "_law_c", "_law_b", "_law_d"] "_law_half" (defScope (topS 69)) f cdv A outer s H E).nox (defBody (topS 69)) ts (t__law_half) := by
  exact ⟨_, (ab_cons (as_asg (ae_ix (ae_var 0) (ae_op od_add ae_int (ae_var 1))) (ag_tup (by rfl) (ags_cons (ag_name 2 (by exact sc__law_half.nd)) (ags_cons (ag_name 3 (by exact sc__law_half.nd)) (ags_cons (ag_name 4 (by exact sc__law_half.nd)) (ags_cons (ag_name 5 (by exact sc__law_half.nd)) ags_nil)))))) (ab_one (as_ret (ae_tup (ad_cons (ae_neg (ae_var 4)) (ad_cons (ae_op od_add (ae_var 5) (ae_ix (ae_var 0) (ae_var 1))) (ad_cons (ae_neg (ae_var 2)) (ad_cons (ae_op od_sub (ae_var 3) (ae_ix (ae_var 0) (ae_var 1))) ad_nil))))))))⟩
/-! ### _law_plan_half: 0 _law_plan, 1 _law_own -/
theorem sc__law_plan_half : FnScope ["_law_plan", "_law_own"] ["_law_plan"] (defScope (topS 70)) := ⟨rfl, rfl, rfl, by decide +kernel, rfl, by decide +kernel, by decide +kernel⟩
def g__law_plan_half_1 (R__law_half : RD) : DG := (dgName 1)
def e__law_plan_half_1 (R__law_half : RD) : DE := (dTup (dCons (dOp pIx (dVar 1) (dC (.int 0))) (dCons (dOp pIx (dVar 1) (dC (.int 1))) (dCons (dFn R__law_half (sCons (dVar 1) (sCons (dC (.int 0)) sNil))) (dCons (dFn R__law_half (sCons (dVar 1) (sCons (dC (.int 1)) sNil))) dNil)))))
def t__law_plan_half (R__law_half : RD) : DS := (dRet (dCall pTuple (dCons (dOfL (dLc (iSeqD (dRev (dVar 0))) (g__law_plan_half_1 R__law_half) dYes (e__law_plan_half_1 R__law_half) [1])) dNil)))
theorem a__law_plan_half {w : World} {K : PySem.W.Frag} {mg : Str → Option Value} {base : Heap} (z : Fx K mg) {k : Nat} {R__law_half : RD} (C__law_half : CA w K mg base k "_law_half" ["_law_one", "_law_axis"] R__law_half) (f : Addr) (cdv : Value) (A : Around) (outer : List Env) (s : Shared) (H : Hp) (E : XK) (hr : Room k (A.deeper (envOfC "_law_plan_half" (defScope (topS 70)) s.heap.objs.size f cdv))) :
    ∃ ts, AB (cxOf CX0 PR w K mg base ["_law_plan", "_law_own"] "_law_plan_half" (defScope (topS 70)) f cdv A outer s H E).nox (defBody (topS 70)) ts (t__law_plan_half R__law_half) := by
  exact ⟨_, (ab_one (as_ret (ae_callTy cd_tuple (by rfl) (by exact z.free 73) (by decide +kernel) (ad_cons (AL.ae (al_lcE (by rfl) (by exact sc__law_plan_half.nd) (own := [("_law_own", 1)]) (blkOk_by (by kernel_rfl)) rfl (ai_seq (ae_rev (ae_var 0))) (fun _ _ _ _ _ => ⟨_, (ag_name 1 (by exact sc__law_plan_half.nd))⟩) (fun _ _ _ _ _ => ⟨_, ats_nil⟩) (fun _ _ _ _ _ => ⟨_, (ae_tup (ad_cons (ae_ix (ae_var 1) ae_int) (ad_cons (ae_ix (ae_var 1) ae_int) (ad_cons (ae_call C__law_half hr (aa_cons (ae_var 1) (aa_cons ae_int aa_nil))) (ad_cons (ae_call C__law_half hr (aa_cons (ae_var 1) (aa_cons ae_int aa_nil))) ad_nil)))))⟩))) ad_nil))))⟩
/-! ### _law_tie_by: 0 _law_tie, 1 _law_many_so, 2 _law_more_so, 3 _law_sized_so, 4 _law_a, 5 _law_c, 6 _law_b, 7 _law_d -/
theorem sc__law_tie_by : FnScope ["_law_tie", "_law_many_so", "_law_more_so", "_law_sized_so", "_law_a", "_law_c", "_law_b", "_law_d"] ["_law_tie", "_law_many_so", "_law_more_so", "_law_sized_so"] (defScope (topS 71)) := ⟨rfl, rfl, rfl, by decide +kernel, rfl, by decide +kernel, by decide +kernel⟩
def t__law_tie_by : DS := (dSeq (dAsg (dVar 0) (dgTup 4 (dgCons (dgName 4) (dgCons (dgName 5) (dgCons (dgName 6) (dgCons (dgName 7) dgNil)))))) (dRet (dTup (dCons (dOp pAdd (dOp pMul (dVar 1) (dVar 4)) (dVar 2)) (dCons (dOp pMul (dVar 3) (dVar 5)) (dCons (dOp pAdd (dOp pMul (dVar 1) (dVar 6)) (dVar 2)) (dCons (dOp pMul (dVar 3) (dVar 7)) dNil)))))))
theorem a__law_tie_by {w : World} {K : PySem.W.Frag} {mg : Str → Option Value} {base : Heap} (z : Fx K mg) {k : Nat} (f : Addr) (cdv : Value) (A : Around) (outer : List Env) (s : Shared) (H : Hp) (E : XK) (hr : Room k (A.deeper (envOfC "_law_tie_by" (defScope (topS 71)) s.heap.objs.size f cdv))) :
    ∃ ts, AB (cxOf CX0 PR w K mg base ["_law_tie", "_law_many_so", "_law_more_so", "_law_sized_so", "_law_a", "_law_c", "_law_b", "_law_d"] "_law_tie_by" (defScope (topS 71)) f cdv A outer s H E).nox (defBody (topS 71)) ts (t__law_tie_by) := by
  exact ⟨_, (ab_cons (as_asg (ae_var 0) (ag_tup (by rfl) (ags_cons (ag_name 4 (by exact sc__law_tie_by.nd)) (ags_cons (ag_name 5 (by exact sc__law_tie_by.nd)) (ags_cons (ag_name 6 (by exact sc__law_tie_by.nd)) (ags_cons (ag_name 7 (by exact sc__law_tie_by.nd)) ags_nil)))))) (ab_one (as_ret (ae_tup (ad_cons (ae_op od_add (ae_op od_mul (ae_var 1) (ae_var 4)) (ae_var 2)) (ad_cons (ae_op od_mul (ae_var 3) (ae_var 5)) (ad_cons (ae_op od_add (ae_op od_mul (ae_var 1) (ae_var 6)) (ae_var 2)) (ad_cons (ae_op od_mul (ae_var 3) (ae_var 7)) ad_nil))))))))⟩
/-! ### _law_plan_by: 0 _law_plan, 1 _law_many_so, 2 _law_x, 3 _law_y, 4 _law_sized_so, 5 _law_found, 6 _law_wide_so, 7 _law_high_so, 8 _law_across_so, 9 _law_down_so -/
theorem sc__law_plan_by : FnScope ["_law_plan", "_law_many_so", "_law_x", "_law_y", "_law_sized_so", "_law_found", "_law_wide_so", "_law_high_so", "_law_across_so", "_law_down_so"] ["_law_plan", "_law_many_so", "_law_x", "_law_y", "_law_sized_so"] (defScope (topS 72)) := ⟨rfl, rfl, rfl, by decide +kernel, rfl, by decide +kernel, by decide +kernel⟩
def g__law_plan_by_L1 (R__law_tie_by : RD) : DG := (dgTup 4 (dgCons (dgName 6) (dgCons (dgName 7) (dgCons (dgName 8) (dgCons (dgName 9) dgNil)))))
def t__law_plan_by_L1 (R__law_tie_by : RD) : DS := (dApp 5 (dTup (dCons (dOp pMul (dVar 4) (dVar 6)) (dCons (dOp pMul (dVar 4) (dVar 7)) (dCons (dFn R__law_tie_by (sCons (dVar 8) (sCons (dVar 1) (sCons (dVar 2) (sCons (dVar 4) sNil))))) (dCons (dFn R__law_tie_by (sCons (dVar 9) (sCons (dVar 1) (sCons (dVar 3) (sCons (dVar 4) sNil))))) dNil))))))
def t__law_plan_by (R__law_tie_by : RD) : DS := (dSeq (dSetL 5 dNil) (dSeq (dFor (iSeqD (dVar 0)) (g__law_plan_by_L1 R__law_tie_by) (t__law_plan_by_L1 R__law_tie_by)) (dFrz 5 (dRet (dCall pTuple (dCons (dVar 5) dNil))))))
theorem a__law_plan_by {w : World} {K : PySem.W.Frag} {mg : Str → Option Value} {base : Heap} (z : Fx K mg) {k : Nat} {R__law_tie_by : RD} (C__law_tie_by : CA w K mg base k "_law_tie_by" ["_law_tie", "_law_many_so", "_law_more_so", "_law_sized_so"] R__law_tie_by) (f : Addr) (cdv : Value) (A : Around) (outer : List Env) (s : Shared) (H : Hp) (E : XK) (hr : Room k (A.deeper (envOfC "_law_plan_by" (defScope (topS 72)) s.heap.objs.size f cdv))) :
    ∃ ts, AB (cxOf CX0 PR w K mg base ["_law_plan", "_law_many_so", "_law_x", "_law_y", "_law_sized_so", "_law_found", "_law_wide_so", "_law_high_so", "_law_across_so", "_law_down_so"] "_law_plan_by" (defScope (topS 72)) f cdv A outer s H E).nox (defBody (topS 72)) ts (t__law_plan_by R__law_tie_by) := by
  exact ⟨_, (ab_cons (as_setL 5 (by exact sc__law_plan_by.nd) (al_lst ad_nil)) (ab_cons (as_for (by rfl) (by rfl) (ai_seq (ae_var 0)) (ag_tup (by rfl) (ags_cons (ag_name 6 (by exact sc__law_plan_by.nd)) (ags_cons (ag_name 7 (by exact sc__law_plan_by.nd)) (ags_cons (ag_name 8 (by exact sc__law_plan_by.nd)) (ags_cons (ag_name 9 (by exact sc__law_plan_by.nd)) ags_nil))))) (ab_one (as_app 5 (ae_tup (ad_cons (ae_op od_mul (ae_var 4) (ae_var 6)) (ad_cons (ae_op od_mul (ae_var 4) (ae_var 7)) (ad_cons (ae_call C__law_tie_by hr (aa_cons (ae_var 8) (aa_cons (ae_var 1) (aa_cons (ae_var 2) (aa_cons (ae_var 4) aa_nil))))) (ad_cons (ae_call C__law_tie_by hr (aa_cons (ae_var 9) (aa_cons (ae_var 1) (aa_cons (ae_var 3) (aa_cons (ae_var 4) aa_nil))))) ad_nil)))))))) (ab_frz 5 (ab_one (as_ret (ae_callTy cd_tuple (by rfl) (by exact z.free 73) (by decide +kernel) (ad_cons (ae_var 5) ad_nil)))))))⟩
end DL

namespace DL
open PySem PySem.Spec PyProof.Rows L2 Gn

/-! ### _law_reach: 0 _law_one, 1 _law_axis, 2 _law_zoom, 3 _law_a, 4 _law_c, 5 _law_b, 6 _law_d -/
theorem sc__law_reach : FnScope ["_law_one", "_law_axis", "_law_zoom", "_law_a", "_law_c", "_law_b", "_law_d"] ["_law_one", "_law_axis", "_law_zoom"] (defScope (topS 73)) := ⟨rfl, rfl, rfl, by decide +kernel, rfl, by decide +kernel, by decide +kernel⟩
def t__law_reach (R__law_low : RD) : DS := (dSeq (dAsg (dOp pIx (dVar 0) (dOp pAdd (dC (.int 2)) (dVar 1))) (dgTup 4 (dgCons (dgName 3) (dgCons (dgName 4) (dgCons (dgName 5) (dgCons (dgName 6) dgNil)))))) (dRet (dTup (dCons (dFn R__law_low (sCons (dOp pSub (dOp pMul (dOp pIx (dVar 2) (dC (.int 0))) (dVar 3)) (dOp pMul (dVar 4) (dOp pIx (dVar 2) (dC (.int 1))))) (sCons (dOp pIx (dVar 2) (dC (.int 1))) sNil))) (dCons (dFn R__law_low (sCons (dOp pAdd (dOp pMul (dOp pIx (dVar 2) (dC (.int 0))) (dVar 5)) (dOp pMul (dVar 6) (dOp pIx (dVar 2) (dC (.int 1))))) (sCons (dOp pIx (dVar 2) (dC (.int 1))) sNil))) dNil)))))
theorem a__law_reach {w : World} {K : PySem.W.Frag} {mg : Str → Option Value} {base : Heap} (z : Fx K mg) {k : Nat} {R__law_low : RD} (C__law_low : CA w K mg base k "_law_low" ["_law_top_so", "_law_below_so"] R__law_low) (f : Addr) (cdv : Value) (A : Around) (outer : List Env) (s : Shared) (H : Hp) (E : XK) (hr : Room k (A.deeper (envOfC "_law_reach" (defScope (topS 73)) s.heap.objs.size f cdv))) :
    ∃ ts, AB (cxOf CX0 PR w K mg base ["_law_one", "_law_axis", "_law_zoom", "_law_a", "_law_c", "_law_b", "_law_d"] "_law_reach" (defScope (topS 73)) f cdv A outer s H E).nox (defBody (topS 73)) ts (t__law_reach R__law_low) := by
  exact ⟨_, (ab_cons (as_asg (ae_ix (ae_var 0) (ae_op od_add ae_int (ae_var 1))) (ag_tup (by rfl) (ags_cons (ag_name 3 (by exact sc__law_reach.nd)) (ags_cons (ag_name 4 (by exact sc__law_reach.nd)) (ags_cons (ag_name 5 (by exact sc__law_reach.nd)) (ags_cons (ag_name 6 (by exact sc__law_reach.nd)) ags_nil)))))) (ab_one (as_ret (ae_tup (ad_cons (ae_call C__law_low hr (aa_cons (ae_op od_sub (ae_op od_mul (ae_ix (ae_var 2) ae_int) (ae_var 3)) (ae_op od_mul (ae_var 4) (ae_ix (ae_var 2) ae_int))) (aa_cons (ae_ix (ae_var 2) ae_int) aa_nil))) (ad_cons (ae_call C__law_low hr (aa_cons (ae_op od_add (ae_op od_mul (ae_ix (ae_var 2) ae_int) (ae_var 5)) (ae_op od_mul (ae_var 6) (ae_ix (ae_var 2) ae_int))) (aa_cons (ae_ix (ae_var 2) ae_int) aa_nil))) ad_nil))))))⟩
/-! ### _law_is_let: 0 _law_one, 1 _law_zoom, 2 _law_spot, 3 _law_axis, 4 _law_low_so, 5 _law_high_so -/
theorem sc__law_is_let : FnScope ["_law_one", "_law_zoom", "_law_spot", "_law_axis", "_law_low_so", "_law_high_so"] ["_law_one", "_law_zoom", "_law_spot"] (defScope (topS 74)) := ⟨rfl, rfl, rfl, by decide +kernel, rfl, by decide +kernel, by decide +kernel⟩
def g__law_is_let_L1 (R__law_reach R__law_below : RD) : DG := (dgName 3)
def t__law_is_let_L1 (R__law_reach R__law_below : RD) : DS := (dSeq (dAsg (dFn R__law_reach (sCons (dVar 0) (sCons (dVar 3) (sCons (dVar 1) sNil)))) (dgTup 2 (dgCons (dgName 4) (dgCons (dgName 5) dgNil)))) (dIfS (dOr (dTest (dFn R__law_below (sCons (dOp pIx (dVar 2) (dVar 3)) (sCons (dVar 4) sNil)))) (dTest (dFn R__law_below (sCons (dVar 5) (sCons (dOp pIx (dVar 2) (dVar 3)) sNil))))) (dRet (dC (.bl false))) dNext))
def t__law_is_let (R__law_reach R__law_below : RD) : DS := (dSeq (dFor (iSeqD (dTup (dCons (dC (.int 0)) (dCons (dC (.int 1)) dNil)))) (g__law_is_let_L1 R__law_reach R__law_below) (t__law_is_let_L1 R__law_reach R__law_below)) (dRet (dC (.bl true))))
theorem a__law_is_let {w : World} {K : PySem.W.Frag} {mg : Str → Option Value} {base : Heap} (z : Fx K mg) {k : Nat} {R__law_reach R__law_below : RD} (C__law_reach : CA w K mg base k "_law_reach" ["_law_one", "_law_axis", "_law_zoom"] R__law_reach) (C__law_below : CA w K mg base k "_law_below" ["_law_one", "_law_two"] R__law_below) (f : Addr) (cdv : Value) (A : Around) (outer : List Env) (s : Shared) (H : Hp) (E : XK) (hr : Room k (A.deeper (envOfC "_law_is_let" (defScope (topS 74)) s.heap.objs.size f cdv))) :
    ∃ ts, AB (cxOf CX0 PR w K mg base ["_law_one", "_law_zoom", "_law_spot", "_law_axis", "_law_low_so", "_law_high_so"] "_law_is_let" (defScope (topS 74)) f cdv A outer s H E).nox (defBody (topS 74)) ts (t__law_is_let R__law_reach R__law_below) := by
  exact ⟨_, (ab_cons (as_for (by rfl) (by rfl) (ai_seq (ae_tup (ad_cons ae_int (ad_cons ae_int ad_nil)))) (ag_name 3 (by exact sc__law_is_let.nd)) (ab_cons (as_asg (ae_call C__law_reach hr (aa_cons (ae_var 0) (aa_cons (ae_var 3) (aa_cons (ae_var 1) aa_nil)))) (ag_tup (by rfl) (ags_cons (ag_name 4 (by exact sc__law_is_let.nd)) (ags_cons (ag_name 5 (by exact sc__law_is_let.nd)) ags_nil)))) (ab_one (as_if (AW.at_ (aw_or (at_val (ae_call C__law_below hr (aa_cons (ae_ix (ae_var 2) (ae_var 3)) (aa_cons (ae_var 4) aa_nil)))) (aw_or1 (at_val (ae_call C__law_below hr (aa_cons (ae_var 5) (aa_cons (ae_ix (ae_var 2) (ae_var 3)) aa_nil))))))) (ab_one (as_ret ae_bl)) ab_nil)))) (ab_one (as_ret ae_bl)))⟩
/-! ### _law_one_right: 0 _law_tin, 1 _law_plan, 2 _law_k, 3 _law_zoom, 4 _law_one, 5 _law_half_so, 6 _law_last_so, 7 _law_spot, 8 _law_far, 9 _law_soft, 10 _law_told_so, 11 _law_got, 12 _law_due, 13 _law_box_so, 14 _law_axis -/
theorem sc__law_one_right : FnScope ["_law_tin", "_law_plan", "_law_k", "_law_zoom", "_law_one", "_law_half_so", "_law_last_so", "_law_spot", "_law_far", "_law_soft", "_law_told_so", "_law_got", "_law_due", "_law_box_so", "_law_axis"] ["_law_tin", "_law_plan", "_law_k", "_law_zoom"] (defScope (topS 75)) := ⟨rfl, rfl, rfl, by decide +kernel, rfl, by decide +kernel, by decide +kernel⟩
def g__law_one_right_1 (R__law_plan_half R__law_sum R__law_of R__law_reach R__law_take R__law_low R__law_lists R__law_is_let R_stretch_at R_lets R_place_turned R__law_same R_box_at : RD) : DG := (dgName 14)
def e__law_one_right_1 (R__law_plan_half R__law_sum R__law_of R__law_reach R__law_take R__law_low R__law_lists R__law_is_let R_stretch_at R_lets R_place_turned R__law_same R_box_at : RD) : DE := (dFn R__law_sum (sCons (dOp pIx (dFn R__law_reach (sCons (dVar 4) (sCons (dVar 14) (sCons (dVar 3) sNil)))) (dFn R__law_take (sTin 0 (sCons (dC (.int 2)) sNil)))) (sCons (dFn R__law_of (sTin 0 (sCons (dLst (dCons (dTup (dCons (dC (.int 0)) (dCons (dC (.int 1)) dNil))) (dCons (dTup (dCons (dC (.int 0)) (dCons (dC (.int 1)) dNil))) (dCons (dTup (dCons (dC (.int 1)) (dCons (dC (.int 3)) dNil))) (dCons (dTup (dCons (dUn pNeg (dC (.int 1))) (dCons (dC (.int 2)) dNil))) dNil))))) sNil))) sNil)))
def g__law_one_right_2 (R__law_plan_half R__law_sum R__law_of R__law_reach R__law_take R__law_low R__law_lists R__law_is_let R_stretch_at R_lets R_place_turned R__law_same R_box_at : RD) : DG := (dgName 14)
def e__law_one_right_2 (R__law_plan_half R__law_sum R__law_of R__law_reach R__law_take R__law_low R__law_lists R__law_is_let R_stretch_at R_lets R_place_turned R__law_same R_box_at : RD) : DE := (dFn R__law_low (sCons (dOp pSub (dUn pNeg (dOp pIx (dOp pIx (dVar 7) (dVar 14)) (dC (.int 0)))) (dOp pMul (dOp pIx (dVar 4) (dVar 14)) (dOp pIx (dOp pIx (dVar 7) (dVar 14)) (dC (.int 1))))) (sCons (dOp pIx (dOp pIx (dVar 7) (dVar 14)) (dC (.int 1))) sNil)))
def g__law_one_right_3 (R__law_plan_half R__law_sum R__law_of R__law_reach R__law_take R__law_low R__law_lists R__law_is_let R_stretch_at R_lets R_place_turned R__law_same R_box_at : RD) : DG := (dgName 14)
def e__law_one_right_3 (R__law_plan_half R__law_sum R__law_of R__law_reach R__law_take R__law_low R__law_lists R__law_is_let R_stretch_at R_lets R_place_turned R__law_same R_box_at : RD) : DE := (dFn R_stretch_at (sCons (dVar 9) (sCons (dVar 2) (sCons (dVar 14) (sCons (dCall pList (dCons (dVar 3) dNil)) sNil)))))
def g__law_one_right_4 (R__law_plan_half R__law_sum R__law_of R__law_reach R__law_take R__law_low R__law_lists R__law_is_let R_stretch_at R_lets R_place_turned R__law_same R_box_at : RD) : DG := (dgName 14)
def e__law_one_right_4 (R__law_plan_half R__law_sum R__law_of R__law_reach R__law_take R__law_low R__law_lists R__law_is_let R_stretch_at R_lets R_place_turned R__law_same R_box_at : RD) : DE := (dFn R__law_reach (sCons (dVar 4) (sCons (dVar 14) (sCons (dVar 3) sNil))))
def t__law_one_right (R__law_plan_half R__law_sum R__law_of R__law_reach R__law_take R__law_low R__law_lists R__law_is_let R_stretch_at R_lets R_place_turned R__law_same R_box_at : RD) : DS := (dSeq (dPar [4, 5] (kCons (dOp pIx (dVar 1) (dVar 2)) (kCons (dFn R__law_plan_half (sCons (dVar 1) sNil)) sNil))) (dSeq (dSet 6 (dOp pSub (dOp pSub (dCall pLen (dCons (dVar 1) dNil)) (dC (.int 1))) (dVar 2))) (dSeq (dSet 7 (dCall pTuple (dCons (dOfL (dLc (iSeqD (dTup (dCons (dC (.int 0)) (dCons (dC (.int 1)) dNil)))) (g__law_one_right_1 R__law_plan_half R__law_sum R__law_of R__law_reach R__law_take R__law_low R__law_lists R__law_is_let R_stretch_at R_lets R_place_turned R__law_same R_box_at) dYes (e__law_one_right_1 R__law_plan_half R__law_sum R__law_of R__law_reach R__law_take R__law_low R__law_lists R__law_is_let R_stretch_at R_lets R_place_turned R__law_same R_box_at) [14])) dNil))) (dSeq (dSet 8 (dCall pTuple (dCons (dOfL (dLc (iSeqD (dTup (dCons (dC (.int 0)) (dCons (dC (.int 1)) dNil)))) (g__law_one_right_2 R__law_plan_half R__law_sum R__law_of R__law_reach R__law_take R__law_low R__law_lists R__law_is_let R_stretch_at R_lets R_place_turned R__law_same R_box_at) dYes (e__law_one_right_2 R__law_plan_half R__law_sum R__law_of R__law_reach R__law_take R__law_low R__law_lists R__law_is_let R_stretch_at R_lets R_place_turned R__law_same R_box_at) [14])) dNil))) (dSeq (dPar [9, 10] (kCons (dFn R__law_lists (sCons (dVar 1) sNil)) (kCons (dFn R__law_is_let (sCons (dVar 4) (sCons (dVar 3) (sCons (dVar 7) sNil)))) sNil))) (dSeq (dSet 11 (dLst (dCons (dOfL (dLc (iSeqD (dTup (dCons (dC (.int 0)) (dCons (dC (.int 1)) dNil)))) (g__law_one_right_3 R__law_plan_half R__law_sum R__law_of R__law_reach R__law_take R__law_low R__law_lists R__law_is_let R_stretch_at R_lets R_place_turned R__law_same R_box_at) dYes (e__law_one_right_3 R__law_plan_half R__law_sum R__law_of R__law_reach R__law_take R__law_low R__law_lists R__law_is_let R_stretch_at R_lets R_place_turned R__law_same R_box_at) [14])) (dCons (dFn R_lets (sCons (dVar 9) (sCons (dVar 2) (sCons (dVar 3) (sCons (dFn R__law_lists (sCons (dVar 7) sNil)) sNil))))) dNil)))) (dSeq (dSet 11 (dOfL (dCatL (dVar 11) (dLst (dCons (dFn R_lets (sCons (dVar 5) (sCons (dVar 6) (sCons (dVar 3) (sCons (dVar 8) sNil))))) (dCons (dFn R_place_turned (sCons (dVar 9) (sCons (dVar 2) (sCons (dFn R__law_lists (sCons (dVar 7) sNil)) sNil)))) (dCons (dFn R_place_turned (sCons (dVar 5) (sCons (dVar 6) (sCons (dVar 8) sNil)))) dNil))))))) (dSeq (dSet 12 (dLst (dCons (dOfL (dLc (iSeqD (dTup (dCons (dC (.int 0)) (dCons (dC (.int 1)) dNil)))) (g__law_one_right_4 R__law_plan_half R__law_sum R__law_of R__law_reach R__law_take R__law_low R__law_lists R__law_is_let R_stretch_at R_lets R_place_turned R__law_same R_box_at) dYes (e__law_one_right_4 R__law_plan_half R__law_sum R__law_of R__law_reach R__law_take R__law_low R__law_lists R__law_is_let R_stretch_at R_lets R_place_turned R__law_same R_box_at) [14])) (dCons (dVar 10) (dCons (dVar 10) (dCons (dVar 8) (dCons (dVar 7) dNil))))))) (dSeq (dSet 13 (dOp pCatT (dVar 7) (dTup (dCons (dFn R__law_sum (sCons (dOp pIx (dVar 7) (dC (.int 0))) (sCons (dTup (dCons (dOp pIx (dVar 4) (dC (.int 0))) (dCons (dC (.int 1)) dNil))) sNil))) (dCons (dFn R__law_sum (sCons (dOp pIx (dVar 7) (dC (.int 1))) (sCons (dTup (dCons (dOp pIx (dVar 4) (dC (.int 1))) (dCons (dC (.int 1)) dNil))) sNil))) dNil))))) (dRet (dFn R__law_same (sCons (dOfL (dCatL (dVar 11) (dLst (dCons (dFn R_box_at (sCons (dVar 9) (sCons (dVar 2) (sCons (dFn R__law_lists (sCons (dVar 7) sNil)) sNil)))) dNil)))) (sCons (dOfL (dCatL (dVar 12) (dLst (dCons (dVar 13) dNil)))) sNil)))))))))))))
theorem a__law_one_right {w : World} {K : PySem.W.Frag} {mg : Str → Option Value} {base : Heap} (z : Fx K mg) {k : Nat} {R__law_plan_half R__law_sum R__law_of R__law_reach R__law_take R__law_low R__law_lists R__law_is_let R_stretch_at R_lets R_place_turned R__law_same R_box_at : RD} (C__law_plan_half : CA w K mg base k "_law_plan_half" ["_law_plan"] R__law_plan_half) (C__law_sum : CA w K mg base k "_law_sum" ["_law_one", "_law_two"] R__law_sum) (C__law_of : CA w K mg base k "_law_of" ["_law_tin", "_law_goods_so"] R__law_of) (C__law_reach : CA w K mg base k "_law_reach" ["_law_one", "_law_axis", "_law_zoom"] R__law_reach) (C__law_take : CA w K mg base k "_law_take" ["_law_tin", "_law_below_so"] R__law_take) (C__law_low : CA w K mg base k "_law_low" ["_law_top_so", "_law_below_so"] R__law_low) (C__law_lists : CA w K mg base k "_law_lists" ["_law_matter"] R__law_lists) (C__law_is_let : CA w K mg base k "_law_is_let" ["_law_one", "_law_zoom", "_law_spot"] R__law_is_let) (C_stretch_at : CA w K mg base k "stretch_at" ["chart", "name", "axis", "scale"] R_stretch_at) (C_lets : CA w K mg base k "lets" ["chart", "name", "scale", "place"] R_lets) (C_place_turned : CA w K mg base k "place_turned" ["chart", "name", "place"] R_place_turned) (C__law_same : CA w K mg base k "_law_same" ["_law_got", "_law_due"] R__law_same) (C_box_at : CA w K mg base k "box_at" ["chart", "name", "place"] R_box_at) (f : Addr) (cdv : Value) (A : Around) (outer : List Env) (s : Shared) (H : Hp) (E : XK) (hr : Room k (A.deeper (envOfC "_law_one_right" (defScope (topS 75)) s.heap.objs.size f cdv))) :
    ∃ ts, AB (cxOf CX0 PR w K mg base ["_law_tin", "_law_plan", "_law_k", "_law_zoom", "_law_one", "_law_half_so", "_law_last_so", "_law_spot", "_law_far", "_law_soft", "_law_told_so", "_law_got", "_law_due", "_law_box_so", "_law_axis"] "_law_one_right" (defScope (topS 75)) f cdv A outer s H E).nox (defBody (topS 75)) ts (t__law_one_right R__law_plan_half R__law_sum R__law_of R__law_reach R__law_take R__law_low R__law_lists R__law_is_let R_stretch_at R_lets R_place_turned R__law_same R_box_at) := by
  exact ⟨_, (ab_cons (as_unp 4 5 (by rfl) (by exact sc__law_one_right.nd) (ak_d (ae_ix (ae_var 1) (ae_var 2)) (ak_d (ae_call C__law_plan_half hr (aa_cons (ae_var 1) aa_nil)) ak_nil))) (ab_cons (as_set 6 (by exact sc__law_one_right.nd) (ae_op od_sub (ae_op od_sub (ae_callB cd_len (by rfl) (by exact z.free 77) (by decide +kernel) (ad_cons (ae_var 1) ad_nil)) ae_int) (ae_var 2))) (ab_cons (as_set 7 (by exact sc__law_one_right.nd) (ae_callTy cd_tuple (by rfl) (by exact z.free 73) (by decide +kernel) (ad_cons (AL.ae (al_lcE (by rfl) (by exact sc__law_one_right.nd) (own := [("_law_axis", 14)]) (blkOk_by (by kernel_rfl)) rfl (ai_seq (ae_tup (ad_cons ae_int (ad_cons ae_int ad_nil)))) (fun _ _ _ _ _ => ⟨_, (ag_name 14 (by exact sc__law_one_right.nd))⟩) (fun _ _ _ _ _ => ⟨_, ats_nil⟩) (fun _ _ _ _ _ => ⟨_, (ae_call C__law_sum hr (aa_cons (ae_ix (ae_call C__law_reach hr (aa_cons (ae_var 4) (aa_cons (ae_var 14) (aa_cons (ae_var 3) aa_nil)))) (ae_call C__law_take hr (aa_tin 0 (aa_cons ae_int aa_nil)))) (aa_cons (ae_call C__law_of hr (aa_tin 0 (aa_cons (ae_lst (ad_cons (ae_tup (ad_cons ae_int (ad_cons ae_int ad_nil))) (ad_cons (ae_tup (ad_cons ae_int (ad_cons ae_int ad_nil))) (ad_cons (ae_tup (ad_cons ae_int (ad_cons ae_int ad_nil))) (ad_cons (ae_tup (ad_cons (ae_neg ae_int) (ad_cons ae_int ad_nil))) ad_nil))))) aa_nil))) aa_nil)))⟩))) ad_nil))) (ab_cons (as_set 8 (by exact sc__law_one_right.nd) (ae_callTy cd_tuple (by rfl) (by exact z.free 73) (by decide +kernel) (ad_cons (AL.ae (al_lcE (by rfl) (by exact sc__law_one_right.nd) (own := [("_law_axis", 14)]) (blkOk_by (by kernel_rfl)) rfl (ai_seq (ae_tup (ad_cons ae_int (ad_cons ae_int ad_nil)))) (fun _ _ _ _ _ => ⟨_, (ag_name 14 (by exact sc__law_one_right.nd))⟩) (fun _ _ _ _ _ => ⟨_, ats_nil⟩) (fun _ _ _ _ _ => ⟨_, (ae_call C__law_low hr (aa_cons (ae_op od_sub (ae_neg (ae_ix (ae_ix (ae_var 7) (ae_var 14)) ae_int)) (ae_op od_mul (ae_ix (ae_var 4) (ae_var 14)) (ae_ix (ae_ix (ae_var 7) (ae_var 14)) ae_int))) (aa_cons (ae_ix (ae_ix (ae_var 7) (ae_var 14)) ae_int) aa_nil)))⟩))) ad_nil))) (ab_cons (as_unp 9 10 (by rfl) (by exact sc__law_one_right.nd) (ak_d (ae_call C__law_lists hr (aa_cons (ae_var 1) aa_nil)) (ak_d (ae_call C__law_is_let hr (aa_cons (ae_var 4) (aa_cons (ae_var 3) (aa_cons (ae_var 7) aa_nil)))) ak_nil))) (ab_cons (as_set 11 (by exact sc__law_one_right.nd) (ae_lst (ad_cons (AL.ae (al_lcE (by rfl) (by exact sc__law_one_right.nd) (own := [("_law_axis", 14)]) (blkOk_by (by kernel_rfl)) rfl (ai_seq (ae_tup (ad_cons ae_int (ad_cons ae_int ad_nil)))) (fun _ _ _ _ _ => ⟨_, (ag_name 14 (by exact sc__law_one_right.nd))⟩) (fun _ _ _ _ _ => ⟨_, ats_nil⟩) (fun _ _ _ _ _ => ⟨_, (ae_call C_stretch_at hr (aa_cons (ae_var 9) (aa_cons (ae_var 2) (aa_cons (ae_var 14) (aa_cons (ae_callTy cd_list (by rfl) (by exact z.free 72) (by decide +kernel) (ad_cons (ae_var 3) ad_nil)) aa_nil)))))⟩))) (ad_cons (ae_call C_lets hr (aa_cons (ae_var 9) (aa_cons (ae_var 2) (aa_cons (ae_var 3) (aa_cons (ae_call C__law_lists hr (aa_cons (ae_var 7) aa_nil)) aa_nil))))) ad_nil)))) (ab_cons (as_set 11 (by exact sc__law_one_right.nd) (AL.ae (al_cat (ae_var 11) (ae_lst (ad_cons (ae_call C_lets hr (aa_cons (ae_var 5) (aa_cons (ae_var 6) (aa_cons (ae_var 3) (aa_cons (ae_var 8) aa_nil))))) (ad_cons (ae_call C_place_turned hr (aa_cons (ae_var 9) (aa_cons (ae_var 2) (aa_cons (ae_call C__law_lists hr (aa_cons (ae_var 7) aa_nil)) aa_nil)))) (ad_cons (ae_call C_place_turned hr (aa_cons (ae_var 5) (aa_cons (ae_var 6) (aa_cons (ae_var 8) aa_nil)))) ad_nil))))))) (ab_cons (as_set 12 (by exact sc__law_one_right.nd) (ae_lst (ad_cons (AL.ae (al_lcE (by rfl) (by exact sc__law_one_right.nd) (own := [("_law_axis", 14)]) (blkOk_by (by kernel_rfl)) rfl (ai_seq (ae_tup (ad_cons ae_int (ad_cons ae_int ad_nil)))) (fun _ _ _ _ _ => ⟨_, (ag_name 14 (by exact sc__law_one_right.nd))⟩) (fun _ _ _ _ _ => ⟨_, ats_nil⟩) (fun _ _ _ _ _ => ⟨_, (ae_call C__law_reach hr (aa_cons (ae_var 4) (aa_cons (ae_var 14) (aa_cons (ae_var 3) aa_nil))))⟩))) (ad_cons (ae_var 10) (ad_cons (ae_var 10) (ad_cons (ae_var 8) (ad_cons (ae_var 7) ad_nil))))))) (ab_cons (as_set 13 (by exact sc__law_one_right.nd) (ae_op od_catT (ae_var 7) (ae_tup (ad_cons (ae_call C__law_sum hr (aa_cons (ae_ix (ae_var 7) ae_int) (aa_cons (ae_tup (ad_cons (ae_ix (ae_var 4) ae_int) (ad_cons ae_int ad_nil))) aa_nil))) (ad_cons (ae_call C__law_sum hr (aa_cons (ae_ix (ae_var 7) ae_int) (aa_cons (ae_tup (ad_cons (ae_ix (ae_var 4) ae_int) (ad_cons ae_int ad_nil))) aa_nil))) ad_nil))))) (ab_one (as_ret (ae_call C__law_same hr (aa_cons (AL.ae (al_cat (ae_var 11) (ae_lst (ad_cons (ae_call C_box_at hr (aa_cons (ae_var 9) (aa_cons (ae_var 2) (aa_cons (ae_call C__law_lists hr (aa_cons (ae_var 7) aa_nil)) aa_nil)))) ad_nil)))) (aa_cons (AL.ae (al_cat (ae_var 12) (ae_lst (ad_cons (ae_var 13) ad_nil)))) aa_nil))))))))))))))⟩
/-! ### _law_covers: 0 _law_one, 1 _law_spot, 2 _law_two, 3 _law_there, 4 _law_axis, 5 _law_ends_so -/
theorem sc__law_covers : FnScope ["_law_one", "_law_spot", "_law_two", "_law_there", "_law_axis", "_law_ends_so"] ["_law_one", "_law_spot", "_law_two", "_law_there"] (defScope (topS 76)) := ⟨rfl, rfl, rfl, by decide +kernel, rfl, by decide +kernel, by decide +kernel⟩
def g__law_covers_L1 (R__law_sum R__law_below : RD) : DG := (dgName 4)
def t__law_covers_L1 (R__law_sum R__law_below : RD) : DS := (dSeq (dSet 5 (dLst (dCons (dFn R__law_sum (sCons (dOp pIx (dVar 1) (dVar 4)) (sCons (dTup (dCons (dOp pIx (dVar 0) (dVar 4)) (dCons (dC (.int 1)) dNil))) sNil))) (dCons (dFn R__law_sum (sCons (dOp pIx (dVar 3) (dVar 4)) (sCons (dTup (dCons (dOp pIx (dVar 2) (dVar 4)) (dCons (dC (.int 1)) dNil))) sNil))) dNil)))) (dIfS (dOr (dNot (dTest (dFn R__law_below (sCons (dOp pIx (dVar 1) (dVar 4)) (sCons (dOp pIx (dVar 5) (dC (.int 1))) sNil))))) (dNot (dTest (dFn R__law_below (sCons (dOp pIx (dVar 3) (dVar 4)) (sCons (dOp pIx (dVar 5) (dC (.int 0))) sNil)))))) (dRet (dC (.bl false))) dNext))
def t__law_covers (R__law_sum R__law_below : RD) : DS := (dSeq (dFor (iSeqD (dTup (dCons (dC (.int 0)) (dCons (dC (.int 1)) dNil)))) (g__law_covers_L1 R__law_sum R__law_below) (t__law_covers_L1 R__law_sum R__law_below)) (dRet (dC (.bl true))))
theorem a__law_covers {w : World} {K : PySem.W.Frag} {mg : Str → Option Value} {base : Heap} (z : Fx K mg) {k : Nat} {R__law_sum R__law_below : RD} (C__law_sum : CA w K mg base k "_law_sum" ["_law_one", "_law_two"] R__law_sum) (C__law_below : CA w K mg base k "_law_below" ["_law_one", "_law_two"] R__law_below) (f : Addr) (cdv : Value) (A : Around) (outer : List Env) (s : Shared) (H : Hp) (E : XK) (hr : Room k (A.deeper (envOfC "_law_covers" (defScope (topS 76)) s.heap.objs.size f cdv))) :
    ∃ ts, AB (cxOf CX0 PR w K mg base ["_law_one", "_law_spot", "_law_two", "_law_there", "_law_axis", "_law_ends_so"] "_law_covers" (defScope (topS 76)) f cdv A outer s H E).nox (defBody (topS 76)) ts (t__law_covers R__law_sum R__law_below) := by
  exact ⟨_, (ab_cons (as_for (by rfl) (by rfl) (ai_seq (ae_tup (ad_cons ae_int (ad_cons ae_int ad_nil)))) (ag_name 4 (by exact sc__law_covers.nd)) (ab_cons (as_set 5 (by exact sc__law_covers.nd) (ae_lst (ad_cons (ae_call C__law_sum hr (aa_cons (ae_ix (ae_var 1) (ae_var 4)) (aa_cons (ae_tup (ad_cons (ae_ix (ae_var 0) (ae_var 4)) (ad_cons ae_int ad_nil))) aa_nil))) (ad_cons (ae_call C__law_sum hr (aa_cons (ae_ix (ae_var 3) (ae_var 4)) (aa_cons (ae_tup (ad_cons (ae_ix (ae_var 2) (ae_var 4)) (ad_cons ae_int ad_nil))) aa_nil))) ad_nil)))) (ab_one (as_if (AW.at_ (aw_or (at_not (at_val (ae_call C__law_below hr (aa_cons (ae_ix (ae_var 1) (ae_var 4)) (aa_cons (ae_ix (ae_var 5) ae_int) aa_nil))))) (aw_or1 (at_not (at_val (ae_call C__law_below hr (aa_cons (ae_ix (ae_var 3) (ae_var 4)) (aa_cons (ae_ix (ae_var 5) ae_int) aa_nil)))))))) (ab_one (as_ret ae_bl)) ab_nil)))) (ab_one (as_ret ae_bl)))⟩
/-! ### _law_plans_right: 0 _law_tin, 1 _law_plan, 2 _law_other, 3 _law_zoom, 4 _law_x, 5 _law_y, 6 _law_many_so, 7 _law_lot_so, 8 _law_got, 9 _law_due, 10 _law_table_so, 11 _law_last_so, 12 _law_half_so, 13 _law_j, 14 _law_i, 15 _law_spot, 16 _law_there, 17 _law_k -/
theorem sc__law_plans_right : FnScope ["_law_tin", "_law_plan", "_law_other", "_law_zoom", "_law_x", "_law_y", "_law_many_so", "_law_lot_so", "_law_got", "_law_due", "_law_table_so", "_law_last_so", "_law_half_so", "_law_j", "_law_i", "_law_spot", "_law_there", "_law_k"] ["_law_tin"] (defScope (topS 77)) := ⟨rfl, rfl, rfl, by decide +kernel, rfl, by decide +kernel, by decide +kernel⟩
def g__law_plans_right_1 (R__law_drawn_plan R__law_number R__law_take R_is_map R_turned R__law_lists R__law_plan_half R_part_of R_joined R_map_moved R_spread R_sized R__law_plan_by R_sides_turned R_do_cover R__law_covers R__law_same R__law_one_right : RD) : DG := (dgName 17)
def f__law_plans_right_1 (R__law_drawn_plan R__law_number R__law_take R_is_map R_turned R__law_lists R__law_plan_half R_part_of R_joined R_map_moved R_spread R_sized R__law_plan_by R_sides_turned R_do_cover R__law_covers R__law_same R__law_one_right : RD) : DT := (dOr (dTest (dOp pEq (dVar 17) (dC (.int 0)))) (dTest (dOp pEq (dFn R__law_take (sTin 0 (sCons (dC (.int 2)) sNil))) (dC (.int 0)))))
def e__law_plans_right_1 (R__law_drawn_plan R__law_number R__law_take R_is_map R_turned R__law_lists R__law_plan_half R_part_of R_joined R_map_moved R_spread R_sized R__law_plan_by R_sides_turned R_do_cover R__law_covers R__law_same R__law_one_right : RD) : DE := (dVar 17)
def g__law_plans_right_2 (R__law_drawn_plan R__law_number R__law_take R_is_map R_turned R__law_lists R__law_plan_half R_part_of R_joined R_map_moved R_spread R_sized R__law_plan_by R_sides_turned R_do_cover R__law_covers R__law_same R__law_one_right : RD) : DG := (dgName 17)
def e__law_plans_right_2 (R__law_drawn_plan R__law_number R__law_take R_is_map R_turned R__law_lists R__law_plan_half R_part_of R_joined R_map_moved R_spread R_sized R__law_plan_by R_sides_turned R_do_cover R__law_covers R__law_same R__law_one_right : RD) : DE := (dOp pIx (dVar 1) (dVar 17))
def g__law_plans_right_4 (R__law_drawn_plan R__law_number R__law_take R_is_map R_turned R__law_lists R__law_plan_half R_part_of R_joined R_map_moved R_spread R_sized R__law_plan_by R_sides_turned R_do_cover R__law_covers R__law_same R__law_one_right : RD) : DG := (dgName 14)
def e__law_plans_right_4 (R__law_drawn_plan R__law_number R__law_take R_is_map R_turned R__law_lists R__law_plan_half R_part_of R_joined R_map_moved R_spread R_sized R__law_plan_by R_sides_turned R_do_cover R__law_covers R__law_same R__law_one_right : RD) : DE := (dFn R__law_take (sTin 0 (sCons (dC (.int 3)) sNil)))
def g__law_plans_right_3 (R__law_drawn_plan R__law_number R__law_take R_is_map R_turned R__law_lists R__law_plan_half R_part_of R_joined R_map_moved R_spread R_sized R__law_plan_by R_sides_turned R_do_cover R__law_covers R__law_same R__law_one_right : RD) : DG := (dgName 13)
def e__law_plans_right_3 (R__law_drawn_plan R__law_number R__law_take R_is_map R_turned R__law_lists R__law_plan_half R_part_of R_joined R_map_moved R_spread R_sized R__law_plan_by R_sides_turned R_do_cover R__law_covers R__law_same R__law_one_right : RD) : DE := (dCall pTuple (dCons (dOfL (dLc (iRng1D (dCons (dVar 13) dNil)) (g__law_plans_right_4 R__law_drawn_plan R__law_number R__law_take R_is_map R_turned R__law_lists R__law_plan_half R_part_of R_joined R_map_moved R_spread R_sized R__law_plan_by R_sides_turned R_do_cover R__law_covers R__law_same R__law_one_right) dYes (e__law_plans_right_4 R__law_drawn_plan R__law_number R__law_take R_is_map R_turned R__law_lists R__law_plan_half R_part_of R_joined R_map_moved R_spread R_sized R__law_plan_by R_sides_turned R_do_cover R__law_covers R__law_same R__law_one_right) [14])) dNil))
def g__law_plans_right_5 (R__law_drawn_plan R__law_number R__law_take R_is_map R_turned R__law_lists R__law_plan_half R_part_of R_joined R_map_moved R_spread R_sized R__law_plan_by R_sides_turned R_do_cover R__law_covers R__law_same R__law_one_right : RD) : DG := (dgName 14)
def e__law_plans_right_5 (R__law_drawn_plan R__law_number R__law_take R_is_map R_turned R__law_lists R__law_plan_half R_part_of R_joined R_map_moved R_spread R_sized R__law_plan_by R_sides_turned R_do_cover R__law_covers R__law_same R__law_one_right : RD) : DE := (dOp pIx (dOp pIx (dVar 10) (dOp pSub (dVar 11) (dVar 14))) (dOp pSub (dVar 11) (dVar 13)))
def g__law_plans_right_L1 (R__law_drawn_plan R__law_number R__law_take R_is_map R_turned R__law_lists R__law_plan_half R_part_of R_joined R_map_moved R_spread R_sized R__law_plan_by R_sides_turned R_do_cover R__law_covers R__law_same R__law_one_right : RD) : DG := (dgName 13)
def t__law_plans_right_L1 (R__law_drawn_plan R__law_number R__law_take R_is_map R_turned R__law_lists R__law_plan_half R_part_of R_joined R_map_moved R_spread R_sized R__law_plan_by R_sides_turned R_do_cover R__law_covers R__law_same R__law_one_right : RD) : DS := (dApp 12 (dCall pTuple (dCons (dOfL (dLc (iRng1D (dCons (dVar 13) dNil)) (g__law_plans_right_5 R__law_drawn_plan R__law_number R__law_take R_is_map R_turned R__law_lists R__law_plan_half R_part_of R_joined R_map_moved R_spread R_sized R__law_plan_by R_sides_turned R_do_cover R__law_covers R__law_same R__law_one_right) dYes (e__law_plans_right_5 R__law_drawn_plan R__law_number R__law_take R_is_map R_turned R__law_lists R__law_plan_half R_part_of R_joined R_map_moved R_spread R_sized R__law_plan_by R_sides_turned R_do_cover R__law_covers R__law_same R__law_one_right) [14])) dNil)))
def g__law_plans_right_6 (R__law_drawn_plan R__law_number R__law_take R_is_map R_turned R__law_lists R__law_plan_half R_part_of R_joined R_map_moved R_spread R_sized R__law_plan_by R_sides_turned R_do_cover R__law_covers R__law_same R__law_one_right : RD) : DG := (dgName 17)
def e__law_plans_right_6 (R__law_drawn_plan R__law_number R__law_take R_is_map R_turned R__law_lists R__law_plan_half R_part_of R_joined R_map_moved R_spread R_sized R__law_plan_by R_sides_turned R_do_cover R__law_covers R__law_same R__law_one_right : RD) : DE := (dFn R__law_one_right (sTin 0 (sCons (dVar 1) (sCons (dVar 17) (sCons (dVar 3) sNil)))))
def t__law_plans_right (R__law_drawn_plan R__law_number R__law_take R_is_map R_turned R__law_lists R__law_plan_half R_part_of R_joined R_map_moved R_spread R_sized R__law_plan_by R_sides_turned R_do_cover R__law_covers R__law_same R__law_one_right : RD) : DS := (dSeq (dPar [1, 2, 3] (kCons (dFn R__law_drawn_plan (sTin 0 sNil)) (kCons (dFn R__law_drawn_plan (sTin 0 sNil)) (kCons (dFn R__law_number (sTin 0 (sCons (dC (.int 2)) (sCons (dC (.int 1)) sNil)))) sNil)))) (dSeq (dPar [4, 5, 6] (kCons (dOp pSub (dFn R__law_take (sTin 0 (sCons (dC (.int 41)) sNil))) (dC (.int 20))) (kCons (dOp pSub (dFn R__law_take (sTin 0 (sCons (dC (.int 41)) sNil))) (dC (.int 20))) (kCons (dOp pAdd (dC (.int 1)) (dFn R__law_take (sTin 0 (sCons (dC (.int 4)) sNil)))) sNil)))) (dSeq (dSet 7 (dCall pTuple (dCons (dOfL (dLc (iRng1D (dCons (dCall pLen (dCons (dVar 1) dNil)) dNil)) (g__law_plans_right_1 R__law_drawn_plan R__law_number R__law_take R_is_map R_turned R__law_lists R__law_plan_half R_part_of R_joined R_map_moved R_spread R_sized R__law_plan_by R_sides_turned R_do_cover R__law_covers R__law_same R__law_one_right) (f__law_plans_right_1 R__law_drawn_plan R__law_number R__law_take R_is_map R_turned R__law_lists R__law_plan_half R_part_of R_joined R_map_moved R_spread R_sized R__law_plan_by R_sides_turned R_do_cover R__law_covers R__law_same R__law_one_right) (e__law_plans_right_1 R__law_drawn_plan R__law_number R__law_take R_is_map R_turned R__law_lists R__law_plan_half R_part_of R_joined R_map_moved R_spread R_sized R__law_plan_by R_sides_turned R_do_cover R__law_covers R__law_same R__law_one_right) [17])) dNil))) (dSeq (dSetL 8 (dCons (dFn R_is_map (sCons (dVar 1) sNil)) (dCons (dFn R_turned (sCons (dFn R__law_lists (sCons (dVar 1) sNil)) sNil)) (dCons (dFn R_turned (sCons (dFn R__law_plan_half (sCons (dVar 1) sNil)) sNil)) (dCons (dFn R_part_of (sCons (dFn R__law_lists (sCons (dVar 1) sNil)) (sCons (dCall pList (dCons (dVar 7) dNil)) sNil))) (dCons (dFn R_joined (sCons (dVar 1) (sCons (dFn R__law_lists (sCons (dVar 2) sNil)) sNil))) dNil)))))) (dSeq (dSetL 9 (dCons (dC (.bl true)) (dCons (dFn R__law_plan_half (sCons (dVar 1) sNil)) (dCons (dVar 1) (dCons (dCall pTuple (dCons (dOfL (dLc (iSeqD (dVar 7)) (g__law_plans_right_2 R__law_drawn_plan R__law_number R__law_take R_is_map R_turned R__law_lists R__law_plan_half R_part_of R_joined R_map_moved R_spread R_sized R__law_plan_by R_sides_turned R_do_cover R__law_covers R__law_same R__law_one_right) dYes (e__law_plans_right_2 R__law_drawn_plan R__law_number R__law_take R_is_map R_turned R__law_lists R__law_plan_half R_part_of R_joined R_map_moved R_spread R_sized R__law_plan_by R_sides_turned R_do_cover R__law_covers R__law_same R__law_one_right) [17])) dNil)) (dCons (dOp pCatT (dVar 1) (dVar 2)) dNil)))))) (dFrz 8 (dSeq (dSetL 8 (dCatL (dVar 8) (dLst (dCons (dFn R_map_moved (sCons (dFn R__law_lists (sCons (dVar 1) sNil)) (sCons (dVar 4) (sCons (dVar 5) sNil)))) (dCons (dFn R_spread (sCons (dVar 1) (sCons (dVar 6) sNil))) (dCons (dFn R_sized (sCons (dFn R__law_lists (sCons (dVar 1) sNil)) (sCons (dVar 6) sNil))) dNil)))))) (dFrz 9 (dSeq (dSetL 9 (dCatL (dVar 9) (dLst (dCons (dFn R__law_plan_by (sCons (dVar 1) (sCons (dC (.int 1)) (sCons (dVar 4) (sCons (dVar 5) (sCons (dC (.int 1)) sNil)))))) (dCons (dFn R__law_plan_by (sCons (dVar 1) (sCons (dVar 6) (sCons (dC (.int 0)) (sCons (dC (.int 0)) (sCons (dC (.int 1)) sNil)))))) (dCons (dFn R__law_plan_by (sCons (dVar 1) (sCons (dC (.int 1)) (sCons (dC (.int 0)) (sCons (dC (.int 0)) (sCons (dVar 6) sNil)))))) dNil)))))) (dSeq (dSet 10 (dCall pTuple (dCons (dOfL (dLc (iRng1D (dCons (dCall pLen (dCons (dVar 1) dNil)) dNil)) (g__law_plans_right_3 R__law_drawn_plan R__law_number R__law_take R_is_map R_turned R__law_lists R__law_plan_half R_part_of R_joined R_map_moved R_spread R_sized R__law_plan_by R_sides_turned R_do_cover R__law_covers R__law_same R__law_one_right) dYes (e__law_plans_right_3 R__law_drawn_plan R__law_number R__law_take R_is_map R_turned R__law_lists R__law_plan_half R_part_of R_joined R_map_moved R_spread R_sized R__law_plan_by R_sides_turned R_do_cover R__law_covers R__law_same R__law_one_right) [13])) dNil))) (dSeq (dPar [11, 12] (kCons (dOp pSub (dCall pLen (dCons (dVar 1) dNil)) (dC (.int 1))) (kConsL dNil sNil))) (dSeq (dFor (iRng1D (dCons (dCall pLen (dCons (dVar 1) dNil)) dNil)) (g__law_plans_right_L1 R__law_drawn_plan R__law_number R__law_take R_is_map R_turned R__law_lists R__law_plan_half R_part_of R_joined R_map_moved R_spread R_sized R__law_plan_by R_sides_turned R_do_cover R__law_covers R__law_same R__law_one_right) (t__law_plans_right_L1 R__law_drawn_plan R__law_number R__law_take R_is_map R_turned R__law_lists R__law_plan_half R_part_of R_joined R_map_moved R_spread R_sized R__law_plan_by R_sides_turned R_do_cover R__law_covers R__law_same R__law_one_right)) (dFrz 12 (dFrz 9 (dFrz 8 (dSeq (dPar [8, 9] (kConsL (dCatL (dVar 8) (dLst (dCons (dFn R_sides_turned (sCons (dFn R__law_lists (sCons (dVar 10) sNil)) sNil)) (dCons (dFn R_sides_turned (sCons (dCall pTuple (dCons (dVar 12) dNil)) sNil)) dNil)))) (kConsL (dCatL (dVar 9) (dLst (dCons (dCall pTuple (dCons (dVar 12) dNil)) (dCons (dVar 10) dNil)))) sNil))) (dSeq (dPar [14, 13] (kCons (dFn R__law_take (sTin 0 (sCons (dCall pLen (dCons (dVar 1) dNil)) sNil))) (kCons (dFn R__law_take (sTin 0 (sCons (dCall pLen (dCons (dVar 1) dNil)) sNil))) sNil))) (dSeq (dPar [15, 16] (kCons (dTup (dCons (dFn R__law_number (sTin 0 (sCons (dC (.int 1)) (sCons (dC (.int 0)) sNil)))) (dCons (dFn R__law_number (sTin 0 (sCons (dC (.int 1)) (sCons (dC (.int 0)) sNil)))) dNil))) (kCons (dTup (dCons (dFn R__law_number (sTin 0 (sCons (dC (.int 1)) (sCons (dC (.int 0)) sNil)))) (dCons (dFn R__law_number (sTin 0 (sCons (dC (.int 1)) (sCons (dC (.int 0)) sNil)))) dNil))) sNil))) (dSeq (dApp 8 (dFn R_do_cover (sCons (dVar 1) (sCons (dVar 14) (sCons (dVar 15) (sCons (dVar 13) (sCons (dFn R__law_lists (sCons (dVar 16) sNil)) sNil))))))) (dSeq (dApp 9 (dFn R__law_covers (sCons (dOp pIx (dVar 1) (dVar 14)) (sCons (dVar 15) (sCons (dOp pIx (dVar 1) (dVar 13)) (sCons (dVar 16) sNil)))))) (dFrz 9 (dFrz 8 (dRet (dAndV (dFn R__law_same (sCons (dVar 8) (sCons (dVar 9) sNil))) (dCall pAll (dCons (dOfL (dLc (iSeqD (dTup (dCons (dC (.int 0)) (dCons (dOp pSub (dCall pLen (dCons (dVar 1) dNil)) (dC (.int 1))) dNil)))) (g__law_plans_right_6 R__law_drawn_plan R__law_number R__law_take R_is_map R_turned R__law_lists R__law_plan_half R_part_of R_joined R_map_moved R_spread R_sized R__law_plan_by R_sides_turned R_do_cover R__law_covers R__law_same R__law_one_right) dYes (e__law_plans_right_6 R__law_drawn_plan R__law_number R__law_take R_is_map R_turned R__law_lists R__law_plan_half R_part_of R_joined R_map_moved R_spread R_sized R__law_plan_by R_sides_turned R_do_cover R__law_covers R__law_same R__law_one_right) [17])) dNil))))))))))))))))))))))))))
theorem a__law_plans_right {w : World} {K : PySem.W.Frag} {mg : Str → Option Value} {base : Heap} (z : Fx K mg) {k : Nat} {R__law_drawn_plan R__law_number R__law_take R_is_map R_turned R__law_lists R__law_plan_half R_part_of R_joined R_map_moved R_spread R_sized R__law_plan_by R_sides_turned R_do_cover R__law_covers R__law_same R__law_one_right : RD} (C__law_drawn_plan : CA w K mg base k "_law_drawn_plan" ["_law_tin"] R__law_drawn_plan) (C__law_number : CA w K mg base k "_law_number" ["_law_tin", "_law_most_so", "_law_least_so"] R__law_number) (C__law_take : CA w K mg base k "_law_take" ["_law_tin", "_law_below_so"] R__law_take) (C_is_map : CA w K mg base k "is_map" ["thing"] R_is_map) (C_turned : CA w K mg base k "turned" ["chart"] R_turned) (C__law_lists : CA w K mg base k "_law_lists" ["_law_matter"] R__law_lists) (C__law_plan_half : CA w K mg base k "_law_plan_half" ["_law_plan"] R__law_plan_half) (C_part_of : CA w K mg base k "part_of" ["chart", "lot"] R_part_of) (C_joined : CA w K mg base k "joined" ["chart", "other"] R_joined) (C_map_moved : CA w K mg base k "map_moved" ["chart", "across", "down"] R_map_moved) (C_spread : CA w K mg base k "spread" ["chart", "many"] R_spread) (C_sized : CA w K mg base k "sized" ["chart", "many"] R_sized) (C__law_plan_by : CA w K mg base k "_law_plan_by" ["_law_plan", "_law_many_so", "_law_x", "_law_y", "_law_sized_so"] R__law_plan_by) (C_sides_turned : CA w K mg base k "sides_turned" ["sides"] R_sides_turned) (C_do_cover : CA w K mg base k "do_cover" ["chart", "name", "place", "other", "there"] R_do_cover) (C__law_covers : CA w K mg base k "_law_covers" ["_law_one", "_law_spot", "_law_two", "_law_there"] R__law_covers) (C__law_same : CA w K mg base k "_law_same" ["_law_got", "_law_due"] R__law_same) (C__law_one_right : CA w K mg base k "_law_one_right" ["_law_tin", "_law_plan", "_law_k", "_law_zoom"] R__law_one_right) (f : Addr) (cdv : Value) (A : Around) (outer : List Env) (s : Shared) (H : Hp) (E : XK) (hr : Room k (A.deeper (envOfC "_law_plans_right" (defScope (topS 77)) s.heap.objs.size f cdv))) :
    ∃ ts, AB (cxOf CX0 PR w K mg base ["_law_tin", "_law_plan", "_law_other", "_law_zoom", "_law_x", "_law_y", "_law_many_so", "_law_lot_so", "_law_got", "_law_due", "_law_table_so", "_law_last_so", "_law_half_so", "_law_j", "_law_i", "_law_spot", "_law_there", "_law_k"] "_law_plans_right" (defScope (topS 77)) f cdv A outer s H E).nox (defBody (topS 77)) ts (t__law_plans_right R__law_drawn_plan R__law_number R__law_take R_is_map R_turned R__law_lists R__law_plan_half R_part_of R_joined R_map_moved R_spread R_sized R__law_plan_by R_sides_turned R_do_cover R__law_covers R__law_same R__law_one_right) := by
  exact ⟨_, (ab_cons (as_unp3 1 2 3 (by rfl) (by exact sc__law_plans_right.nd) (ak_d (ae_call C__law_drawn_plan hr (aa_tin 0 aa_nil)) (ak_d (ae_call C__law_drawn_plan hr (aa_tin 0 aa_nil)) (ak_d (ae_call C__law_number hr (aa_tin 0 (aa_cons ae_int (aa_cons ae_int aa_nil)))) ak_nil)))) (ab_cons (as_par3 4 5 6 (by rfl) (by exact sc__law_plans_right.nd) (ak_d (ae_op od_sub (ae_call C__law_take hr (aa_tin 0 (aa_cons ae_int aa_nil))) ae_int) (ak_d (ae_op od_sub (ae_call C__law_take hr (aa_tin 0 (aa_cons ae_int aa_nil))) ae_int) (ak_d (ae_op od_add ae_int (ae_call C__law_take hr (aa_tin 0 (aa_cons ae_int aa_nil)))) ak_nil)))) (ab_cons (as_set 7 (by exact sc__law_plans_right.nd) (ae_callTy cd_tuple (by rfl) (by exact z.free 73) (by decide +kernel) (ad_cons (AL.ae (al_lcE (by rfl) (by exact sc__law_plans_right.nd) (own := [("_law_k", 17)]) (blkOk_by (by kernel_rfl)) rfl (ai_range1 (by rfl) (by exact z.free 83) (ad_cons (ae_callB cd_len (by rfl) (by exact z.free 77) (by decide +kernel) (ad_cons (ae_var 1) ad_nil)) ad_nil)) (fun _ _ _ _ _ => ⟨_, (ag_name 17 (by exact sc__law_plans_right.nd))⟩) (fun _ _ _ _ _ => ⟨_, (ats_one (AW.at_ (aw_or (at_cmp od_eq (ae_var 17) ae_int (nomark _)) (aw_or1 (at_cmp od_eq (ae_call C__law_take hr (aa_tin 0 (aa_cons ae_int aa_nil))) ae_int (nomark _))))))⟩) (fun _ _ _ _ _ => ⟨_, (ae_var 17)⟩))) ad_nil))) (ab_cons (as_setL 8 (by exact sc__law_plans_right.nd) (al_lst (ad_cons (ae_call C_is_map hr (aa_cons (ae_var 1) aa_nil)) (ad_cons (ae_call C_turned hr (aa_cons (ae_call C__law_lists hr (aa_cons (ae_var 1) aa_nil)) aa_nil)) (ad_cons (ae_call C_turned hr (aa_cons (ae_call C__law_plan_half hr (aa_cons (ae_var 1) aa_nil)) aa_nil)) (ad_cons (ae_call C_part_of hr (aa_cons (ae_call C__law_lists hr (aa_cons (ae_var 1) aa_nil)) (aa_cons (ae_callTy cd_list (by rfl) (by exact z.free 72) (by decide +kernel) (ad_cons (ae_var 7) ad_nil)) aa_nil))) (ad_cons (ae_call C_joined hr (aa_cons (ae_var 1) (aa_cons (ae_call C__law_lists hr (aa_cons (ae_var 2) aa_nil)) aa_nil))) ad_nil))))))) (ab_cons (as_setL 9 (by exact sc__law_plans_right.nd) (al_lst (ad_cons ae_bl (ad_cons (ae_call C__law_plan_half hr (aa_cons (ae_var 1) aa_nil)) (ad_cons (ae_var 1) (ad_cons (ae_callTy cd_tuple (by rfl) (by exact z.free 73) (by decide +kernel) (ad_cons (AL.ae (al_lcE (by rfl) (by exact sc__law_plans_right.nd) (own := [("_law_k", 17)]) (blkOk_by (by kernel_rfl)) rfl (ai_seq (ae_var 7)) (fun _ _ _ _ _ => ⟨_, (ag_name 17 (by exact sc__law_plans_right.nd))⟩) (fun _ _ _ _ _ => ⟨_, ats_nil⟩) (fun _ _ _ _ _ => ⟨_, (ae_ix (ae_var 1) (ae_var 17))⟩))) ad_nil)) (ad_cons (ae_op od_catT (ae_var 1) (ae_var 2)) ad_nil))))))) (ab_frz 8 (ab_cons (as_setL 8 (by exact sc__law_plans_right.nd) (al_cat (ae_var 8) (ae_lst (ad_cons (ae_call C_map_moved hr (aa_cons (ae_call C__law_lists hr (aa_cons (ae_var 1) aa_nil)) (aa_cons (ae_var 4) (aa_cons (ae_var 5) aa_nil)))) (ad_cons (ae_call C_spread hr (aa_cons (ae_var 1) (aa_cons (ae_var 6) aa_nil))) (ad_cons (ae_call C_sized hr (aa_cons (ae_call C__law_lists hr (aa_cons (ae_var 1) aa_nil)) (aa_cons (ae_var 6) aa_nil))) ad_nil)))))) (ab_frz 9 (ab_cons (as_setL 9 (by exact sc__law_plans_right.nd) (al_cat (ae_var 9) (ae_lst (ad_cons (ae_call C__law_plan_by hr (aa_cons (ae_var 1) (aa_cons ae_int (aa_cons (ae_var 4) (aa_cons (ae_var 5) (aa_cons ae_int aa_nil)))))) (ad_cons (ae_call C__law_plan_by hr (aa_cons (ae_var 1) (aa_cons (ae_var 6) (aa_cons ae_int (aa_cons ae_int (aa_cons ae_int aa_nil)))))) (ad_cons (ae_call C__law_plan_by hr (aa_cons (ae_var 1) (aa_cons ae_int (aa_cons ae_int (aa_cons ae_int (aa_cons (ae_var 6) aa_nil)))))) ad_nil)))))) (ab_cons (as_set 10 (by exact sc__law_plans_right.nd) (ae_callTy cd_tuple (by rfl) (by exact z.free 73) (by decide +kernel) (ad_cons (AL.ae (al_lcE (by rfl) (by exact sc__law_plans_right.nd) (own := [("_law_j", 13)]) (blkOk_by (by kernel_rfl)) rfl (ai_range1 (by rfl) (by exact z.free 83) (ad_cons (ae_callB cd_len (by rfl) (by exact z.free 77) (by decide +kernel) (ad_cons (ae_var 1) ad_nil)) ad_nil)) (fun _ _ _ _ _ => ⟨_, (ag_name 13 (by exact sc__law_plans_right.nd))⟩) (fun _ _ _ _ _ => ⟨_, ats_nil⟩) (fun _ _ _ _ _ => ⟨_, (ae_callTy cd_tuple (by rfl) (by exact z.free 73) (by decide +kernel) (ad_cons (AL.ae (al_lcE (by rfl) (by exact sc__law_plans_right.nd) (own := [("_law_i", 14)]) (blkOk_by (by kernel_rfl)) rfl (ai_range1 (by rfl) (by exact z.free 83) (ad_cons (ae_var 13) ad_nil)) (fun _ _ _ _ _ => ⟨_, (ag_name 14 (by exact sc__law_plans_right.nd))⟩) (fun _ _ _ _ _ => ⟨_, ats_nil⟩) (fun _ _ _ _ _ => ⟨_, (ae_call C__law_take hr (aa_tin 0 (aa_cons ae_int aa_nil)))⟩))) ad_nil))⟩))) ad_nil))) (ab_cons (as_unp 11 12 (by rfl) (by exact sc__law_plans_right.nd) (ak_d (ae_op od_sub (ae_callB cd_len (by rfl) (by exact z.free 77) (by decide +kernel) (ad_cons (ae_var 1) ad_nil)) ae_int) (ak_l (al_lst ad_nil) ak_nil))) (ab_cons (as_for (by rfl) (by rfl) (ai_range1 (by rfl) (by exact z.free 83) (ad_cons (ae_callB cd_len (by rfl) (by exact z.free 77) (by decide +kernel) (ad_cons (ae_var 1) ad_nil)) ad_nil)) (ag_name 13 (by exact sc__law_plans_right.nd)) (ab_one (as_app 12 (ae_callTy cd_tuple (by rfl) (by exact z.free 73) (by decide +kernel) (ad_cons (AL.ae (al_lcE (by rfl) (by exact sc__law_plans_right.nd) (own := [("_law_i", 14)]) (blkOk_by (by kernel_rfl)) rfl (ai_range1 (by rfl) (by exact z.free 83) (ad_cons (ae_var 13) ad_nil)) (fun _ _ _ _ _ => ⟨_, (ag_name 14 (by exact sc__law_plans_right.nd))⟩) (fun _ _ _ _ _ => ⟨_, ats_nil⟩) (fun _ _ _ _ _ => ⟨_, (ae_ix (ae_ix (ae_var 10) (ae_op od_sub (ae_var 11) (ae_var 14))) (ae_op od_sub (ae_var 11) (ae_var 13)))⟩))) ad_nil))))) (ab_frz 12 (ab_frz 9 (ab_frz 8 (ab_cons (as_par 8 9 (by rfl) (by exact sc__law_plans_right.nd) (ak_l (al_cat (ae_var 8) (ae_lst (ad_cons (ae_call C_sides_turned hr (aa_cons (ae_call C__law_lists hr (aa_cons (ae_var 10) aa_nil)) aa_nil)) (ad_cons (ae_call C_sides_turned hr (aa_cons (ae_callTy cd_tuple (by rfl) (by exact z.free 73) (by decide +kernel) (ad_cons (ae_var 12) ad_nil)) aa_nil)) ad_nil)))) (ak_l (al_cat (ae_var 9) (ae_lst (ad_cons (ae_callTy cd_tuple (by rfl) (by exact z.free 73) (by decide +kernel) (ad_cons (ae_var 12) ad_nil)) (ad_cons (ae_var 10) ad_nil)))) ak_nil))) (ab_cons (as_unp 14 13 (by rfl) (by exact sc__law_plans_right.nd) (ak_d (ae_call C__law_take hr (aa_tin 0 (aa_cons (ae_callB cd_len (by rfl) (by exact z.free 77) (by decide +kernel) (ad_cons (ae_var 1) ad_nil)) aa_nil))) (ak_d (ae_call C__law_take hr (aa_tin 0 (aa_cons (ae_callB cd_len (by rfl) (by exact z.free 77) (by decide +kernel) (ad_cons (ae_var 1) ad_nil)) aa_nil))) ak_nil))) (ab_cons (as_par 15 16 (by rfl) (by exact sc__law_plans_right.nd) (ak_d (ae_tup (ad_cons (ae_call C__law_number hr (aa_tin 0 (aa_cons ae_int (aa_cons ae_int aa_nil)))) (ad_cons (ae_call C__law_number hr (aa_tin 0 (aa_cons ae_int (aa_cons ae_int aa_nil)))) ad_nil))) (ak_d (ae_tup (ad_cons (ae_call C__law_number hr (aa_tin 0 (aa_cons ae_int (aa_cons ae_int aa_nil)))) (ad_cons (ae_call C__law_number hr (aa_tin 0 (aa_cons ae_int (aa_cons ae_int aa_nil)))) ad_nil))) ak_nil))) (ab_cons (as_app 8 (ae_call C_do_cover hr (aa_cons (ae_var 1) (aa_cons (ae_var 14) (aa_cons (ae_var 15) (aa_cons (ae_var 13) (aa_cons (ae_call C__law_lists hr (aa_cons (ae_var 16) aa_nil)) aa_nil))))))) (ab_cons (as_app 9 (ae_call C__law_covers hr (aa_cons (ae_ix (ae_var 1) (ae_var 14)) (aa_cons (ae_var 15) (aa_cons (ae_ix (ae_var 1) (ae_var 13)) (aa_cons (ae_var 16) aa_nil)))))) (ab_frz 9 (ab_frz 8 (ab_one (as_ret (ae_and (ae_call C__law_same hr (aa_cons (ae_var 8) (aa_cons (ae_var 9) aa_nil))) (ae_one (ae_callB (cd_all (by rfl)) (by rfl) (by exact z.free 82) (by decide +kernel) (ad_cons (AL.ae (al_lcE (by rfl) (by exact sc__law_plans_right.nd) (own := [("_law_k", 17)]) (blkOk_by (by kernel_rfl)) rfl (ai_seq (ae_tup (ad_cons ae_int (ad_cons (ae_op od_sub (ae_callB cd_len (by rfl) (by exact z.free 77) (by decide +kernel) (ad_cons (ae_var 1) ad_nil)) ae_int) ad_nil)))) (fun _ _ _ _ _ => ⟨_, (ag_name 17 (by exact sc__law_plans_right.nd))⟩) (fun _ _ _ _ _ => ⟨_, ats_nil⟩) (fun _ _ _ _ _ => ⟨_, (ae_call C__law_one_right hr (aa_tin 0 (aa_cons (ae_var 1) (aa_cons (ae_var 17) (aa_cons (ae_var 3) aa_nil)))))⟩))) ad_nil))))))))))))))))))))))))))))⟩
/-! ### _law_looks: 0 _law_tin, 1 _law_found, 2 _law_lap, 3 _law_hold_so -/
theorem sc__law_looks : FnScope ["_law_tin", "_law_found", "_law_lap", "_law_hold_so"] ["_law_tin"] (defScope (topS 78)) := ⟨rfl, rfl, rfl, by decide +kernel, rfl, by decide +kernel, by decide +kernel⟩
def g__law_looks_L1 (R__law_take R__law_of : RD) : DG := (dgName 2)
def t__law_looks_L1 (R__law_take R__law_of : RD) : DS := (dSeq (dSet 3 (dFn R__law_of (sTin 0 (sCons (dLst (dCons (dC (.str "middle")) (dCons (dC (.str "free")) (dCons (dC (.str "left")) (dCons (dC (.str "right")) (dCons (dC (.str "over")) (dCons (dC (.str "under")) dNil))))))) sNil)))) (dApp 1 (dTup (dCons (dOp pAdd (dC (.int 1)) (dFn R__law_take (sTin 0 (sCons (dC (.int 4)) sNil)))) (dCons (dTup (dCons (dTup (dCons (dC (.str "i")) (dCons (dOp pAdd (dC (.int 1)) (dFn R__law_take (sTin 0 (sCons (dC (.int 3)) sNil)))) dNil))) dNil)) (dCons (dFn R__law_take (sTin 0 (sCons (dC (.int 2)) sNil))) (dCons (dOp pAdd (dC (.int 1)) (dFn R__law_take (sTin 0 (sCons (dC (.int 5)) sNil)))) (dCons (dC (.int 0)) (dCons (dC (.int 99)) (dCons (dVar 3) (dCons (dFn R__law_take (sTin 0 (sCons (dC (.int 4)) sNil))) (dCons (dC (.int 0)) dNil))))))))))))
def t__law_looks (R__law_take R__law_of : RD) : DS := (dSeq (dSetL 1 dNil) (dSeq (dFor (iRng1D (dCons (dOp pAdd (dC (.int 1)) (dFn R__law_take (sTin 0 (sCons (dC (.int 3)) sNil)))) dNil)) (g__law_looks_L1 R__law_take R__law_of) (t__law_looks_L1 R__law_take R__law_of)) (dFrz 1 (dRet (dCall pTuple (dCons (dVar 1) dNil))))))
theorem a__law_looks {w : World} {K : PySem.W.Frag} {mg : Str → Option Value} {base : Heap} (z : Fx K mg) {k : Nat} {R__law_take R__law_of : RD} (C__law_take : CA w K mg base k "_law_take" ["_law_tin", "_law_below_so"] R__law_take) (C__law_of : CA w K mg base k "_law_of" ["_law_tin", "_law_goods_so"] R__law_of) (f : Addr) (cdv : Value) (A : Around) (outer : List Env) (s : Shared) (H : Hp) (E : XK) (hr : Room k (A.deeper (envOfC "_law_looks" (defScope (topS 78)) s.heap.objs.size f cdv))) :
    ∃ ts, AB (cxOf CX0 PR w K mg base ["_law_tin", "_law_found", "_law_lap", "_law_hold_so"] "_law_looks" (defScope (topS 78)) f cdv A outer s H E).nox (defBody (topS 78)) ts (t__law_looks R__law_take R__law_of) := by
  exact ⟨_, (ab_cons (as_setL 1 (by exact sc__law_looks.nd) (al_lst ad_nil)) (ab_cons (as_for (by rfl) (by rfl) (ai_range1 (by rfl) (by exact z.free 83) (ad_cons (ae_op od_add ae_int (ae_call C__law_take hr (aa_tin 0 (aa_cons ae_int aa_nil)))) ad_nil)) (ag_name 2 (by exact sc__law_looks.nd)) (ab_cons (as_set 3 (by exact sc__law_looks.nd) (ae_call C__law_of hr (aa_tin 0 (aa_cons (ae_lst (ad_cons ae_str (ad_cons ae_str (ad_cons ae_str (ad_cons ae_str (ad_cons ae_str (ad_cons ae_str ad_nil))))))) aa_nil)))) (ab_one (as_app 1 (ae_tup (ad_cons (ae_op od_add ae_int (ae_call C__law_take hr (aa_tin 0 (aa_cons ae_int aa_nil)))) (ad_cons (ae_tup (ad_cons (ae_tup (ad_cons ae_str (ad_cons (ae_op od_add ae_int (ae_call C__law_take hr (aa_tin 0 (aa_cons ae_int aa_nil)))) ad_nil))) ad_nil)) (ad_cons (ae_call C__law_take hr (aa_tin 0 (aa_cons ae_int aa_nil))) (ad_cons (ae_op od_add ae_int (ae_call C__law_take hr (aa_tin 0 (aa_cons ae_int aa_nil)))) (ad_cons ae_int (ad_cons ae_int (ad_cons (ae_var 3) (ad_cons (ae_call C__law_take hr (aa_tin 0 (aa_cons ae_int aa_nil))) (ad_cons ae_int ad_nil)))))))))))))) (ab_frz 1 (ab_one (as_ret (ae_callTy cd_tuple (by rfl) (by exact z.free 73) (by decide +kernel) (ad_cons (ae_var 1) ad_nil)))))))⟩
/-! ### _law_named: 0 _law_look_so, 1 _law_word, 2 _law_patch, 3 _law_wide_so, 4 _law_high_so, 5 _law_hold_so, 6 _law_k, 7 _law_west, 8 _law_north, 9 _law_east, 10 _law_south, 11 _law_across_so, 12 _law_down_so, 13 _law_sign -/
theorem sc__law_named : FnScope ["_law_look_so", "_law_word", "_law_patch", "_law_wide_so", "_law_high_so", "_law_hold_so", "_law_k", "_law_west", "_law_north", "_law_east", "_law_south", "_law_across_so", "_law_down_so", "_law_sign"] ["_law_look_so", "_law_word", "_law_patch"] (defScope (topS 79)) := ⟨rfl, rfl, rfl, by decide +kernel, rfl, by decide +kernel, by decide +kernel⟩
def g__law_named_1 : DG := (dgName 13)
def e__law_named_1 : DE := (dIf (dTest (dOp pEq (dVar 13) (dC (.str "i")))) (dOp pIx (dOp pIx (dOp pIx (dVar 0) (dC (.int 1))) (dC (.int 0))) (dC (.int 1))) (dOp pIx (dVar 0) (dC (.int 0))))
def t__law_named : DS := (dSeq (dSet 3 (dOp pAdd (dCall pSum (dCons (dOfL (dLc (iStrD (dVar 1)) (g__law_named_1) dYes (e__law_named_1) [13])) dNil)) (dOp pMul (dOp pIx (dVar 0) (dC (.int 2))) (dOp pSub (dCall pLenS (dCons (dVar 1) dNil)) (dC (.int 1)))))) (dSeq (dPar [4, 5, 6] (kCons (dOp pIx (dVar 0) (dC (.int 3))) (kCons (dOp pIx (dVar 0) (dC (.int 6))) (kCons (dOp pIx (dVar 0) (dC (.int 7))) sNil)))) (dSeq (dAsg (dVar 2) (dgTup 4 (dgCons (dgName 7) (dgCons (dgName 8) (dgCons (dgName 9) (dgCons (dgName 10) dgNil)))))) (dSeq (dPar [11, 12] (kCons (dTup (dCons (dVar 7) (dCons (dOp pAdd (dOp pFdiv (dVar 3) (dC (.int 2))) (dVar 6)) (dCons (dVar 9) (dCons (dOp pSub (dVar 6) (dOp pFdiv (dVar 3) (dC (.int 2)))) dNil))))) (kCons (dTup (dCons (dVar 8) (dCons (dOp pAdd (dOp pFdiv (dVar 4) (dC (.int 2))) (dVar 6)) (dCons (dVar 10) (dCons (dOp pSub (dVar 6) (dOp pFdiv (dVar 4) (dC (.int 2)))) dNil))))) sNil))) (dSeq (dIfS (dTest (dOp pEq (dVar 5) (dC (.str "free")))) (dPar [11, 12] (kCons (dTup (dCons (dVar 7) (dCons (dOp pAdd (dVar 3) (dVar 6)) (dCons (dVar 9) (dCons (dVar 6) dNil))))) (kCons (dTup (dCons (dVar 8) (dCons (dOp pAdd (dVar 4) (dVar 6)) (dCons (dVar 10) (dCons (dVar 6) dNil))))) sNil))) (dIfS (dTest (dOp (pInT false) (dVar 5) (dTup (dCons (dC (.str "left")) (dCons (dC (.str "right")) dNil))))) (dSet 11 (dIf (dTest (dOp pEq (dVar 5) (dC (.str "left")))) (dTup (dCons (dVar 7) (dCons (dOp pAdd (dVar 3) (dVar 6)) (dCons (dVar 7) (dCons (dUn pNeg (dVar 3)) dNil))))) (dTup (dCons (dVar 9) (dCons (dC (.int 0)) (dCons (dVar 9) (dCons (dVar 6) dNil))))))) (dIfS (dTest (dOp (pInT false) (dVar 5) (dTup (dCons (dC (.str "over")) (dCons (dC (.str "under")) dNil))))) (dSet 12 (dIf (dTest (dOp pEq (dVar 5) (dC (.str "over")))) (dTup (dCons (dVar 8) (dCons (dOp pAdd (dVar 4) (dVar 6)) (dCons (dVar 8) (dCons (dUn pNeg (dVar 4)) dNil))))) (dTup (dCons (dVar 10) (dCons (dC (.int 0)) (dCons (dVar 10) (dCons (dVar 6) dNil))))))) dNext))) (dRet (dTup (dCons (dVar 3) (dCons (dVar 4) (dCons (dVar 11) (dCons (dVar 12) dNil)))))))))))
theorem a__law_named {w : World} {K : PySem.W.Frag} {mg : Str → Option Value} {base : Heap} (z : Fx K mg) {k : Nat} (f : Addr) (cdv : Value) (A : Around) (outer : List Env) (s : Shared) (H : Hp) (E : XK) (hr : Room k (A.deeper (envOfC "_law_named" (defScope (topS 79)) s.heap.objs.size f cdv))) :
    ∃ ts, AB (cxOf CX0 PR w K mg base ["_law_look_so", "_law_word", "_law_patch", "_law_wide_so", "_law_high_so", "_law_hold_so", "_law_k", "_law_west", "_law_north", "_law_east", "_law_south", "_law_across_so", "_law_down_so", "_law_sign"] "_law_named" (defScope (topS 79)) f cdv A outer s H E).nox (defBody (topS 79)) ts (t__law_named) := by
  exact ⟨_, (ab_cons (as_set 3 (by exact sc__law_named.nd) (ae_op od_add (ae_callB (cd_sum (by rfl)) (by rfl) (by exact z.free 79) (by decide +kernel) (ad_cons (AL.ae (al_lcE (by rfl) (by exact sc__law_named.nd) (own := [("_law_sign", 13)]) (blkOk_by (by kernel_rfl)) rfl (ai_str (ae_var 1)) (fun _ _ _ _ _ => ⟨_, (ag_name 13 (by exact sc__law_named.nd))⟩) (fun _ _ _ _ _ => ⟨_, ats_nil⟩) (fun _ _ _ _ _ => ⟨_, (ae_if (at_cmp od_eq (ae_var 13) ae_str (nomark _)) (ae_ix (ae_ix (ae_ix (ae_var 0) ae_int) ae_int) ae_int) (ae_ix (ae_var 0) ae_int))⟩))) ad_nil)) (ae_op od_mul (ae_ix (ae_var 0) ae_int) (ae_op od_sub (ae_callB cd_lenS (by rfl) (by exact z.free 77) (by decide +kernel) (ad_cons (ae_var 1) ad_nil)) ae_int)))) (ab_cons (as_par3 4 5 6 (by rfl) (by exact sc__law_named.nd) (ak_d (ae_ix (ae_var 0) ae_int) (ak_d (ae_ix (ae_var 0) ae_int) (ak_d (ae_ix (ae_var 0) ae_int) ak_nil)))) (ab_cons (as_asg (ae_var 2) (ag_tup (by rfl) (ags_cons (ag_name 7 (by exact sc__law_named.nd)) (ags_cons (ag_name 8 (by exact sc__law_named.nd)) (ags_cons (ag_name 9 (by exact sc__law_named.nd)) (ags_cons (ag_name 10 (by exact sc__law_named.nd)) ags_nil)))))) (ab_cons (as_par 11 12 (by rfl) (by exact sc__law_named.nd) (ak_d (ae_tup (ad_cons (ae_var 7) (ad_cons (ae_op od_add (ae_op od_fdiv (ae_var 3) ae_int) (ae_var 6)) (ad_cons (ae_var 9) (ad_cons (ae_op od_sub (ae_var 6) (ae_op od_fdiv (ae_var 3) ae_int)) ad_nil))))) (ak_d (ae_tup (ad_cons (ae_var 8) (ad_cons (ae_op od_add (ae_op od_fdiv (ae_var 4) ae_int) (ae_var 6)) (ad_cons (ae_var 10) (ad_cons (ae_op od_sub (ae_var 6) (ae_op od_fdiv (ae_var 4) ae_int)) ad_nil))))) ak_nil))) (ab_cons (as_if (at_cmp od_eq (ae_var 5) ae_str (nomark _)) (ab_one (as_par 11 12 (by rfl) (by exact sc__law_named.nd) (ak_d (ae_tup (ad_cons (ae_var 7) (ad_cons (ae_op od_add (ae_var 3) (ae_var 6)) (ad_cons (ae_var 9) (ad_cons (ae_var 6) ad_nil))))) (ak_d (ae_tup (ad_cons (ae_var 8) (ad_cons (ae_op od_add (ae_var 4) (ae_var 6)) (ad_cons (ae_var 10) (ad_cons (ae_var 6) ad_nil))))) ak_nil)))) (ab_one (as_if (at_cmp od_inT (ae_var 5) (ae_tup (ad_cons ae_str (ad_cons ae_str ad_nil))) (by rfl)) (ab_one (as_set 11 (by exact sc__law_named.nd) (ae_if (at_cmp od_eq (ae_var 5) ae_str (nomark _)) (ae_tup (ad_cons (ae_var 7) (ad_cons (ae_op od_add (ae_var 3) (ae_var 6)) (ad_cons (ae_var 7) (ad_cons (ae_neg (ae_var 3)) ad_nil))))) (ae_tup (ad_cons (ae_var 9) (ad_cons ae_int (ad_cons (ae_var 9) (ad_cons (ae_var 6) ad_nil)))))))) (ab_one (as_if (at_cmp od_inT (ae_var 5) (ae_tup (ad_cons ae_str (ad_cons ae_str ad_nil))) (by rfl)) (ab_one (as_set 12 (by exact sc__law_named.nd) (ae_if (at_cmp od_eq (ae_var 5) ae_str (nomark _)) (ae_tup (ad_cons (ae_var 8) (ad_cons (ae_op od_add (ae_var 4) (ae_var 6)) (ad_cons (ae_var 8) (ad_cons (ae_neg (ae_var 4)) ad_nil))))) (ae_tup (ad_cons (ae_var 10) (ad_cons ae_int (ad_cons (ae_var 10) (ad_cons (ae_var 6) ad_nil)))))))) ab_nil))))) (ab_one (as_ret (ae_tup (ad_cons (ae_var 3) (ad_cons (ae_var 4) (ad_cons (ae_var 11) (ad_cons (ae_var 12) ad_nil))))))))))))⟩
/-! ### _law_leaf: 0 _law_tin, 1 _law_many_so, 2 _law_x, 3 _law_y, 4 _law_kind_so, 5 _law_class_so, 6 _law_word, 7 _law_one, 8 _law_two, 9 _law_road -/
theorem sc__law_leaf : FnScope ["_law_tin", "_law_many_so", "_law_x", "_law_y", "_law_kind_so", "_law_class_so", "_law_word", "_law_one", "_law_two", "_law_road"] ["_law_tin", "_law_many_so"] (defScope (topS 80)) := ⟨rfl, rfl, rfl, by decide +kernel, rfl, by decide +kernel, by decide +kernel⟩
def t__law_leaf (R__law_take R__law_of : RD) : DS := (dSeq (dPar [2, 3, 4] (kCons (dOp pSub (dFn R__law_take (sTin 0 (sCons (dC (.int 21)) sNil))) (dC (.int 10))) (kCons (dOp pSub (dFn R__law_take (sTin 0 (sCons (dC (.int 21)) sNil))) (dC (.int 10))) (kCons (dFn R__law_take (sTin 0 (sCons (dC (.int 3)) sNil))) sNil)))) (dSeq (dPar [5, 6] (kCons (dFn R__law_take (sTin 0 (sCons (dVar 1) sNil))) (kCons (dFn R__law_of (sTin 0 (sCons (dLst (dCons (dC (.str "Fiji")) (dCons (dC (.str "i")) (dCons (dC (.str "mill")) (dCons (dC (.str "Top-7")) dNil))))) sNil))) sNil))) (dSeq (dIfS (dTest (dOp pEq (dVar 4) (dC (.int 0)))) (dRet (dTup (dCons (dTup (dCons (dVar 5) (dCons (dVar 6) (dCons (dC (.int 0)) (dCons (dTup (dCons (dVar 2) (dCons (dVar 3) dNil))) dNil))))) (dCons (dTup (dCons (dVar 2) (dCons (dVar 3) (dCons (dVar 2) (dCons (dVar 3) dNil))))) dNil)))) dNext) (dSeq (dPar [7, 8] (kCons (dFn R__law_take (sTin 0 (sCons (dC (.int 5)) sNil))) (kCons (dFn R__law_take (sTin 0 (sCons (dC (.int 5)) sNil))) sNil))) (dSeq (dIfS (dTest (dOp pEq (dVar 4) (dC (.int 1)))) (dSeq (dSet 9 (dTup (dCons (dTup (dCons (dOp pSub (dVar 2) (dC (.int 1))) (dCons (dVar 3) dNil))) (dCons (dTup (dCons (dOp pAdd (dVar 2) (dC (.int 9))) (dCons (dVar 3) dNil))) (dCons (dTup (dCons (dOp pAdd (dVar 2) (dC (.int 9))) (dCons (dOp pAdd (dVar 3) (dC (.int 9))) dNil))) dNil))))) (dRet (dTup (dCons (dTup (dCons (dVar 5) (dCons (dVar 6) (dCons (dC (.int 1)) (dCons (dTup (dCons (dVar 9) (dCons (dOp pAdd (dVar 7) (dC (.int 1))) (dCons (dOp pAdd (dOp pAdd (dVar 7) (dVar 8)) (dC (.int 1))) dNil)))) dNil))))) (dCons (dTup (dCons (dOp pAdd (dVar 2) (dVar 7)) (dCons (dVar 3) (dCons (dOp pAdd (dOp pAdd (dVar 2) (dVar 7)) (dVar 8)) (dCons (dVar 3) dNil))))) dNil))))) dNext) (dRet (dTup (dCons (dTup (dCons (dVar 5) (dCons (dVar 6) (dCons (dC (.int 2)) (dCons (dTup (dCons (dVar 2) (dCons (dVar 3) (dCons (dOp pAdd (dVar 2) (dVar 7)) (dCons (dOp pAdd (dVar 3) (dVar 8)) dNil))))) dNil))))) (dCons (dTup (dCons (dVar 2) (dCons (dVar 3) (dCons (dOp pAdd (dVar 2) (dVar 7)) (dCons (dOp pAdd (dVar 3) (dVar 8)) dNil))))) dNil)))))))))
theorem a__law_leaf {w : World} {K : PySem.W.Frag} {mg : Str → Option Value} {base : Heap} (z : Fx K mg) {k : Nat} {R__law_take R__law_of : RD} (C__law_take : CA w K mg base k "_law_take" ["_law_tin", "_law_below_so"] R__law_take) (C__law_of : CA w K mg base k "_law_of" ["_law_tin", "_law_goods_so"] R__law_of) (f : Addr) (cdv : Value) (A : Around) (outer : List Env) (s : Shared) (H : Hp) (E : XK) (hr : Room k (A.deeper (envOfC "_law_leaf" (defScope (topS 80)) s.heap.objs.size f cdv))) :
    ∃ ts, AB (cxOf CX0 PR w K mg base ["_law_tin", "_law_many_so", "_law_x", "_law_y", "_law_kind_so", "_law_class_so", "_law_word", "_law_one", "_law_two", "_law_road"] "_law_leaf" (defScope (topS 80)) f cdv A outer s H E).nox (defBody (topS 80)) ts (t__law_leaf R__law_take R__law_of) := by
  exact ⟨_, (ab_cons (as_par3 2 3 4 (by rfl) (by exact sc__law_leaf.nd) (ak_d (ae_op od_sub (ae_call C__law_take hr (aa_tin 0 (aa_cons ae_int aa_nil))) ae_int) (ak_d (ae_op od_sub (ae_call C__law_take hr (aa_tin 0 (aa_cons ae_int aa_nil))) ae_int) (ak_d (ae_call C__law_take hr (aa_tin 0 (aa_cons ae_int aa_nil))) ak_nil)))) (ab_cons (as_par 5 6 (by rfl) (by exact sc__law_leaf.nd) (ak_d (ae_call C__law_take hr (aa_tin 0 (aa_cons (ae_var 1) aa_nil))) (ak_d (ae_call C__law_of hr (aa_tin 0 (aa_cons (ae_lst (ad_cons ae_str (ad_cons ae_str (ad_cons ae_str (ad_cons ae_str ad_nil))))) aa_nil))) ak_nil))) (ab_cons (as_if (at_cmp od_eq (ae_var 4) ae_int (nomark _)) (ab_one (as_ret (ae_tup (ad_cons (ae_tup (ad_cons (ae_var 5) (ad_cons (ae_var 6) (ad_cons ae_int (ad_cons (ae_tup (ad_cons (ae_var 2) (ad_cons (ae_var 3) ad_nil))) ad_nil))))) (ad_cons (ae_tup (ad_cons (ae_var 2) (ad_cons (ae_var 3) (ad_cons (ae_var 2) (ad_cons (ae_var 3) ad_nil))))) ad_nil))))) ab_nil) (ab_cons (as_par 7 8 (by rfl) (by exact sc__law_leaf.nd) (ak_d (ae_call C__law_take hr (aa_tin 0 (aa_cons ae_int aa_nil))) (ak_d (ae_call C__law_take hr (aa_tin 0 (aa_cons ae_int aa_nil))) ak_nil))) (ab_cons (as_if (at_cmp od_eq (ae_var 4) ae_int (nomark _)) (ab_cons (as_set 9 (by exact sc__law_leaf.nd) (ae_tup (ad_cons (ae_tup (ad_cons (ae_op od_sub (ae_var 2) ae_int) (ad_cons (ae_var 3) ad_nil))) (ad_cons (ae_tup (ad_cons (ae_op od_add (ae_var 2) ae_int) (ad_cons (ae_var 3) ad_nil))) (ad_cons (ae_tup (ad_cons (ae_op od_add (ae_var 2) ae_int) (ad_cons (ae_op od_add (ae_var 3) ae_int) ad_nil))) ad_nil))))) (ab_one (as_ret (ae_tup (ad_cons (ae_tup (ad_cons (ae_var 5) (ad_cons (ae_var 6) (ad_cons ae_int (ad_cons (ae_tup (ad_cons (ae_var 9) (ad_cons (ae_op od_add (ae_var 7) ae_int) (ad_cons (ae_op od_add (ae_op od_add (ae_var 7) (ae_var 8)) ae_int) ad_nil)))) ad_nil))))) (ad_cons (ae_tup (ad_cons (ae_op od_add (ae_var 2) (ae_var 7)) (ad_cons (ae_var 3) (ad_cons (ae_op od_add (ae_op od_add (ae_var 2) (ae_var 7)) (ae_var 8)) (ad_cons (ae_var 3) ad_nil))))) ad_nil)))))) ab_nil) (ab_one (as_ret (ae_tup (ad_cons (ae_tup (ad_cons (ae_var 5) (ad_cons (ae_var 6) (ad_cons ae_int (ad_cons (ae_tup (ad_cons (ae_var 2) (ad_cons (ae_var 3) (ad_cons (ae_op od_add (ae_var 2) (ae_var 7)) (ad_cons (ae_op od_add (ae_var 3) (ae_var 8)) ad_nil))))) ad_nil))))) (ad_cons (ae_tup (ad_cons (ae_var 2) (ad_cons (ae_var 3) (ad_cons (ae_op od_add (ae_var 2) (ae_var 7)) (ad_cons (ae_op od_add (ae_var 3) (ae_var 8)) ad_nil))))) ad_nil))))))))))⟩
/-! ### _law_moved: 0 _law_leaf_here, 1 _law_x, 2 _law_y, 3 _law_class_so, 4 _law_word, 5 _law_kind_so, 6 _law_where, 7 _law_k, 8 _law_own -/
theorem sc__law_moved : FnScope ["_law_leaf_here", "_law_x", "_law_y", "_law_class_so", "_law_word", "_law_kind_so", "_law_where", "_law_k", "_law_own"] ["_law_leaf_here", "_law_x", "_law_y"] (defScope (topS 81)) := ⟨rfl, rfl, rfl, by decide +kernel, rfl, by decide +kernel, by decide +kernel⟩
def g__law_moved_1 : DG := (dgName 8)
def e__law_moved_1 : DE := (dTup (dCons (dOp pAdd (dOp pIx (dVar 8) (dC (.int 0))) (dVar 1)) (dCons (dOp pAdd (dOp pIx (dVar 8) (dC (.int 1))) (dVar 2)) dNil)))
def g__law_moved_2 : DG := (dgTup 2 (dgCons (dgName 7) (dgCons (dgName 8) dgNil)))
def e__law_moved_2 : DE := (dOp pAdd (dVar 8) (dOp pIx (dTup (dCons (dVar 1) (dCons (dVar 2) dNil))) (dOp pMod (dCall pInt (dCons (dVar 7) dNil)) (dC (.int 2)))))
def t__law_moved : DS := (dSeq (dAsg (dVar 0) (dgTup 4 (dgCons (dgName 3) (dgCons (dgName 4) (dgCons (dgName 5) (dgCons (dgName 6) dgNil)))))) (dSeq (dIfS (dTest (dOp pEq (dVar 5) (dC (.int 1)))) (dRet (dTup (dCons (dVar 3) (dCons (dVar 4) (dCons (dC (.int 1)) (dCons (dTup (dCons (dCall pTuple (dCons (dOfL (dLc (iSeqD (dOp pIx (dVar 6) (dC (.int 0)))) (g__law_moved_1) dYes (e__law_moved_1) [8])) dNil)) (dCons (dOp pIx (dVar 6) (dC (.int 1))) (dCons (dOp pIx (dVar 6) (dC (.int 2))) dNil)))) dNil)))))) dNext) (dRet (dTup (dCons (dVar 3) (dCons (dVar 4) (dCons (dVar 5) (dCons (dCall pTuple (dCons (dOfL (dLc (iEnumDT (dCons (dVar 6) dNil)) (g__law_moved_2) dYes (e__law_moved_2) [7, 8])) dNil)) dNil))))))))
theorem a__law_moved {w : World} {K : PySem.W.Frag} {mg : Str → Option Value} {base : Heap} (z : Fx K mg) {k : Nat} (f : Addr) (cdv : Value) (A : Around) (outer : List Env) (s : Shared) (H : Hp) (E : XK) (hr : Room k (A.deeper (envOfC "_law_moved" (defScope (topS 81)) s.heap.objs.size f cdv))) :
    ∃ ts, AB (cxOf CX0 PR w K mg base ["_law_leaf_here", "_law_x", "_law_y", "_law_class_so", "_law_word", "_law_kind_so", "_law_where", "_law_k", "_law_own"] "_law_moved" (defScope (topS 81)) f cdv A outer s H E).nox (defBody (topS 81)) ts (t__law_moved) := by
  exact ⟨_, (ab_cons (as_asg (ae_var 0) (ag_tup (by rfl) (ags_cons (ag_name 3 (by exact sc__law_moved.nd)) (ags_cons (ag_name 4 (by exact sc__law_moved.nd)) (ags_cons (ag_name 5 (by exact sc__law_moved.nd)) (ags_cons (ag_name 6 (by exact sc__law_moved.nd)) ags_nil)))))) (ab_cons (as_if (at_cmp od_eq (ae_var 5) ae_int (nomark _)) (ab_one (as_ret (ae_tup (ad_cons (ae_var 3) (ad_cons (ae_var 4) (ad_cons ae_int (ad_cons (ae_tup (ad_cons (ae_callTy cd_tuple (by rfl) (by exact z.free 73) (by decide +kernel) (ad_cons (AL.ae (al_lcE (by rfl) (by exact sc__law_moved.nd) (own := [("_law_own", 8)]) (blkOk_by (by kernel_rfl)) rfl (ai_seq (ae_ix (ae_var 6) ae_int)) (fun _ _ _ _ _ => ⟨_, (ag_name 8 (by exact sc__law_moved.nd))⟩) (fun _ _ _ _ _ => ⟨_, ats_nil⟩) (fun _ _ _ _ _ => ⟨_, (ae_tup (ad_cons (ae_op od_add (ae_ix (ae_var 8) ae_int) (ae_var 1)) (ad_cons (ae_op od_add (ae_ix (ae_var 8) ae_int) (ae_var 2)) ad_nil)))⟩))) ad_nil)) (ad_cons (ae_ix (ae_var 6) ae_int) (ad_cons (ae_ix (ae_var 6) ae_int) ad_nil)))) ad_nil))))))) ab_nil) (ab_one (as_ret (ae_tup (ad_cons (ae_var 3) (ad_cons (ae_var 4) (ad_cons (ae_var 5) (ad_cons (ae_callTy cd_tuple (by rfl) (by exact z.free 73) (by decide +kernel) (ad_cons (AL.ae (al_lcE (by rfl) (by exact sc__law_moved.nd) (own := [("_law_k", 7), ("_law_own", 8)]) (blkOk_by (by kernel_rfl)) rfl (ai_enumT (by rfl) (by exact z.free 85) (ad_cons (ae_var 6) ad_nil)) (fun _ _ _ _ _ => ⟨_, (ag_tup (by rfl) (ags_cons (ag_name 7 (by exact sc__law_moved.nd)) (ags_cons (ag_name 8 (by exact sc__law_moved.nd)) ags_nil)))⟩) (fun _ _ _ _ _ => ⟨_, ats_nil⟩) (fun _ _ _ _ _ => ⟨_, (ae_op od_add (ae_var 8) (ae_ix (ae_tup (ad_cons (ae_var 1) (ad_cons (ae_var 2) ad_nil))) (ae_op od_mod (ae_callTy cd_int (by rfl) (by exact z.free 74) (by decide +kernel) (ad_cons (ae_var 7) ad_nil)) ae_int)))⟩))) ad_nil)) ad_nil)))))))))⟩
/-! ### _law_pages_right: 0 _law_tin, 1 _law_looks_so, 2 _law_rows_so, 3 _law_x, 4 _law_y, 5 _law_sheet, 6 _law_plan, 7 _law_got, 8 _law_lap, 9 _law_own -/
theorem sc__law_pages_right : FnScope ["_law_tin", "_law_looks_so", "_law_rows_so", "_law_x", "_law_y", "_law_sheet", "_law_plan", "_law_got", "_law_lap", "_law_own"] ["_law_tin"] (defScope (topS 82)) := ⟨rfl, rfl, rfl, by decide +kernel, rfl, by decide +kernel, by decide +kernel⟩
def g__law_pages_right_1 (R__law_looks R__law_take R__law_leaf R__law_named R_map_of R__law_lists R__law_moved R__law_same R__law_plan_by : RD) : DG := (dgName 8)
def e__law_pages_right_1 (R__law_looks R__law_take R__law_leaf R__law_named R_map_of R__law_lists R__law_moved R__law_same R__law_plan_by : RD) : DE := (dFn R__law_leaf (sTin 0 (sCons (dCall pLen (dCons (dVar 1) dNil)) sNil)))
def g__law_pages_right_2 (R__law_looks R__law_take R__law_leaf R__law_named R_map_of R__law_lists R__law_moved R__law_same R__law_plan_by : RD) : DG := (dgName 9)
def e__law_pages_right_2 (R__law_looks R__law_take R__law_leaf R__law_named R_map_of R__law_lists R__law_moved R__law_same R__law_plan_by : RD) : DE := (dOp pIx (dVar 9) (dC (.int 0)))
def g__law_pages_right_3 (R__law_looks R__law_take R__law_leaf R__law_named R_map_of R__law_lists R__law_moved R__law_same R__law_plan_by : RD) : DG := (dgName 9)
def e__law_pages_right_3 (R__law_looks R__law_take R__law_leaf R__law_named R_map_of R__law_lists R__law_moved R__law_same R__law_plan_by : RD) : DE := (dFn R__law_named (sCons (dOp pIx (dVar 1) (dOp pIx (dOp pIx (dVar 9) (dC (.int 0))) (dC (.int 0)))) (sCons (dOp pIx (dOp pIx (dVar 9) (dC (.int 0))) (dC (.int 1))) (sCons (dOp pIx (dVar 9) (dC (.int 1))) sNil))))
def g__law_pages_right_4 (R__law_looks R__law_take R__law_leaf R__law_named R_map_of R__law_lists R__law_moved R__law_same R__law_plan_by : RD) : DG := (dgName 9)
def e__law_pages_right_4 (R__law_looks R__law_take R__law_leaf R__law_named R_map_of R__law_lists R__law_moved R__law_same R__law_plan_by : RD) : DE := (dFn R__law_moved (sCons (dVar 9) (sCons (dVar 3) (sCons (dVar 4) sNil))))
def t__law_pages_right (R__law_looks R__law_take R__law_leaf R__law_named R_map_of R__law_lists R__law_moved R__law_same R__law_plan_by : RD) : DS := (dSeq (dSet 1 (dFn R__law_looks (sTin 0 sNil))) (dSeq (dSetL 2 (dLc (iRng1D (dCons (dOp pAdd (dC (.int 1)) (dFn R__law_take (sTin 0 (sCons (dC (.int 4)) sNil)))) dNil)) (g__law_pages_right_1 R__law_looks R__law_take R__law_leaf R__law_named R_map_of R__law_lists R__law_moved R__law_same R__law_plan_by) dYes (e__law_pages_right_1 R__law_looks R__law_take R__law_leaf R__law_named R_map_of R__law_lists R__law_moved R__law_same R__law_plan_by) [8])) (dFrz 2 (dSeq (dPar [3, 4] (kCons (dOp pSub (dFn R__law_take (sTin 0 (sCons (dC (.int 41)) sNil))) (dC (.int 20))) (kCons (dOp pSub (dFn R__law_take (sTin 0 (sCons (dC (.int 41)) sNil))) (dC (.int 20))) sNil))) (dSeq (dPar [5, 6] (kCons (dCall pTuple (dCons (dOfL (dLc (iSeqD (dVar 2)) (g__law_pages_right_2 R__law_looks R__law_take R__law_leaf R__law_named R_map_of R__law_lists R__law_moved R__law_same R__law_plan_by) dYes (e__law_pages_right_2 R__law_looks R__law_take R__law_leaf R__law_named R_map_of R__law_lists R__law_moved R__law_same R__law_plan_by) [9])) dNil)) (kCons (dCall pTuple (dCons (dOfL (dLc (iSeqD (dVar 2)) (g__law_pages_right_3 R__law_looks R__law_take R__law_leaf R__law_named R_map_of R__law_lists R__law_moved R__law_same R__law_plan_by) dYes (e__law_pages_right_3 R__law_looks R__law_take R__law_leaf R__law_named R_map_of R__law_lists R__law_moved R__law_same R__law_plan_by) [9])) dNil)) sNil))) (dSeq (dSet 7 (dLst (dCons (dFn R_map_of (sCons (dFn R__law_lists (sCons (dVar 5) sNil)) (sCons (dFn R__law_lists (sCons (dVar 1) sNil)) sNil))) (dCons (dFn R_map_of (sCons (dCall pTuple (dCons (dOfL (dLc (iSeqD (dVar 5)) (g__law_pages_right_4 R__law_looks R__law_take R__law_leaf R__law_named R_map_of R__law_lists R__law_moved R__law_same R__law_plan_by) dYes (e__law_pages_right_4 R__law_looks R__law_take R__law_leaf R__law_named R_map_of R__law_lists R__law_moved R__law_same R__law_plan_by) [9])) dNil)) (sCons (dVar 1) sNil))) dNil)))) (dRet (dFn R__law_same (sCons (dVar 7) (sCons (dLst (dCons (dVar 6) (dCons (dFn R__law_plan_by (sCons (dVar 6) (sCons (dC (.int 1)) (sCons (dVar 3) (sCons (dVar 4) (sCons (dC (.int 1)) sNil)))))) dNil))) sNil))))))))))
theorem a__law_pages_right {w : World} {K : PySem.W.Frag} {mg : Str → Option Value} {base : Heap} (z : Fx K mg) {k : Nat} {R__law_looks R__law_take R__law_leaf R__law_named R_map_of R__law_lists R__law_moved R__law_same R__law_plan_by : RD} (C__law_looks : CA w K mg base k "_law_looks" ["_law_tin"] R__law_looks) (C__law_take : CA w K mg base k "_law_take" ["_law_tin", "_law_below_so"] R__law_take) (C__law_leaf : CA w K mg base k "_law_leaf" ["_law_tin", "_law_many_so"] R__law_leaf) (C__law_named : CA w K mg base k "_law_named" ["_law_look_so", "_law_word", "_law_patch"] R__law_named) (C_map_of : CA w K mg base k "map_of" ["page", "styles"] R_map_of) (C__law_lists : CA w K mg base k "_law_lists" ["_law_matter"] R__law_lists) (C__law_moved : CA w K mg base k "_law_moved" ["_law_leaf_here", "_law_x", "_law_y"] R__law_moved) (C__law_same : CA w K mg base k "_law_same" ["_law_got", "_law_due"] R__law_same) (C__law_plan_by : CA w K mg base k "_law_plan_by" ["_law_plan", "_law_many_so", "_law_x", "_law_y", "_law_sized_so"] R__law_plan_by) (f : Addr) (cdv : Value) (A : Around) (outer : List Env) (s : Shared) (H : Hp) (E : XK) (hr : Room k (A.deeper (envOfC "_law_pages_right" (defScope (topS 82)) s.heap.objs.size f cdv))) :
    ∃ ts, AB (cxOf CX0 PR w K mg base ["_law_tin", "_law_looks_so", "_law_rows_so", "_law_x", "_law_y", "_law_sheet", "_law_plan", "_law_got", "_law_lap", "_law_own"] "_law_pages_right" (defScope (topS 82)) f cdv A outer s H E).nox (defBody (topS 82)) ts (t__law_pages_right R__law_looks R__law_take R__law_leaf R__law_named R_map_of R__law_lists R__law_moved R__law_same R__law_plan_by) := by
  exact ⟨_, (ab_cons (as_set 1 (by exact sc__law_pages_right.nd) (ae_call C__law_looks hr (aa_tin 0 aa_nil))) (ab_cons (as_setLcE 2 (by rfl) (by exact sc__law_pages_right.nd) (by rfl) (by rfl) (by rfl) (own := [("_law_lap", 8)]) (blkOk_by (by kernel_rfl)) rfl (ai_range1 (by rfl) (by exact z.free 83) (ad_cons (ae_op od_add ae_int (ae_call C__law_take hr (aa_tin 0 (aa_cons ae_int aa_nil)))) ad_nil)) (fun _ _ _ _ _ => ⟨_, (ag_name 8 (by exact sc__law_pages_right.nd))⟩) (fun _ _ _ _ _ => ⟨_, ats_nil⟩) (fun _ _ _ _ _ => ⟨_, (ae_call C__law_leaf hr (aa_tin 0 (aa_cons (ae_callB cd_len (by rfl) (by exact z.free 77) (by decide +kernel) (ad_cons (ae_var 1) ad_nil)) aa_nil)))⟩)) (ab_frz 2 (ab_cons (as_unp 3 4 (by rfl) (by exact sc__law_pages_right.nd) (ak_d (ae_op od_sub (ae_call C__law_take hr (aa_tin 0 (aa_cons ae_int aa_nil))) ae_int) (ak_d (ae_op od_sub (ae_call C__law_take hr (aa_tin 0 (aa_cons ae_int aa_nil))) ae_int) ak_nil))) (ab_cons (as_par 5 6 (by rfl) (by exact sc__law_pages_right.nd) (ak_d (ae_callTy cd_tuple (by rfl) (by exact z.free 73) (by decide +kernel) (ad_cons (AL.ae (al_lcE (by rfl) (by exact sc__law_pages_right.nd) (own := [("_law_own", 9)]) (blkOk_by (by kernel_rfl)) rfl (ai_seq (ae_var 2)) (fun _ _ _ _ _ => ⟨_, (ag_name 9 (by exact sc__law_pages_right.nd))⟩) (fun _ _ _ _ _ => ⟨_, ats_nil⟩) (fun _ _ _ _ _ => ⟨_, (ae_ix (ae_var 9) ae_int)⟩))) ad_nil)) (ak_d (ae_callTy cd_tuple (by rfl) (by exact z.free 73) (by decide +kernel) (ad_cons (AL.ae (al_lcE (by rfl) (by exact sc__law_pages_right.nd) (own := [("_law_own", 9)]) (blkOk_by (by kernel_rfl)) rfl (ai_seq (ae_var 2)) (fun _ _ _ _ _ => ⟨_, (ag_name 9 (by exact sc__law_pages_right.nd))⟩) (fun _ _ _ _ _ => ⟨_, ats_nil⟩) (fun _ _ _ _ _ => ⟨_, (ae_call C__law_named hr (aa_cons (ae_ix (ae_var 1) (ae_ix (ae_ix (ae_var 9) ae_int) ae_int)) (aa_cons (ae_ix (ae_ix (ae_var 9) ae_int) ae_int) (aa_cons (ae_ix (ae_var 9) ae_int) aa_nil))))⟩))) ad_nil)) ak_nil))) (ab_cons (as_set 7 (by exact sc__law_pages_right.nd) (ae_lst (ad_cons (ae_call C_map_of hr (aa_cons (ae_call C__law_lists hr (aa_cons (ae_var 5) aa_nil)) (aa_cons (ae_call C__law_lists hr (aa_cons (ae_var 1) aa_nil)) aa_nil))) (ad_cons (ae_call C_map_of hr (aa_cons (ae_callTy cd_tuple (by rfl) (by exact z.free 73) (by decide +kernel) (ad_cons (AL.ae (al_lcE (by rfl) (by exact sc__law_pages_right.nd) (own := [("_law_own", 9)]) (blkOk_by (by kernel_rfl)) rfl (ai_seq (ae_var 5)) (fun _ _ _ _ _ => ⟨_, (ag_name 9 (by exact sc__law_pages_right.nd))⟩) (fun _ _ _ _ _ => ⟨_, ats_nil⟩) (fun _ _ _ _ _ => ⟨_, (ae_call C__law_moved hr (aa_cons (ae_var 9) (aa_cons (ae_var 3) (aa_cons (ae_var 4) aa_nil))))⟩))) ad_nil)) (aa_cons (ae_var 1) aa_nil))) ad_nil)))) (ab_one (as_ret (ae_call C__law_same hr (aa_cons (ae_var 7) (aa_cons (ae_lst (ad_cons (ae_var 6) (ad_cons (ae_call C__law_plan_by hr (aa_cons (ae_var 6) (aa_cons ae_int (aa_cons (ae_var 3) (aa_cons (ae_var 4) (aa_cons ae_int aa_nil)))))) ad_nil))) aa_nil)))))))))))⟩
/-! ### _law_by_hand_right: 0 _law_plan, 1 _law_got -/
theorem sc__law_by_hand_right : FnScope ["_law_plan", "_law_got"] [] (defScope (topS 83)) := ⟨rfl, rfl, rfl, by decide +kernel, rfl, by decide +kernel, by decide +kernel⟩
def t__law_by_hand_right (R_sides_turned R_lets R_turned R__law_same : RD) : DS := (dSeq (dSet 0 (dTup (dCons (dTup (dCons (dC (.int 4)) (dCons (dC (.int 1)) (dCons (dTup (dCons (dC (.int 0)) (dCons (dC (.int 2)) (dCons (dC (.int 0)) (dCons (dC (.int 2)) dNil))))) (dCons (dTup (dCons (dC (.int 0)) (dCons (dC (.int 0)) (dCons (dC (.int 0)) (dCons (dC (.int 0)) dNil))))) dNil))))) (dCons (dTup (dCons (dC (.int 4)) (dCons (dC (.int 1)) (dCons (dTup (dCons (dC (.int 3)) (dCons (dC (.int 2)) (dCons (dC (.int 3)) (dCons (dC (.int 2)) dNil))))) (dCons (dTup (dCons (dC (.int 0)) (dCons (dC (.int 0)) (dCons (dC (.int 0)) (dCons (dC (.int 0)) dNil))))) dNil))))) dNil)))) (dSeq (dSet 1 (dLst (dCons (dFn R_sides_turned (sCons (dTup (dCons (dTup dNil) (dCons (dTup (dCons (dC (.int 2)) dNil)) (dCons (dTup (dCons (dC (.int 0)) (dCons (dC (.int 1)) dNil))) dNil)))) sNil)) (dCons (dFn R_lets (sCons (dVar 0) (sCons (dC (.int 1)) (sCons (dTup (dCons (dC (.int 2)) (dCons (dC (.int 3)) dNil))) (sCons (dTup (dCons (dTup (dCons (dC (.int 9)) (dCons (dC (.int 2)) dNil))) (dCons (dTup (dCons (dC (.int 0)) (dCons (dC (.int 1)) dNil))) dNil))) sNil))))) (dCons (dFn R_lets (sCons (dVar 0) (sCons (dC (.int 1)) (sCons (dTup (dCons (dC (.int 2)) (dCons (dC (.int 3)) dNil))) (sCons (dTup (dCons (dTup (dCons (dC (.int 4)) (dCons (dC (.int 1)) dNil))) (dCons (dTup (dCons (dC (.int 0)) (dCons (dC (.int 1)) dNil))) dNil))) sNil))))) (dCons (dOp pIx (dFn R_turned (sCons (dVar 0) sNil)) (dC (.int 0))) dNil)))))) (dRet (dFn R__law_same (sCons (dVar 1) (sCons (dLst (dCons (dTup (dCons (dTup dNil) (dCons (dTup (dCons (dC (.int 1)) dNil)) (dCons (dTup (dCons (dC (.int 0)) (dCons (dC (.int 2)) dNil))) dNil)))) (dCons (dC (.bl false)) (dCons (dC (.bl true)) (dCons (dTup (dCons (dC (.int 4)) (dCons (dC (.int 1)) (dCons (dTup (dCons (dUn pNeg (dC (.int 3))) (dCons (dC (.int 6)) (dCons (dUn pNeg (dC (.int 3))) (dCons (dUn pNeg (dC (.int 2))) dNil))))) (dCons (dTup (dCons (dC (.int 0)) (dCons (dC (.int 1)) (dCons (dC (.int 0)) (dCons (dUn pNeg (dC (.int 1))) dNil))))) dNil))))) dNil))))) sNil))))))
theorem a__law_by_hand_right {w : World} {K : PySem.W.Frag} {mg : Str → Option Value} {base : Heap} (z : Fx K mg) {k : Nat} {R_sides_turned R_lets R_turned R__law_same : RD} (C_sides_turned : CA w K mg base k "sides_turned" ["sides"] R_sides_turned) (C_lets : CA w K mg base k "lets" ["chart", "name", "scale", "place"] R_lets) (C_turned : CA w K mg base k "turned" ["chart"] R_turned) (C__law_same : CA w K mg base k "_law_same" ["_law_got", "_law_due"] R__law_same) (f : Addr) (cdv : Value) (A : Around) (outer : List Env) (s : Shared) (H : Hp) (E : XK) (hr : Room k (A.deeper (envOfC "_law_by_hand_right" (defScope (topS 83)) s.heap.objs.size f cdv))) :
    ∃ ts, AB (cxOf CX0 PR w K mg base ["_law_plan", "_law_got"] "_law_by_hand_right" (defScope (topS 83)) f cdv A outer s H E).nox (defBody (topS 83)) ts (t__law_by_hand_right R_sides_turned R_lets R_turned R__law_same) := by
  exact ⟨_, (ab_cons (as_set 0 (by exact sc__law_by_hand_right.nd) (ae_tup (ad_cons (ae_tup (ad_cons ae_int (ad_cons ae_int (ad_cons (ae_tup (ad_cons ae_int (ad_cons ae_int (ad_cons ae_int (ad_cons ae_int ad_nil))))) (ad_cons (ae_tup (ad_cons ae_int (ad_cons ae_int (ad_cons ae_int (ad_cons ae_int ad_nil))))) ad_nil))))) (ad_cons (ae_tup (ad_cons ae_int (ad_cons ae_int (ad_cons (ae_tup (ad_cons ae_int (ad_cons ae_int (ad_cons ae_int (ad_cons ae_int ad_nil))))) (ad_cons (ae_tup (ad_cons ae_int (ad_cons ae_int (ad_cons ae_int (ad_cons ae_int ad_nil))))) ad_nil))))) ad_nil)))) (ab_cons (as_set 1 (by exact sc__law_by_hand_right.nd) (ae_lst (ad_cons (ae_call C_sides_turned hr (aa_cons (ae_tup (ad_cons (ae_tup ad_nil) (ad_cons (ae_tup (ad_cons ae_int ad_nil)) (ad_cons (ae_tup (ad_cons ae_int (ad_cons ae_int ad_nil))) ad_nil)))) aa_nil)) (ad_cons (ae_call C_lets hr (aa_cons (ae_var 0) (aa_cons ae_int (aa_cons (ae_tup (ad_cons ae_int (ad_cons ae_int ad_nil))) (aa_cons (ae_tup (ad_cons (ae_tup (ad_cons ae_int (ad_cons ae_int ad_nil))) (ad_cons (ae_tup (ad_cons ae_int (ad_cons ae_int ad_nil))) ad_nil))) aa_nil))))) (ad_cons (ae_call C_lets hr (aa_cons (ae_var 0) (aa_cons ae_int (aa_cons (ae_tup (ad_cons ae_int (ad_cons ae_int ad_nil))) (aa_cons (ae_tup (ad_cons (ae_tup (ad_cons ae_int (ad_cons ae_int ad_nil))) (ad_cons (ae_tup (ad_cons ae_int (ad_cons ae_int ad_nil))) ad_nil))) aa_nil))))) (ad_cons (ae_ix (ae_call C_turned hr (aa_cons (ae_var 0) aa_nil)) ae_int) ad_nil)))))) (ab_one (as_ret (ae_call C__law_same hr (aa_cons (ae_var 1) (aa_cons (ae_lst (ad_cons (ae_tup (ad_cons (ae_tup ad_nil) (ad_cons (ae_tup (ad_cons ae_int ad_nil)) (ad_cons (ae_tup (ad_cons ae_int (ad_cons ae_int ad_nil))) ad_nil)))) (ad_cons ae_bl (ad_cons ae_bl (ad_cons (ae_tup (ad_cons ae_int (ad_cons ae_int (ad_cons (ae_tup (ad_cons (ae_neg ae_int) (ad_cons ae_int (ad_cons (ae_neg ae_int) (ad_cons (ae_neg ae_int) ad_nil))))) (ad_cons (ae_tup (ad_cons ae_int (ad_cons ae_int (ad_cons ae_int (ad_cons (ae_neg ae_int) ad_nil))))) ad_nil))))) ad_nil))))) aa_nil)))))))⟩
end DL

namespace DL
open PySem PySem.Spec PyProof.Rows L2 Gn

/-! ### _law_take: 0 _law_tin, 1 _law_below_so, 2 _law_drawn, 3 _law_once_so, 4 _law_wide_so, 5 _law_twice_so -/
theorem sc__law_take : FnScope ["_law_tin", "_law_below_so", "_law_drawn", "_law_once_so", "_law_wide_so", "_law_twice_so"] ["_law_tin", "_law_below_so"] (defScope (topS 58)) := ⟨rfl, rfl, rfl, by decide +kernel, rfl, by decide +kernel, by decide +kernel⟩
def t__law_take : DS := (dSeq (dIfS (dTest (dOp pGt (dTin0 0) (dC (.int 0)))) (dSeq (dSet 2 (dOp pMod (dCall pInt (dCons (dTin0 0) dNil)) (dVar 1))) (dSeq (dTinSet0 0 (dOp pFdiv (dTin0 0) (dVar 1))) (dRet (dVar 2)))) dNext) (dSeq (dTinSet2 0 (dOp pAdd (dTin2 0) (dC (.int 1)))) (dSeq (dSet 3 (dOp pMod (dCall pInt (dCons (dOp pMul (dOp pAdd (dTin1 0) (dOp pMul (dC (.int 48271)) (dTin2 0))) (dOp pAdd (dC (.int 39373)) (dTin2 0))) dNil)) (dC (.int 2147483647)))) (dSeq (dSet 4 (dOp pAdd (dOp pMod (dCall pInt (dCons (dVar 3) dNil)) (dC (.int 40009))) (dC (.int 7)))) (dSeq (dSet 5 (dOp pMod (dCall pInt (dCons (dOp pMul (dOp pAdd (dOp pAdd (dVar 3) (dTin2 0)) (dOp pFdiv (dTin1 0) (dC (.int 1000003)))) (dVar 4)) dNil)) (dC (.int 2147483629)))) (dRet (dOp pMod (dCall pInt (dCons (dOp pFdiv (dOp pMod (dCall pInt (dCons (dOp pAdd (dOp pMul (dVar 5) (dC (.int 48271))) (dVar 3)) dNil)) (dC (.int 2147483587))) (dC (.int 64))) dNil)) (dVar 1))))))))
theorem a__law_take {w : World} {K : PySem.W.Frag} {mg : Str → Option Value} {base : Heap} (z : Fx K mg) {k : Nat} (f : Addr) (cdv : Value) (A : Around) (outer : List Env) (s : Shared) (H : Hp) (E : XK) (hr : Room k (A.deeper (envOfC "_law_take" (defScope (topS 58)) s.heap.objs.size f cdv))) :
    ∃ ts, AB (cxOf CX0 PR w K mg base ["_law_tin", "_law_below_so", "_law_drawn", "_law_once_so", "_law_wide_so", "_law_twice_so"] "_law_take" (defScope (topS 58)) f cdv A outer s H E).nox (defBody (topS 58)) ts (t__law_take) := by
  exact ⟨_, (ab_cons (as_if (at_cmp od_gt (ae_tin0 0) ae_int (nomark _)) (ab_cons (as_set 2 (by exact sc__law_take.nd) (ae_op od_mod (ae_callTy cd_int (by rfl) (by exact z.free 74) (by decide +kernel) (ad_cons (ae_tin0 0) ad_nil)) (ae_var 1))) (ab_cons (as_tinSet0 0 (ae_op od_fdiv (ae_tin0 0) (ae_var 1))) (ab_one (as_ret (ae_var 2))))) ab_nil) (ab_cons (as_tinSet2 0 (ae_op od_add (ae_tin2 0) ae_int)) (ab_cons (as_set 3 (by exact sc__law_take.nd) (ae_op od_mod (ae_callTy cd_int (by rfl) (by exact z.free 74) (by decide +kernel) (ad_cons (ae_op od_mul (ae_op od_add (ae_tin1 0) (ae_op od_mul ae_int (ae_tin2 0))) (ae_op od_add ae_int (ae_tin2 0))) ad_nil)) ae_int)) (ab_cons (as_set 4 (by exact sc__law_take.nd) (ae_op od_add (ae_op od_mod (ae_callTy cd_int (by rfl) (by exact z.free 74) (by decide +kernel) (ad_cons (ae_var 3) ad_nil)) ae_int) ae_int)) (ab_cons (as_set 5 (by exact sc__law_take.nd) (ae_op od_mod (ae_callTy cd_int (by rfl) (by exact z.free 74) (by decide +kernel) (ad_cons (ae_op od_mul (ae_op od_add (ae_op od_add (ae_var 3) (ae_tin2 0)) (ae_op od_fdiv (ae_tin1 0) ae_int)) (ae_var 4)) ad_nil)) ae_int)) (ab_one (as_ret (ae_op od_mod (ae_callTy cd_int (by rfl) (by exact z.free 74) (by decide +kernel) (ad_cons (ae_op od_fdiv (ae_op od_mod (ae_callTy cd_int (by rfl) (by exact z.free 74) (by decide +kernel) (ad_cons (ae_op od_add (ae_op od_mul (ae_var 5) ae_int) (ae_var 3)) ad_nil)) ae_int) ae_int) ad_nil)) (ae_var 1)))))))))⟩
/-! ### _law_cells: 0 _law_script, 1 _law_most_so, 2 _law_cells_so, 3 _law_k, 4 _law_bit_so, 5 _law_at_so -/
theorem sc__law_cells : FnScope ["_law_script", "_law_most_so", "_law_cells_so", "_law_k", "_law_bit_so", "_law_at_so"] ["_law_script", "_law_most_so"] (defScope (topS 59)) := ⟨rfl, rfl, rfl, by decide +kernel, rfl, by decide +kernel, by decide +kernel⟩
def g__law_cells_L1 : DG := (dgTup 2 (dgCons (dgName 3) (dgCons (dgName 4) dgNil)))
def t__law_cells_L1 : DS := (dSeq (dSet 5 (dOp pMod (dCall pInt (dCons (dVar 3) dNil)) (dVar 1))) (dOwnSet 2 (dVar 5) (dOp pAdd (dOwnIx 2 (dVar 5)) (dOp pMul (dVar 4) (dOp pAdd (dVar 3) (dC (.int 2)))))))
def t__law_cells : DS := (dSeq (dSetL 2 (dOrL (dCons (dSlS (dVar 0) dNoPart (dPart (dVar 1))) dNil) (dCons (dC (.int 0)) dNil))) (dSeq (dFor (iEnumDL (dCons (dSlS (dVar 0) (dPart (dVar 1)) (dPart (dC (.int 63)))) dNil)) (g__law_cells_L1) (t__law_cells_L1)) (dFrz 2 (dRet (dVar 2)))))
theorem a__law_cells {w : World} {K : PySem.W.Frag} {mg : Str → Option Value} {base : Heap} (z : Fx K mg) {k : Nat} (f : Addr) (cdv : Value) (A : Around) (outer : List Env) (s : Shared) (H : Hp) (E : XK) (hr : Room k (A.deeper (envOfC "_law_cells" (defScope (topS 59)) s.heap.objs.size f cdv))) :
    ∃ ts, AB (cxOf CX0 PR w K mg base ["_law_script", "_law_most_so", "_law_cells_so", "_law_k", "_law_bit_so", "_law_at_so"] "_law_cells" (defScope (topS 59)) f cdv A outer s H E).nox (defBody (topS 59)) ts (t__law_cells) := by
  exact ⟨_, (ab_cons (as_setL 2 (by exact sc__law_cells.nd) (al_orL (by rfl) (by exact z.free 72) (by decide +kernel) (ad_cons (ae_sliceS (ae_var 0) ao_none (ao_some (ae_var 1))) ad_nil) (al_lst (ad_cons ae_int ad_nil)))) (ab_cons (as_for (by rfl) (by rfl) (ai_enumL (by rfl) (by exact z.free 85) (ad_cons (ae_sliceS (ae_var 0) (ao_some (ae_var 1)) (ao_some ae_int)) ad_nil)) (ag_tup (by rfl) (ags_cons (ag_name 3 (by exact sc__law_cells.nd)) (ags_cons (ag_name 4 (by exact sc__law_cells.nd)) ags_nil))) (ab_cons (as_set 5 (by exact sc__law_cells.nd) (ae_op od_mod (ae_callTy cd_int (by rfl) (by exact z.free 74) (by decide +kernel) (ad_cons (ae_var 3) ad_nil)) (ae_var 1))) (ab_one (as_ownSet 2 (ae_var 5) (ae_op od_add (ae_ownIx 2 (ae_var 5)) (ae_op od_mul (ae_var 4) (ae_op od_add (ae_var 3) ae_int))))))) (ab_frz 2 (ab_one (as_ret (ae_var 2))))))⟩
/-! ### wide_in: 0 style, 1 words, 2 found, 3 first, 4 last -/
theorem sc_wide_in : FnScope ["style", "words", "found", "first", "last"] ["style", "words"] (defScope (topS 26)) := ⟨rfl, rfl, rfl, by decide +kernel, rfl, by decide +kernel, by decide +kernel⟩
def g_wide_in_L2 (R_width_in : RD) : DG := (dgName 4)
def t_wide_in_L2 (R_width_in : RD) : DS := (dDPutT 2 (dFn R_width_in (sCons (dVar 0) (sCons (dJoin (dC (.str " ")) (dSl (dVar 1) (dPart (dVar 3)) (dPart (dVar 4)))) sNil))) (dCons (dVar 3) (dCons (dVar 4) dNil)))
def g_wide_in_L1 (R_width_in : RD) : DG := (dgName 3)
def t_wide_in_L1 (R_width_in : RD) : DS := (dFor (iRng2D (dCons (dOp pAdd (dVar 3) (dC (.int 1))) (dCons (dOp pAdd (dCall pLen (dCons (dVar 1) dNil)) (dC (.int 1))) dNil))) (g_wide_in_L2 R_width_in) (t_wide_in_L2 R_width_in))
def t_wide_in (R_width_in : RD) : DS := (dSeq (dSetDT 2) (dSeq (dFor (iRng1D (dCons (dCall pLen (dCons (dVar 1) dNil)) dNil)) (g_wide_in_L1 R_width_in) (t_wide_in_L1 R_width_in)) (dFrzD 2 (dRet (dVar 2)))))
theorem a_wide_in {w : World} {K : PySem.W.Frag} {mg : Str → Option Value} {base : Heap} (z : Fx K mg) {k : Nat} {R_width_in : RD} (C_width_in : CA w K mg base k "width_in" ["style", "line"] R_width_in) (f : Addr) (cdv : Value) (A : Around) (outer : List Env) (s : Shared) (H : Hp) (E : XK) (hr : Room k (A.deeper (envOfC "wide_in" (defScope (topS 26)) s.heap.objs.size f cdv))) :
    ∃ ts, AB (cxOf CX0 PR w K mg base ["style", "words", "found", "first", "last"] "wide_in" (defScope (topS 26)) f cdv A outer s H E).nox (defBody (topS 26)) ts (t_wide_in R_width_in) := by
  exact ⟨_, (ab_cons (as_setDT 2 (by exact sc_wide_in.nd)) (ab_cons (as_for (by rfl) (by rfl) (ai_range1 (by rfl) (by exact z.free 83) (ad_cons (ae_callB cd_len (by rfl) (by exact z.free 77) (by decide +kernel) (ad_cons (ae_var 1) ad_nil)) ad_nil)) (ag_name 3 (by exact sc_wide_in.nd)) (ab_one (as_for (by rfl) (by rfl) (ai_range2 (by rfl) (by exact z.free 83) (ad_cons (ae_op od_add (ae_var 3) ae_int) (ad_cons (ae_op od_add (ae_callB cd_len (by rfl) (by exact z.free 77) (by decide +kernel) (ad_cons (ae_var 1) ad_nil)) ae_int) ad_nil))) (ag_name 4 (by exact sc_wide_in.nd)) (ab_one (as_dputT 2 hr.units1 (ae_call C_width_in hr (aa_cons (ae_var 0) (aa_cons (ae_join ae_str (ae_slice (ae_var 1) (ao_some (ae_var 3)) (ao_some (ae_var 4)))) aa_nil))) (ad_cons (ae_var 3) (ad_cons (ae_var 4) ad_nil))))))) (ab_frzD 2 (ab_one (as_ret (ae_var 2))))))⟩
/-! ### law: 0 _law_script, 1 _law_cells_so -/
theorem sc_law : FnScope ["_law_script", "_law_cells_so"] ["_law_script"] (defScope (topS 84)) := ⟨rfl, rfl, rfl, by decide +kernel, rfl, by decide +kernel, by decide +kernel⟩
def t_law (R__law_by_hand_right R__law_cells R__law_plans_right R__law_pages_right : RD) : DS := (dSeq (dIfS (dNot (dTest (dFn0 R__law_by_hand_right))) (dRet (dC (.bl false))) dNext) (dSeq (dSet 1 (dFn R__law_cells (sCons (dVar 0) (sCons (dC (.int 2)) sNil)))) (dRet (dAndV (dBox R__law_plans_right (dCons (dVar 1) (dCons (dC (.int 0)) dNil))) (dBox R__law_pages_right (dCons (dVar 1) (dCons (dOp pSub (dCall pLen (dCons (dVar 1) dNil)) (dC (.int 1))) dNil)))))))
theorem a_law {w : World} {K : PySem.W.Frag} {mg : Str → Option Value} {base : Heap} (z : Fx K mg) {k : Nat} {R__law_by_hand_right R__law_cells R__law_plans_right R__law_pages_right : RD} (C__law_by_hand_right : CA w K mg base k "_law_by_hand_right" [] R__law_by_hand_right) (C__law_cells : CA w K mg base k "_law_cells" ["_law_script", "_law_most_so"] R__law_cells) (C__law_plans_right : CA w K mg base k "_law_plans_right" ["_law_tin"] R__law_plans_right) (C__law_pages_right : CA w K mg base k "_law_pages_right" ["_law_tin"] R__law_pages_right) (C_box : CalBox PR w K mg base k) (f : Addr) (cdv : Value) (A : Around) (outer : List Env) (s : Shared) (H : Hp) (E : XK) (hr : Room k (A.deeper (envOfC "law" (defScope (topS 84)) s.heap.objs.size f cdv))) :
    ∃ ts, AB (cxOf CX0 PR w K mg base ["_law_script", "_law_cells_so"] "law" (defScope (topS 84)) f cdv A outer s H E).nox (defBody (topS 84)) ts (t_law R__law_by_hand_right R__law_cells R__law_plans_right R__law_pages_right) := by
  exact ⟨_, (ab_cons (as_if (at_not (at_val (ae_call0 C__law_by_hand_right hr))) (ab_one (as_ret ae_bl)) ab_nil) (ab_cons (as_set 1 (by exact sc_law.nd) (ae_call C__law_cells hr (aa_cons (ae_var 0) (aa_cons ae_int aa_nil)))) (ab_one (as_ret (ae_and (ae_boxcall C__law_plans_right C_box hr (ad_cons (ae_var 1) (ad_cons ae_int ad_nil))) (ae_one (ae_boxcall C__law_pages_right C_box hr (ad_cons (ae_var 1) (ad_cons (ae_op od_sub (ae_callB cd_len (by rfl) (by exact z.free 77) (by decide +kernel) (ad_cons (ae_var 1) ad_nil)) ae_int) ad_nil)))))))))⟩
/-! ### _law_box: 0 _law_script, 1 _law_k, 2 _law_bit_so -/
theorem sc__law_box : FnScope ["_law_script", "_law_k", "_law_bit_so"] ["_law_script", "_law_k"] (defScope (topS 57)) := ⟨rfl, rfl, rfl, by decide +kernel, rfl, by decide +kernel, by decide +kernel⟩
def t__law_box : DS := (dSet 2 (dIf (dTest (dOp pLt (dVar 1) (dCall pLen (dCons (dVar 0) dNil)))) (dOp pIx (dVar 0) (dVar 1)) (dC (.int 0))))
def l__law_box : DLs := (dCons (dOp pMul (dCall pAbs (dCons (dVar 2) dNil)) (dCall pInt (dCons (dOp pGe (dCall pAbs (dCons (dVar 2) dNil)) (dOp pPow (dC (.int 10)) (dC (.int 18)))) dNil))) (dCons (dOp pAdd (dOp pAdd (dOp pMod (dCall pInt (dCons (dVar 2) dNil)) (dC (.int 2305843009213693951))) (dOp pMul (dC (.int 39373)) (dVar 1))) (dC (.int 3197007))) (dCons (dC (.int 0)) dNil)))
theorem b__law_box {w : World} {K : PySem.W.Frag} {mg : Str → Option Value} {base : Heap} (z : Fx K mg) {k : Nat} (f : Addr) (cdv : Value) (A : Around) (outer : List Env) (s : Shared) (H : Hp) (E : XK) (hr : Room k (A.deeper (envOfC "_law_box" (defScope (topS 57)) s.heap.objs.size f cdv))) :
    ∃ ts, AS (cxOf CX0 PR w K mg base ["_law_script", "_law_k", "_law_bit_so"] "_law_box" (defScope (topS 57)) f cdv A outer s H E).nox ((defBody (topS 57)).getD 0 (.Pass ⟨0, 0, 0, 0⟩)) ts t__law_box := ⟨_, (as_set 2 (by exact sc__law_box.nd) (ae_if (at_cmp od_lt (ae_var 1) (ae_callB cd_len (by rfl) (by exact z.free 77) (by decide +kernel) (ad_cons (ae_var 0) ad_nil)) (nomark _)) (ae_ix (ae_var 0) (ae_var 1)) ae_int))⟩
theorem r__law_box {w : World} {K : PySem.W.Frag} {mg : Str → Option Value} {base : Heap} (z : Fx K mg) {k : Nat} (f : Addr) (cdv : Value) (A : Around) (outer : List Env) (s : Shared) (H : Hp) (E : XK) (hr : Room k (A.deeper (envOfC "_law_box" (defScope (topS 57)) s.heap.objs.size f cdv))) :
    ∃ te, AL (cxOf CX0 PR w K mg base ["_law_script", "_law_k", "_law_bit_so"] "_law_box" (defScope (topS 57)) f cdv A outer s H E).nox (match (defBody (topS 57)).getD 1 (.Pass ⟨0, 0, 0, 0⟩) with | .Return (some e) _ => e | _ => .Constant .none 0 ⟨0, 0, 0, 0⟩) te l__law_box := ⟨_, (al_lst (ad_cons (ae_op od_mul (ae_callB cd_abs (by rfl) (by exact z.free 78) (by decide +kernel) (ad_cons (ae_var 2) ad_nil)) (ae_callTy cd_int (by rfl) (by exact z.free 74) (by decide +kernel) (ad_cons (ae_cmp od_ge (ae_callB cd_abs (by rfl) (by exact z.free 78) (by decide +kernel) (ad_cons (ae_var 2) ad_nil)) (ae_op od_pow ae_int ae_int) (nomark _)) ad_nil))) (ad_cons (ae_op od_add (ae_op od_add (ae_op od_mod (ae_callTy cd_int (by rfl) (by exact z.free 74) (by decide +kernel) (ad_cons (ae_var 2) ad_nil)) ae_int) (ae_op od_mul ae_int (ae_var 1))) ae_int) (ad_cons ae_int ad_nil))))⟩
end DL

namespace DL
open PySem PySem.Spec PyProof.Rows L2
/-! ### helps of the reading -/
def RdOk (N m : Nat) (R : RD) (t : DS) : Prop := ∀ ss n kk, R ss n kk → ss.length = m → t { nx := fun _ n => kk .non n, rt := kk } (ss ++ List.replicate (N - m) .no) n
theorem ite_b {b : Bool} {A B : Prop} (h1 : b = true → A) (h2 : b = false → B) : if b = true then A else B := by
  cases b with
  | true => exact h1 rfl
  | false => exact h2 rfl
theorem ite_d {P : Prop} [Decidable P] {A B : Prop} (h1 : P → A) (h2 : ¬P → B) : if decide P = true then A else B := by
  by_cases h : P
  · rw [if_pos (decide_eq_true h)]
    exact h1 h
  · rw [if_neg (by simp [h])]
    exact h2 h
theorem kit_ii : kitB "int" "int" = some true := by decide +kernel
theorem kit_ib : kitB "int" "bool" = some false := by decide +kernel
theorem kit_is : kitB "int" "str" = some false := by decide +kernel
theorem kit_il : kitB "int" "list" = some false := by decide +kernel
theorem kit_it : kitB "int" "tuple" = some false := by decide +kernel
theorem kit_bi : kitB "bool" "int" = some true := by decide +kernel
theorem kit_bb : kitB "bool" "bool" = some true := by decide +kernel
theorem kit_bs : kitB "bool" "str" = some false := by decide +kernel
theorem kit_bl : kitB "bool" "list" = some false := by decide +kernel
theorem kit_bt : kitB "bool" "tuple" = some false := by decide +kernel
theorem kit_si : kitB "str" "int" = some false := by decide +kernel
theorem kit_sb : kitB "str" "bool" = some false := by decide +kernel
theorem kit_ss : kitB "str" "str" = some true := by decide +kernel
theorem kit_sl : kitB "str" "list" = some false := by decide +kernel
theorem kit_st : kitB "str" "tuple" = some false := by decide +kernel
theorem kit_ni : kitB "NoneType" "int" = some false := by decide +kernel
theorem kit_nb : kitB "NoneType" "bool" = some false := by decide +kernel
theorem kit_ns : kitB "NoneType" "str" = some false := by decide +kernel
theorem kit_nl : kitB "NoneType" "list" = some false := by decide +kernel
theorem kit_nt : kitB "NoneType" "tuple" = some false := by decide +kernel
theorem kit_ti : kitB "tuple" "int" = some false := by decide +kernel
theorem kit_tb : kitB "tuple" "bool" = some false := by decide +kernel
theorem kit_ts : kitB "tuple" "str" = some false := by decide +kernel
theorem kit_tl : kitB "tuple" "list" = some false := by decide +kernel
theorem kit_tt : kitB "tuple" "tuple" = some true := by decide +kernel
theorem kit_li : kitB "list" "int" = some false := by decide +kernel
theorem kit_lb : kitB "list" "bool" = some false := by decide +kernel
theorem kit_ls : kitB "list" "str" = some false := by decide +kernel
theorem kit_ll : kitB "list" "list" = some true := by decide +kernel
theorem kit_lt : kitB "list" "tuple" = some false := by decide +kernel
end DL

namespace DL
open PySem PySem.Spec PyProof.Rows L2
/-! ### the data's shapes -/
def fr (t b : Int) : D := .tup [.int t, .int b]
def gc (t b : Int) : Int := ((Nat.gcd t.natAbs b.natAbs : Nat) : Int)
def lwT (t b : Int) : Int := t / gc t b
def lwB (t b : Int) : Int := b / gc t b
def lw (t b : Int) : D := fr (lwT t b) (lwB t b)
def Sm (x : Int) : Prop := -1000000000 ≤ x ∧ x ≤ 1000000000
structure Te where
  a : Int
  c : Int
  b : Int
  d : Int
structure Nm where
  w : Int
  h : Int
  x : Te
  y : Te
def Te.t (e : Te) : D := .tup [.int e.a, .int e.c, .int e.b, .int e.d]
def Te.l (e : Te) : D := .lst [.int e.a, .int e.c, .int e.b, .int e.d]
def Nm.t (m : Nm) : D := .tup [.int m.w, .int m.h, m.x.t, m.y.t]
def Nm.l (m : Nm) : D := .lst [.int m.w, .int m.h, m.x.l, m.y.l]
def pT (p : List Nm) : D := .tup (p.map Nm.t)
def pL (p : List Nm) : D := .lst (p.map Nm.l)
def Sn (x : Int) : Prop := -10000 ≤ x ∧ x ≤ 10000
structure Te.Ok (e : Te) : Prop where
  a : Sn e.a
  c : Sn e.c
  b : Sn e.b
  d : Sn e.d
  ab : e.a ≤ e.b
  cd : 0 ≤ e.c + e.d
structure Nm.Ok (m : Nm) : Prop where
  w : 1 ≤ m.w ∧ m.w ≤ 10000
  h : 1 ≤ m.h ∧ m.h ≤ 10000
  x : m.x.Ok
  y : m.y.Ok
/-! ### item by item -/
inductive All2 {α β : Type} (R : α → β → Prop) : List α → List β → Prop
  | nil : All2 R [] []
  | cons {x : α} {y : β} {xs : List α} {ys : List β} (h : R x y) (t : All2 R xs ys) : All2 R (x :: xs) (y :: ys)
theorem All2.len {α β : Type} {R : α → β → Prop} {xs : List α} {ys : List β} (h : All2 R xs ys) : xs.length = ys.length := by
  induction h with
  | nil => rfl
  | cons _ _ ih => simp [ih]
theorem All2.maps {γ α β : Type} {R : α → β → Prop} {f : γ → α} {g : γ → β} : ∀ {l : List γ}, (∀ x, x ∈ l → R (f x) (g x)) → All2 R (l.map f) (l.map g)
  | [], _ => .nil
  | x :: l, h => .cons (h x (List.mem_cons_self ..)) (All2.maps fun y hy => h y (List.mem_cons_of_mem _ hy))
theorem All2.mapL {γ α : Type} {R : α → γ → Prop} {f : γ → α} : ∀ {l : List γ}, (∀ x, x ∈ l → R (f x) x) → All2 R (l.map f) l
  | [], _ => .nil
  | x :: l, h => .cons (h x (List.mem_cons_self ..)) (All2.mapL fun y hy => h y (List.mem_cons_of_mem _ hy))
/-! ### comprehensions without a test -/
/-- of each item one value -/
theorem lc_all2 {g : DG} {te : DE} {ρ : List Slot} {R : D → D → Prop} : ∀ {xs ys : List D} {acc : List D} {n : Nat} {k : List D → Nat → Prop}, All2 R xs ys →
    (∀ x y n (k' : DK), R x y → k' y n → g x ρ fun ρ2 => te ρ2 n k') → k (acc ++ ys) n → lcRun g dYes te ρ xs acc n k
  | _, _, acc, n, k, .nil, h, hk => by
    rw [List.append_nil] at hk
    exact hk
  | _, _, acc, n, k, .cons (x := x) (y := y) (xs := xs) (ys := ys) hr t, h, hk => by
    refine h x y n _ hr ?_
    refine lc_all2 t h ?_
    rw [List.append_assoc]
    exact hk
theorem lc_map {α : Type} {g : DG} {te : DE} {ρ : List Slot} (f e : α → D) (l : List α) {acc : List D} {n : Nat} {k : List D → Nat → Prop}
    (h : ∀ x, x ∈ l → ∀ n (k' : DK), k' (e x) n → g (f x) ρ fun ρ2 => te ρ2 n k') (hk : k (acc ++ l.map e) n) : lcRun g dYes te ρ (l.map f) acc n k := by
  induction l generalizing acc with
  | nil =>
    rw [List.map_nil, List.append_nil] at hk
    exact hk
  | cons x l ih =>
    refine h x (List.mem_cons_self ..) n _ ?_
    refine ih (fun y hy => h y (List.mem_cons_of_mem _ hy)) ?_
    rw [List.append_assoc]
    exact hk
theorem lc_nil {g : DG} {tt : DT} {te : DE} {ρ : List Slot} {acc : List D} {n : Nat} {k : List D → Nat → Prop} (h : k acc n) : lcRun g tt te ρ [] acc n k := h
theorem lc_one {g : DG} {te : DE} {ρ : List Slot} {x : D} {xs acc : List D} {n : Nat} {k : List D → Nat → Prop} (h : g x ρ fun ρ2 => te ρ2 n fun y n3 => lcRun g dYes te ρ xs (acc ++ [y]) n3 k) : lcRun g dYes te ρ (x :: xs) acc n k := h
/-! ### tuples of all, lists of all -/
def flatD : D → Bool
  | .int _ => true | .bl _ => true | .str _ => true | _ => false
def Tm : Nat → D → D → Prop
  | 0, _, _ => False
  | m + 1, x, y => (y = x ∧ flatD x = true) ∨ ∃ xs ys, elems x = some xs ∧ (y = .tup ys ∨ y = .tz ys) ∧ xs.length ≤ 1000 ∧ All2 (Tm m) xs ys
theorem Tm.flat {m : Nat} {x : D} (h : flatD x = true) : Tm (m + 1) x x := .inl ⟨rfl, h⟩
theorem Tm.seq {m : Nat} {x : D} {xs ys : List D} (h : elems x = some xs) (hl : xs.length ≤ 1000) (a : All2 (Tm m) xs ys) : Tm (m + 1) x (.tup ys) := .inr ⟨xs, ys, h, .inl rfl, hl, a⟩
theorem Tm.seqz {m : Nat} {x : D} {xs ys : List D} (h : elems x = some xs) (hl : xs.length ≤ 1000) (a : All2 (Tm m) xs ys) : Tm (m + 1) x (.tz ys) := .inr ⟨xs, ys, h, .inr rfl, hl, a⟩
inductive R_tuple_of (m : Nat) : RD
  | mk (x y : D) {n : Nat} {k : DK} (h : Tm m x y) (hk : k y n) : R_tuple_of m [.d x] n k
def Lm : Nat → D → D → Prop
  | 0, _, _ => False
  | m + 1, x, y => (y = x ∧ flatD x = true) ∨ ∃ xs ys, elems x = some xs ∧ y = .lst ys ∧ xs.length ≤ 1000 ∧ All2 (Lm m) xs ys
theorem Lm.flat {m : Nat} {x : D} (h : flatD x = true) : Lm (m + 1) x x := .inl ⟨rfl, h⟩
theorem Lm.seq {m : Nat} {x : D} {xs ys : List D} (h : elems x = some xs) (hl : xs.length ≤ 1000) (a : All2 (Lm m) xs ys) : Lm (m + 1) x (.lst ys) := .inr ⟨xs, ys, h, rfl, hl, a⟩
inductive R__law_lists (m : Nat) : RD
  | mk (x y : D) {n : Nat} {k : DK} (h : Lm m x y) (hk : k y n) : R__law_lists m [.d x] n k
def Fit : Nat → D → Prop
  | 0, _ => False
  | m + 1, x => flatD x = true ∨ ∃ l, (x = .tup l ∨ x = .lst l) ∧ l.length ≤ 1000 ∧ ∀ d, d ∈ l → Fit m d
inductive R__law_same (m : Nat) : RD
  | mk (x : D) {n : Nat} {k : DK} (h : Fit m x) (hk : k (.bl true) n) : R__law_same m [.d x, .d x] n k
/-! ### the promises -/
inductive R_is_number : RD
  | mk (i : Int) {n : Nat} {k : DK} (h : k (.bl true) n) : R_is_number [.d (.int i)] n k
inductive R_is_tuple_of : RD
  | mk (l : List D) (i : Int) {n : Nat} {k : DK} (h : k (.bl (decide ((l.length : Int) = i))) n) : R_is_tuple_of [.d (.tup l), .d (.int i)] n k
inductive R_fraction : RD
  | mk (t b : Int) {n : Nat} {k : DK} (h1 : 0 < b) (h2 : b < 2 ^ 62) (h : k (lw t b) n) : R_fraction [.d (.int t), .d (.int b)] n k
inductive R_plus : RD
  | mk (a b c d : Int) {n : Nat} {k : DK} (h1 : 0 < b) (h2 : 0 < d) (s1 : Sm a) (s2 : Sm b) (s3 : Sm c) (s4 : Sm d) (h : k (lw (a * d + c * b) (b * d)) n) : R_plus [.d (fr a b), .d (fr c d)] n k
inductive R_minus : RD
  | mk (a b c d : Int) {n : Nat} {k : DK} (h1 : 0 < b) (h2 : 0 < d) (s1 : Sm a) (s2 : Sm b) (s3 : Sm c) (s4 : Sm d) (h : k (lw (a * d - c * b) (b * d)) n) : R_minus [.d (fr a b), .d (fr c d)] n k
inductive R_is_less : RD
  | mk (a b c d : Int) {n : Nat} {k : DK} (h1 : Sm a) (h2 : Sm c) (h : k (.bl (decide (a * d < c * b))) n) : R_is_less [.d (fr a b), .d (fr c d)] n k
inductive R_on : RD
  | mk (e : Te) (p q : Int) {n : Nat} {k : DK} (h1 : 0 < q) (h2 : Sm p) (h3 : Sm q) (h : k (.tup [lw (p * e.a - e.c * q) q, lw (p * e.b + e.d * q) q]) n) : R_on [.d e.t, .d (fr p q)] n k
def ab (i : Int) : Int := if i < 0 then -i else i
inductive R_reach : RD
  | mk (x y u v : Int) {n : Nat} {k : DK} (h : k (.int (ab (x - u) + ab (y - v))) n) : R_reach [.d (fr x y), .d (fr u v)] n k
def stp (o i m : Int) : Int := if o = i then o else if o < i then o + m else o - m
inductive R_stepped : RD
  | mk (x y u v m : Int) {n : Nat} {k : DK} (h : k (fr (stp x u m) (stp y v m)) n) : R_stepped [.d (fr x y), .d (fr u v), .d (.int m)] n k
def road (u y w v : Int) : D := .tup [fr u y, fr (u + 10) y, fr w v]
inductive R_spot_in : RD
  | mk (u y w v f : Int) {n : Nat} {k : DK} (h1 : 1 ≤ f) (h2 : f ≤ 9) (h : k (fr (u + f) y) n) : R_spot_in [.d (road u y w v), .d (.int f)] n k
inductive R_tether_turned : RD
  | mk (e : Te) (s : Int) {n : Nat} {k : DK} (h : k (Te.t ⟨0 - e.b, e.d + s, 0 - e.a, e.c - s⟩) n) : R_tether_turned [.d e.t, .d (.int s)] n k
inductive R_tether_by : RD
  | mk (e : Te) (m o : Int) {n : Nat} {k : DK} (s1 : Sm m) (h : k (Te.t ⟨m * e.a + o, e.c, m * e.b + o, e.d⟩) n) : R_tether_by [.d e.t, .d (.int m), .d (.int o)] n k
inductive R_tether_sized : RD
  | mk (e : Te) (m : Int) {n : Nat} {k : DK} (s1 : Sm m) (h : k (Te.t ⟨e.a, m * e.c, e.b, m * e.d⟩) n) : R_tether_sized [.d e.t, .d (.int m)] n k
inductive R_sure_name : RD
  | mk (p : List D) (i : Int) (d : D) {n : Nat} {k : DK} (h0 : 0 ≤ i) (hl : i < p.length) (hd : atI p i = some d) (h : k d n) : R_sure_name [.d (.tup p), .d (.int i)] n k
end DL

namespace DL
open PySem PySem.Spec PyProof.Rows L2
/-! ### pages: features, styles -/
def box (a b c d : Int) : D := .tup [.int a, .int b, .int c, .int d]
structure Sy where
  s0 : Int
  s1 : Int
  s2 : Int
  s3 : Int
  hold : Str
  s7 : Int
structure Sy.Ok (y : Sy) : Prop where
  h0 : 1 ≤ y.s0 ∧ y.s0 ≤ 4
  h1 : 1 ≤ y.s1 ∧ y.s1 ≤ 3
  h2 : 0 ≤ y.s2 ∧ y.s2 ≤ 1
  h3 : 1 ≤ y.s3 ∧ y.s3 ≤ 5
  h7 : 0 ≤ y.s7 ∧ y.s7 ≤ 3
def Sy.g (y : Sy) (p : D) : List D := [.int y.s0, p, .int y.s2, .int y.s3, .int 0, .int 99, .str y.hold, .int y.s7, .int 0]
def Sy.t (y : Sy) : D := .tup (y.g (.tup [.tup [.str "i", .int y.s1]]))
def Sy.z (y : Sy) : D := .tup (y.g (.tz [.tup [.str "i", .int y.s1]]))
def Sy.l (y : Sy) : D := .lst (y.g (.lst [.lst [.str "i", .int y.s1]]))
def four : List Str := ["Fiji", "i", "mill", "Top-7"]
def chW (y : Sy) (q : Str) : Int := if q = "i" then y.s1 else y.s0
def wd (y : Sy) (w : Str) : Int := (w.cps.toList.map fun c => chW y ⟨#[c]⟩).sum + y.s2 * ((w.length : Int) - 1)
def nmA (y : Sy) (W west east : Int) : Te :=
  if y.hold = "free" then ⟨west, W + y.s7, east, y.s7⟩ else if y.hold = "left" then ⟨west, W + y.s7, west, 0 - W⟩ else if y.hold = "right" then ⟨east, 0, east, y.s7⟩ else ⟨west, W / 2 + y.s7, east, y.s7 - W / 2⟩
def nmB (y : Sy) (H north south : Int) : Te :=
  if y.hold = "free" then ⟨north, H + y.s7, south, y.s7⟩ else if y.hold = "over" then ⟨north, H + y.s7, north, 0 - H⟩ else if y.hold = "under" then ⟨south, 0, south, y.s7⟩ else ⟨north, H / 2 + y.s7, south, y.s7 - H / 2⟩
/-- a name of a style, a word, a place -/
def nmOf (y : Sy) (w : Str) (a b c d : Int) : Nm := ⟨wd y w, y.s3, nmA y (wd y w) a c, nmB y y.s3 b d⟩
inductive Lf where
  | pt (x y : Int) | rd (u y w v o t : Int) | bx (x y p q : Int)
def Lf.kind : Lf → Int
  | .pt _ _ => 0 | .rd _ _ _ _ _ _ => 1 | .bx _ _ _ _ => 2
def Lf.wh : Lf → D
  | .pt x y => fr x y
  | .rd u y w v o t => .tup [road u y w v, .int (o + 1), .int (o + t + 1)]
  | .bx x y p q => box x y p q
def Lf.whl : Lf → D
  | .pt x y => .lst [.int x, .int y]
  | .rd u y w v o t => .lst [.lst [.lst [.int u, .int y], .lst [.int (u + 10), .int y], .lst [.int w, .int v]], .int (o + 1), .int (o + t + 1)]
  | .bx x y p q => .lst [.int x, .int y, .int p, .int q]
def Lf.Ok : Lf → Prop
  | .pt x y => True
  | .rd u y w v o t => 0 ≤ o ∧ o ≤ 4 ∧ 0 ≤ t ∧ t ≤ 4
  | .bx x y p q => True
def Lf.t1 : Lf → Int
  | .pt x y => x | .rd u y w v o t => u + (o + 1) | .bx x y p q => x
def Lf.t2 : Lf → Int
  | .pt x y => y | .rd u y w v o t => y | .bx x y p q => y
def Lf.t3 : Lf → Int
  | .pt x y => x | .rd u y w v o t => u + (o + t + 1) | .bx x y p q => p
def Lf.t4 : Lf → Int
  | .pt x y => y | .rd u y w v o t => y | .bx x y p q => q
structure Ft where
  c : Int
  w : Str
  f : Lf
def Ft.t (e : Ft) : D := .tup [.int e.c, .str e.w, .int e.f.kind, e.f.wh]
def Ft.l (e : Ft) : D := .lst [.int e.c, .str e.w, .int e.f.kind, e.f.whl]
inductive R_piece_in : RD
  | mk (u y w v f l : Int) {n : Nat} {k : DK} (h1 : 1 ≤ f) (h2 : f ≤ l) (h3 : l ≤ 9) (h : k (.tup (if f < l then [fr (u + f) y, fr (u + l) y] else [fr (u + f) y])) n) : R_piece_in [.d (road u y w v), .d (.int f), .d (.int l)] n k
inductive R_frame_of : RD
  | one (x y : Int) {n : Nat} {k : DK} (h : k (box x y x y) n) : R_frame_of [.d (.tup [fr x y])] n k
  | two (x y z : Int) {n : Nat} {k : DK} (h1 : x ≤ z) (h : k (box x y z y) n) : R_frame_of [.d (.tup [fr x y, fr z y])] n k
inductive R_tie_in : RD
  | mk (e : Ft) {n : Nat} {k : DK} (h1 : e.f.Ok) (h : k (box e.f.t1 e.f.t2 e.f.t3 e.f.t4) n) : R_tie_in [.d e.t] n k
inductive R_width_in : RD
  | mk (y : Sy) (w : Str) {n : Nat} {k : DK} (h1 : y.Ok) (h2 : w ∈ four) (h : k (.int (wd y w)) n) : R_width_in [.d y.z, .d (.str w)] n k
inductive R_words_of : RD
  | mk (w : Str) {n : Nat} {k : DK} (h1 : w ∈ four) (h : k (.lst [.str w]) n) : R_words_of [.d (.str w)] n k
inductive R_wide_in : RD
  | mk (y : Sy) (w : Str) {n : Nat} {k : DK} (h1 : y.Ok) (h2 : w ∈ four) (h : k (.dt [([0, 1], .int (wd y w))]) n) : R_wide_in [.d y.z, .d (.lst [.str w])] n k
inductive R_nexts : RD
  | mk (W : Int) {n : Nat} {k : DK} (h : k (.lst [.int 1]) n) : R_nexts [.d (.dt [([0, 1], .int W)]), .d (.lst [.non, .int 0]), .d (.int 0), .d (.int 99)] n k
inductive R_table_in : RD
  | mk (W : Int) {n : Nat} {k : DK} (h1 : 0 ≤ W) (h : k (.lst [.lst [.non, .int 0], .lst [.int W, .non]]) n) : R_table_in [.d (.dt [([0, 1], .int W)]), .d (.int 1), .d (.int 99)] n k
inductive R_lines_of : RD
  | mk (y : Sy) (w : Str) {n : Nat} {k : DK} (h1 : y.Ok) (h2 : w ∈ four) (h : k (.tup [.str w]) n) : R_lines_of [.d y.z, .d (.str w)] n k
inductive R_size_of : RD
  | mk (y : Sy) (w : Str) {n : Nat} {k : DK} (h1 : y.Ok) (h2 : w ∈ four) (h : k (fr (wd y w) y.s3) n) : R_size_of [.d y.z, .d (.str w)] n k
inductive R_tethers_of : RD
  | mk (y : Sy) (W H a b c d : Int) {n : Nat} {k : DK} (h : k (.tup [(nmA y W a c).t, (nmB y H b d).t]) n) : R_tethers_of [.d y.z, .d (fr W H), .d (box a b c d)] n k
inductive R_is_tether : RD
  | mk (e : Te) {n : Nat} {k : DK} (h1 : e.a ≤ e.b) (h2 : 0 ≤ e.c + e.d) (h : k (.bl true) n) : R_is_tether [.d e.t] n k
/-! ### widths -/
theorem chW_b {y : Sy} (h : y.Ok) (q : Str) : 1 ≤ chW y q ∧ chW y q ≤ 4 := by
  have := h.h0
  have := h.h1
  unfold chW
  split <;> omega
theorem sum_b {f : Nat → Int} (hf : ∀ c, 1 ≤ f c ∧ f c ≤ 4) : ∀ l : List Nat, (l.length : Int) ≤ (l.map f).sum ∧ (l.map f).sum ≤ 4 * (l.length : Int)
  | [] => by simp
  | c :: l => by
    have h1 := hf c
    have h2 := sum_b hf l
    rw [List.map_cons, List.sum_cons, List.length_cons]
    omega
theorem four_len {w : Str} (h : w ∈ four) : w.cps.toList.length = w.length ∧ 1 ≤ w.length ∧ w.length ≤ 5 := by
  have h1 : ∀ w ∈ four, w.cps.toList.length = w.length ∧ 1 ≤ w.length ∧ w.length ≤ 5 := by decide +kernel
  exact h1 w h
end DL

namespace DL
open PySem PySem.Spec PyProof.Rows L2
theorem p_is_number : RdOk 1 1 R_is_number t_is_number := by
  intro ss n kk h hl
  cases h with
  | mk i h => exact ⟨_, rfl, _, kit_ii, _, rfl, _, rfl, _, kit_ib, _, rfl, h⟩
theorem p_tuple_of (m : Nat) : RdOk 2 1 (R_tuple_of (m + 1)) (t_tuple_of (R_tuple_of m)) := by
  intro ss n kk h hl
  cases h with
  | mk x y h hk =>
    rcases h with ⟨rfl, h⟩ | ⟨xs, ys, he, hy, hlen, ha⟩
    · cases y with
      | int i => exact ⟨_, rfl, _, _, kit_il, kit_it, _, rfl, _, rfl, hk⟩
      | bl i => exact ⟨_, rfl, _, _, kit_bl, kit_bt, _, rfl, _, rfl, hk⟩
      | str i => exact ⟨_, rfl, _, _, kit_sl, kit_st, _, rfl, _, rfl, hk⟩
      | _ => cases h
    · have fin : kk (.tup ys) n ∨ kk (.tz ys) n := by
        rcases hy with rfl | rfl
        · exact .inl hk
        · exact .inr hk
      cases x with
      | tup l =>
        refine ⟨_, rfl, _, _, kit_tl, kit_tt, _, rfl, ?_⟩
        exact ⟨_, rfl, xs, he, hlen, lc_all2 ha (fun a b n k' hr hk' => ⟨_, rfl, R_tuple_of.mk a b hr hk'⟩) ⟨ys, rfl, fin⟩⟩
      | tz l =>
        refine ⟨_, rfl, _, _, kit_tl, kit_tt, _, rfl, ?_⟩
        exact ⟨_, rfl, xs, he, hlen, lc_all2 ha (fun a b n k' hr hk' => ⟨_, rfl, R_tuple_of.mk a b hr hk'⟩) ⟨ys, rfl, fin⟩⟩
      | lst l =>
        refine ⟨_, rfl, _, _, kit_ll, kit_lt, _, rfl, ?_⟩
        exact ⟨_, rfl, xs, he, hlen, lc_all2 ha (fun a b n k' hr hk' => ⟨_, rfl, R_tuple_of.mk a b hr hk'⟩) ⟨ys, rfl, fin⟩⟩
      | _ => cases he
theorem p_is_tuple_of : RdOk 2 2 R_is_tuple_of t_is_tuple_of := by
  intro ss n kk h hl
  cases h with
  | mk l i h =>
    refine ⟨_, rfl, _, kit_tt, ?_⟩
    repeat (first | refine ⟨_, rfl, ?_⟩ | refine ⟨Nat.le_of_ble_eq_true rfl, ?_⟩ | refine ⟨_, _, rfl, rfl, ?_⟩ | refine ⟨_, _, _, rfl, rfl, rfl, ?_⟩ | refine ⟨rfl, ?_⟩ | refine ⟨_, _, rfl, ?_⟩ | refine ⟨_, _, _, rfl, ?_⟩ | refine ⟨.inl ⟨by omega, by omega⟩, ?_⟩ | refine ⟨.inr ⟨by omega, by omega⟩, ?_⟩)
    exact h
theorem gc_pos {t b : Int} (h : 0 < b) : 0 < gc t b ∧ gc t b ≤ b := by
  have h1 : 0 < Nat.gcd t.natAbs b.natAbs := Nat.gcd_pos_of_pos_right _ (by omega)
  have h2 : Nat.gcd t.natAbs b.natAbs ≤ b.natAbs := Nat.gcd_le_right _ (by omega)
  unfold gc
  omega
theorem cdivw {i j : Int} (h : 0 < j) (h2 : j < 2 ^ 64) : CDivW i j := by
  refine ⟨h, ?_⟩
  have : j.natAbs < 2 ^ 64 := by omega
  have := Nat.log2_lt (n := j.natAbs) (k := 64) (by omega) |>.mpr this
  omega
theorem p_fraction : RdOk 3 2 R_fraction t_fraction := by
  intro ss n kk h hl
  cases h with
  | mk t b h1 h2 h =>
    repeat (first | refine ⟨_, rfl, ?_⟩ | refine ⟨Nat.le_of_ble_eq_true rfl, ?_⟩ | refine ⟨_, _, rfl, rfl, ?_⟩ | refine ⟨_, _, _, rfl, rfl, rfl, ?_⟩ | refine ⟨rfl, ?_⟩ | refine ⟨_, _, rfl, ?_⟩ | refine ⟨_, _, _, rfl, ?_⟩ | refine ⟨.inl ⟨by omega, by omega⟩, ?_⟩ | refine ⟨.inr ⟨by omega, by omega⟩, ?_⟩)
    refine ite_d (fun e => by omega) (fun _ => ?_)
    have g := gc_pos (t := t) h1
    repeat (first | refine ⟨_, rfl, ?_⟩ | refine ⟨Nat.le_of_ble_eq_true rfl, ?_⟩ | refine ⟨_, _, rfl, rfl, ?_⟩ | refine ⟨_, _, _, rfl, rfl, rfl, ?_⟩ | refine ⟨rfl, ?_⟩ | refine ⟨_, _, rfl, ?_⟩ | refine ⟨_, _, _, rfl, ?_⟩ | refine ⟨.inl ⟨by omega, by omega⟩, ?_⟩ | refine ⟨.inr ⟨by omega, by omega⟩, ?_⟩)
    refine ite_d (fun _ => ?_) (fun e => by omega)
    repeat (first | refine ⟨_, rfl, ?_⟩ | refine ⟨Nat.le_of_ble_eq_true rfl, ?_⟩ | refine ⟨_, _, rfl, rfl, ?_⟩ | refine ⟨_, _, _, rfl, rfl, rfl, ?_⟩ | refine ⟨rfl, ?_⟩ | refine ⟨_, _, rfl, ?_⟩ | refine ⟨_, _, _, rfl, ?_⟩ | refine ⟨.inl ⟨by omega, by omega⟩, ?_⟩ | refine ⟨.inr ⟨by omega, by omega⟩, ?_⟩)
    have g2 : gc t b < 2 ^ 64 := by omega
    refine ⟨cdivw g.1 g2, ?_⟩
    repeat (first | refine ⟨_, rfl, ?_⟩ | refine ⟨Nat.le_of_ble_eq_true rfl, ?_⟩ | refine ⟨_, _, rfl, rfl, ?_⟩ | refine ⟨_, _, _, rfl, rfl, rfl, ?_⟩ | refine ⟨rfl, ?_⟩ | refine ⟨_, _, rfl, ?_⟩ | refine ⟨_, _, _, rfl, ?_⟩ | refine ⟨.inl ⟨by omega, by omega⟩, ?_⟩ | refine ⟨.inr ⟨by omega, by omega⟩, ?_⟩)
    refine ⟨cdivw g.1 g2, ?_⟩
    exact h
theorem p_plus : RdOk 2 2 R_plus (t_plus R_fraction) := by
  intro ss n kk h hl
  cases h with
  | mk a b c d h1 h2 s1 s2 s3 s4 h =>
    obtain ⟨u1, v1⟩ := s1
    obtain ⟨u2, v2⟩ := s2
    obtain ⟨u3, v3⟩ := s3
    obtain ⟨u4, v4⟩ := s4
    repeat (first | refine ⟨_, rfl, ?_⟩ | refine ⟨Nat.le_of_ble_eq_true rfl, ?_⟩ | refine ⟨_, _, rfl, rfl, ?_⟩ | refine ⟨_, _, _, rfl, rfl, rfl, ?_⟩ | refine ⟨rfl, ?_⟩ | refine ⟨_, _, rfl, ?_⟩ | refine ⟨_, _, _, rfl, ?_⟩ | refine ⟨.inl ⟨by omega, by omega⟩, ?_⟩ | refine ⟨.inr ⟨by omega, by omega⟩, ?_⟩)
    refine R_fraction.mk _ _ (Int.mul_pos h1 h2) (Int.lt_of_le_of_lt (Int.mul_le_mul v2 v4 (by omega) (by omega)) (by decide)) h
theorem p_minus : RdOk 2 2 R_minus (t_minus R_fraction) := by
  intro ss n kk h hl
  cases h with
  | mk a b c d h1 h2 s1 s2 s3 s4 h =>
    obtain ⟨u1, v1⟩ := s1
    obtain ⟨u2, v2⟩ := s2
    obtain ⟨u3, v3⟩ := s3
    obtain ⟨u4, v4⟩ := s4
    repeat (first | refine ⟨_, rfl, ?_⟩ | refine ⟨Nat.le_of_ble_eq_true rfl, ?_⟩ | refine ⟨_, _, rfl, rfl, ?_⟩ | refine ⟨_, _, _, rfl, rfl, rfl, ?_⟩ | refine ⟨rfl, ?_⟩ | refine ⟨_, _, rfl, ?_⟩ | refine ⟨_, _, _, rfl, ?_⟩ | refine ⟨.inl ⟨by omega, by omega⟩, ?_⟩ | refine ⟨.inr ⟨by omega, by omega⟩, ?_⟩)
    refine R_fraction.mk _ _ (Int.mul_pos h1 h2) (Int.lt_of_le_of_lt (Int.mul_le_mul v2 v4 (by omega) (by omega)) (by decide)) h
theorem p_is_less : RdOk 2 2 R_is_less t_is_less := by
  intro ss n kk h hl
  cases h with
  | mk a b c d h1 h2 h =>
    obtain ⟨u1, v1⟩ := h1
    obtain ⟨u2, v2⟩ := h2
    repeat (first | refine ⟨_, rfl, ?_⟩ | refine ⟨Nat.le_of_ble_eq_true rfl, ?_⟩ | refine ⟨_, _, rfl, rfl, ?_⟩ | refine ⟨_, _, _, rfl, rfl, rfl, ?_⟩ | refine ⟨rfl, ?_⟩ | refine ⟨_, _, rfl, ?_⟩ | refine ⟨_, _, _, rfl, ?_⟩ | refine ⟨.inl ⟨by omega, by omega⟩, ?_⟩ | refine ⟨.inr ⟨by omega, by omega⟩, ?_⟩)
    exact h
theorem p_on : RdOk 8 2 R_on (t_on R_fraction) := by
  intro ss n kk h hl
  cases h with
  | mk e p q h1 h2 h3 h =>
    obtain ⟨u2, v2⟩ := h2
    obtain ⟨u3, v3⟩ := h3
    repeat (first | refine ⟨_, rfl, ?_⟩ | refine ⟨Nat.le_of_ble_eq_true rfl, ?_⟩ | refine ⟨_, _, rfl, rfl, ?_⟩ | refine ⟨_, _, _, rfl, rfl, rfl, ?_⟩ | refine ⟨rfl, ?_⟩ | refine ⟨_, _, rfl, ?_⟩ | refine ⟨_, _, _, rfl, ?_⟩ | refine ⟨.inl ⟨by omega, by omega⟩, ?_⟩ | refine ⟨.inr ⟨by omega, by omega⟩, ?_⟩)
    refine R_fraction.mk _ _ h1 (by omega) ?_
    repeat (first | refine ⟨_, rfl, ?_⟩ | refine ⟨Nat.le_of_ble_eq_true rfl, ?_⟩ | refine ⟨_, _, rfl, rfl, ?_⟩ | refine ⟨_, _, _, rfl, rfl, rfl, ?_⟩ | refine ⟨rfl, ?_⟩ | refine ⟨_, _, rfl, ?_⟩ | refine ⟨_, _, _, rfl, ?_⟩ | refine ⟨.inl ⟨by omega, by omega⟩, ?_⟩ | refine ⟨.inr ⟨by omega, by omega⟩, ?_⟩)
    exact R_fraction.mk _ _ h1 (by omega) h
theorem p_reach : RdOk 2 2 R_reach t_reach := by
  intro ss n kk h hl
  cases h with
  | mk x y u v h =>
    repeat (first | refine ⟨_, rfl, ?_⟩ | refine ⟨Nat.le_of_ble_eq_true rfl, ?_⟩ | refine ⟨_, _, rfl, rfl, ?_⟩ | refine ⟨_, _, _, rfl, rfl, rfl, ?_⟩ | refine ⟨rfl, ?_⟩ | refine ⟨_, _, rfl, ?_⟩ | refine ⟨_, _, _, rfl, ?_⟩ | refine ⟨.inl ⟨by omega, by omega⟩, ?_⟩ | refine ⟨.inr ⟨by omega, by omega⟩, ?_⟩)
    exact h
theorem eqS_int {i j : Int} : eqS (.int i) (.int j) = decide (i = j) := rfl
theorem p_stepped : RdOk 5 3 R_stepped t_stepped := by
  intro ss n kk h hl
  cases h with
  | mk x y u v m h =>
    have one : ∀ (o i : Int) (n : Nat) (k : DK), k (.int (stp o i m)) n → e_stepped_1 [.d (fr x y), .d (fr u v), .d (.int m), .d (.int o), .d (.int i)] n k := fun o i n k hk => by
      unfold stp at hk
      repeat (first | refine ⟨_, rfl, ?_⟩ | refine ⟨Nat.le_of_ble_eq_true rfl, ?_⟩ | refine ⟨_, _, rfl, rfl, ?_⟩ | refine ⟨_, _, _, rfl, rfl, rfl, ?_⟩ | refine ⟨rfl, ?_⟩ | refine ⟨_, _, rfl, ?_⟩ | refine ⟨_, _, _, rfl, ?_⟩ | refine ⟨.inl ⟨by omega, by omega⟩, ?_⟩ | refine ⟨.inr ⟨by omega, by omega⟩, ?_⟩)
      refine ite_d (fun e => ?_) (fun e => ?_)
      · rw [if_pos e] at hk
        exact ⟨_, rfl, hk⟩
      · rw [if_neg e] at hk
        repeat (first | refine ⟨_, rfl, ?_⟩ | refine ⟨Nat.le_of_ble_eq_true rfl, ?_⟩ | refine ⟨_, _, rfl, rfl, ?_⟩ | refine ⟨_, _, _, rfl, rfl, rfl, ?_⟩ | refine ⟨rfl, ?_⟩ | refine ⟨_, _, rfl, ?_⟩ | refine ⟨_, _, _, rfl, ?_⟩ | refine ⟨.inl ⟨by omega, by omega⟩, ?_⟩ | refine ⟨.inr ⟨by omega, by omega⟩, ?_⟩)
        refine ite_d (fun e => ?_) (fun e => ?_)
        · rw [if_pos e] at hk
          repeat (first | refine ⟨_, rfl, ?_⟩ | refine ⟨Nat.le_of_ble_eq_true rfl, ?_⟩ | refine ⟨_, _, rfl, rfl, ?_⟩ | refine ⟨_, _, _, rfl, rfl, rfl, ?_⟩ | refine ⟨rfl, ?_⟩ | refine ⟨_, _, rfl, ?_⟩ | refine ⟨_, _, _, rfl, ?_⟩ | refine ⟨.inl ⟨by omega, by omega⟩, ?_⟩ | refine ⟨.inr ⟨by omega, by omega⟩, ?_⟩)
          exact hk
        · rw [if_neg e] at hk
          repeat (first | refine ⟨_, rfl, ?_⟩ | refine ⟨Nat.le_of_ble_eq_true rfl, ?_⟩ | refine ⟨_, _, rfl, rfl, ?_⟩ | refine ⟨_, _, _, rfl, rfl, rfl, ?_⟩ | refine ⟨rfl, ?_⟩ | refine ⟨_, _, rfl, ?_⟩ | refine ⟨_, _, _, rfl, ?_⟩ | refine ⟨.inl ⟨by omega, by omega⟩, ?_⟩ | refine ⟨.inr ⟨by omega, by omega⟩, ?_⟩)
          exact hk
    repeat (first | refine ⟨_, rfl, ?_⟩ | refine ⟨Nat.le_of_ble_eq_true rfl, ?_⟩ | refine ⟨_, _, rfl, rfl, ?_⟩ | refine ⟨_, _, _, rfl, rfl, rfl, ?_⟩ | refine ⟨rfl, ?_⟩ | refine ⟨_, _, rfl, ?_⟩ | refine ⟨_, _, _, rfl, ?_⟩ | refine ⟨.inl ⟨by omega, by omega⟩, ?_⟩ | refine ⟨.inr ⟨by omega, by omega⟩, ?_⟩)
    refine ⟨_, _, _, _, rfl, .inr ⟨rfl, rfl⟩, by show 2 ≤ 1000; decide, ?_⟩
    refine lc_one ⟨_, rfl, rfl, _, _, rfl, _, _, rfl, rfl, one x u _ _ ?_⟩
    refine lc_one ⟨_, rfl, rfl, _, _, rfl, _, _, rfl, rfl, one y v _ _ ?_⟩
    exact ⟨_, rfl, h⟩
theorem ab_of {i : Int} : ab i = if i < 0 then -i else i := rfl
theorem p_spot_in : RdOk 5 2 R_spot_in (t_spot_in R_reach R_stepped) := by
  intro ss n kk h hl
  cases h with
  | mk u y w v f h1 h2 h =>
    repeat (first | refine ⟨_, rfl, ?_⟩ | refine ⟨Nat.le_of_ble_eq_true rfl, ?_⟩ | refine ⟨_, _, rfl, rfl, ?_⟩ | refine ⟨_, _, _, rfl, rfl, rfl, ?_⟩ | refine ⟨rfl, ?_⟩ | refine ⟨_, _, rfl, ?_⟩ | refine ⟨_, _, _, rfl, ?_⟩ | refine ⟨.inl ⟨by omega, by omega⟩, ?_⟩ | refine ⟨.inr ⟨by omega, by omega⟩, ?_⟩)
    refine ⟨_, _, _, _, rfl, .inr ⟨rfl, rfl⟩, ?_⟩
    repeat (first | refine ⟨_, rfl, ?_⟩ | refine ⟨Nat.le_of_ble_eq_true rfl, ?_⟩ | refine ⟨_, _, rfl, rfl, ?_⟩ | refine ⟨_, _, _, rfl, rfl, rfl, ?_⟩ | refine ⟨rfl, ?_⟩ | refine ⟨_, _, rfl, ?_⟩ | refine ⟨_, _, _, rfl, ?_⟩ | refine ⟨.inl ⟨by omega, by omega⟩, ?_⟩ | refine ⟨.inr ⟨by omega, by omega⟩, ?_⟩)
    refine R_reach.mk _ _ _ _ ?_
    repeat (first | refine ⟨_, rfl, ?_⟩ | refine ⟨Nat.le_of_ble_eq_true rfl, ?_⟩ | refine ⟨_, _, rfl, rfl, ?_⟩ | refine ⟨_, _, _, rfl, rfl, rfl, ?_⟩ | refine ⟨rfl, ?_⟩ | refine ⟨_, _, rfl, ?_⟩ | refine ⟨_, _, _, rfl, ?_⟩ | refine ⟨.inl ⟨by omega, by omega⟩, ?_⟩ | refine ⟨.inr ⟨by omega, by omega⟩, ?_⟩)
    refine ite_d (fun _ => ?_) (fun e => absurd ?_ e)
    · repeat (first | refine ⟨_, rfl, ?_⟩ | refine ⟨Nat.le_of_ble_eq_true rfl, ?_⟩ | refine ⟨_, _, rfl, rfl, ?_⟩ | refine ⟨_, _, _, rfl, rfl, rfl, ?_⟩ | refine ⟨rfl, ?_⟩ | refine ⟨_, _, rfl, ?_⟩ | refine ⟨_, _, _, rfl, ?_⟩ | refine ⟨.inl ⟨by omega, by omega⟩, ?_⟩ | refine ⟨.inr ⟨by omega, by omega⟩, ?_⟩)
      refine R_stepped.mk _ _ _ _ _ ?_
      have e1 : stp u (u + 10) f = u + f := by
        unfold stp
        rw [if_neg (by omega), if_pos (by omega)]
      have e2 : stp y y f = y := by
        unfold stp
        rw [if_pos rfl]
      rw [e1, e2]
      exact h
    · unfold ab
      rw [if_pos (by omega), if_neg (by omega)]
      omega
end DL

namespace DL
open PySem PySem.Spec PyProof.Rows L2
theorem wd_b {y : Sy} (h : y.Ok) {w : Str} (hw : w ∈ four) : 1 ≤ wd y w ∧ wd y w ≤ 40 := by
  obtain ⟨e1, e2, e3⟩ := four_len hw
  have h1 := sum_b (f := fun c => chW y ⟨#[c]⟩) (fun c => chW_b h _) w.cps.toList
  have h2 := h.h2
  unfold wd
  rw [e1] at h1
  have h3 : 0 ≤ y.s2 * ((w.length : Int) - 1) := Int.mul_nonneg h2.1 (by omega)
  have h4 : y.s2 * ((w.length : Int) - 1) ≤ 1 * ((w.length : Int) - 1) := Int.mul_le_mul_of_nonneg_right h2.2 (by omega)
  omega
theorem p_piece_in : RdOk 7 3 R_piece_in (t_piece_in R_spot_in R_reach) := by
  intro ss n kk h hl
  cases h with
  | mk u y w v f l h1 h2 h3 h =>
    have e1 : ab (u - (u + 10)) = 10 := by unfold ab; rw [if_pos (by omega)]; omega
    have e2 : ab (y - y) = 0 := by unfold ab; rw [if_neg (by omega)]; omega
    have e3 : 0 ≤ ab (u + 10 - w) := by unfold ab; split <;> omega
    have e4 : 0 ≤ ab (y - v) := by unfold ab; split <;> omega
    repeat (first | refine ⟨_, rfl, ?_⟩ | refine ⟨Nat.le_of_ble_eq_true rfl, ?_⟩ | refine ⟨_, _, rfl, rfl, ?_⟩ | refine ⟨_, _, _, rfl, rfl, rfl, ?_⟩ | refine ⟨rfl, ?_⟩ | refine ⟨_, _, rfl, ?_⟩ | refine ⟨_, _, _, rfl, ?_⟩ | refine ⟨.inl ⟨by omega, by omega⟩, ?_⟩ | refine ⟨.inr ⟨by omega, by omega⟩, ?_⟩)
    refine R_spot_in.mk u y w v f h1 (by omega) ?_
    repeat (first | refine ⟨_, rfl, ?_⟩ | refine ⟨Nat.le_of_ble_eq_true rfl, ?_⟩ | refine ⟨_, _, rfl, rfl, ?_⟩ | refine ⟨_, _, _, rfl, rfl, rfl, ?_⟩ | refine ⟨rfl, ?_⟩ | refine ⟨_, _, rfl, ?_⟩ | refine ⟨_, _, _, rfl, ?_⟩ | refine ⟨.inl ⟨by omega, by omega⟩, ?_⟩ | refine ⟨.inr ⟨by omega, by omega⟩, ?_⟩)
    refine ⟨_, _, _, _, rfl, .inr ⟨rfl, rfl⟩, ?_⟩
    repeat (first | refine ⟨_, rfl, ?_⟩ | refine ⟨Nat.le_of_ble_eq_true rfl, ?_⟩ | refine ⟨_, _, rfl, rfl, ?_⟩ | refine ⟨_, _, _, rfl, rfl, rfl, ?_⟩ | refine ⟨rfl, ?_⟩ | refine ⟨_, _, rfl, ?_⟩ | refine ⟨_, _, _, rfl, ?_⟩ | refine ⟨.inl ⟨by omega, by omega⟩, ?_⟩ | refine ⟨.inr ⟨by omega, by omega⟩, ?_⟩)
    refine R_reach.mk _ _ _ _ ?_
    repeat (first | refine ⟨_, rfl, ?_⟩ | refine ⟨Nat.le_of_ble_eq_true rfl, ?_⟩ | refine ⟨_, _, rfl, rfl, ?_⟩ | refine ⟨_, _, _, rfl, rfl, rfl, ?_⟩ | refine ⟨rfl, ?_⟩ | refine ⟨_, _, rfl, ?_⟩ | refine ⟨_, _, _, rfl, ?_⟩ | refine ⟨.inl ⟨by omega, by omega⟩, ?_⟩ | refine ⟨.inr ⟨by omega, by omega⟩, ?_⟩)
    refine ite_d (fun _ => ?_) (fun e => absurd (show f < _ by omega) e)
    repeat (first | refine ⟨_, rfl, ?_⟩ | refine ⟨Nat.le_of_ble_eq_true rfl, ?_⟩ | refine ⟨_, _, rfl, rfl, ?_⟩ | refine ⟨_, _, _, rfl, rfl, rfl, ?_⟩ | refine ⟨rfl, ?_⟩ | refine ⟨_, _, rfl, ?_⟩ | refine ⟨_, _, _, rfl, ?_⟩ | refine ⟨.inl ⟨by omega, by omega⟩, ?_⟩ | refine ⟨.inr ⟨by omega, by omega⟩, ?_⟩)
    refine ite_d (fun e => absurd e (by omega)) (fun e => ?_)
    repeat (first | refine ⟨_, rfl, ?_⟩ | refine ⟨Nat.le_of_ble_eq_true rfl, ?_⟩ | refine ⟨_, _, rfl, rfl, ?_⟩ | refine ⟨_, _, _, rfl, rfl, rfl, ?_⟩ | refine ⟨rfl, ?_⟩ | refine ⟨_, _, rfl, ?_⟩ | refine ⟨_, _, _, rfl, ?_⟩ | refine ⟨.inl ⟨by omega, by omega⟩, ?_⟩ | refine ⟨.inr ⟨by omega, by omega⟩, ?_⟩)
    refine R_reach.mk _ _ _ _ ?_
    repeat (first | refine ⟨_, rfl, ?_⟩ | refine ⟨Nat.le_of_ble_eq_true rfl, ?_⟩ | refine ⟨_, _, rfl, rfl, ?_⟩ | refine ⟨_, _, _, rfl, rfl, rfl, ?_⟩ | refine ⟨rfl, ?_⟩ | refine ⟨_, _, rfl, ?_⟩ | refine ⟨_, _, _, rfl, ?_⟩ | refine ⟨.inl ⟨by omega, by omega⟩, ?_⟩ | refine ⟨.inr ⟨by omega, by omega⟩, ?_⟩)
    refine ite_d (fun _ => ?_) (fun e => absurd (show f < _ by omega) e)
    repeat (first | refine ⟨_, rfl, ?_⟩ | refine ⟨Nat.le_of_ble_eq_true rfl, ?_⟩ | refine ⟨_, _, rfl, rfl, ?_⟩ | refine ⟨_, _, _, rfl, rfl, rfl, ?_⟩ | refine ⟨rfl, ?_⟩ | refine ⟨_, _, rfl, ?_⟩ | refine ⟨_, _, _, rfl, ?_⟩ | refine ⟨.inl ⟨by omega, by omega⟩, ?_⟩ | refine ⟨.inr ⟨by omega, by omega⟩, ?_⟩)
    refine ite_d (fun e => absurd e (by omega)) (fun e => ?_)
    repeat (first | refine ⟨_, rfl, ?_⟩ | refine ⟨Nat.le_of_ble_eq_true rfl, ?_⟩ | refine ⟨_, _, rfl, rfl, ?_⟩ | refine ⟨_, _, _, rfl, rfl, rfl, ?_⟩ | refine ⟨rfl, ?_⟩ | refine ⟨_, _, rfl, ?_⟩ | refine ⟨_, _, _, rfl, ?_⟩ | refine ⟨.inl ⟨by omega, by omega⟩, ?_⟩ | refine ⟨.inr ⟨by omega, by omega⟩, ?_⟩)
    refine ite_d (fun e => ?_) (fun e => ?_)
    · rw [if_pos e] at h
      repeat (first | refine ⟨_, rfl, ?_⟩ | refine ⟨Nat.le_of_ble_eq_true rfl, ?_⟩ | refine ⟨_, _, rfl, rfl, ?_⟩ | refine ⟨_, _, _, rfl, rfl, rfl, ?_⟩ | refine ⟨rfl, ?_⟩ | refine ⟨_, _, rfl, ?_⟩ | refine ⟨_, _, _, rfl, ?_⟩ | refine ⟨.inl ⟨by omega, by omega⟩, ?_⟩ | refine ⟨.inr ⟨by omega, by omega⟩, ?_⟩)
      refine R_spot_in.mk u y w v l (by omega) (by omega) ?_
      exact ⟨_, rfl, _, rfl, _, rfl, h⟩
    · rw [if_neg e] at h
      exact ⟨_, rfl, _, rfl, _, rfl, h⟩
theorem p_frame_of : RdOk 4 1 R_frame_of t_frame_of := by
  intro ss n kk h hl
  cases h with
  | one x y h =>
    repeat (first | refine ⟨_, rfl, ?_⟩ | refine ⟨Nat.le_of_ble_eq_true rfl, ?_⟩ | refine ⟨_, _, rfl, rfl, ?_⟩ | refine ⟨_, _, _, rfl, rfl, rfl, ?_⟩ | refine ⟨rfl, ?_⟩ | refine ⟨_, _, rfl, ?_⟩ | refine ⟨_, _, _, rfl, ?_⟩ | refine ⟨.inl ⟨by omega, by omega⟩, ?_⟩ | refine ⟨.inr ⟨by omega, by omega⟩, ?_⟩)
    refine ⟨[x], rfl, by show 0 < 1; decide, fun m hm hy => ?_⟩
    repeat (first | refine ⟨_, rfl, ?_⟩ | refine ⟨Nat.le_of_ble_eq_true rfl, ?_⟩ | refine ⟨_, _, rfl, rfl, ?_⟩ | refine ⟨_, _, _, rfl, rfl, rfl, ?_⟩ | refine ⟨rfl, ?_⟩ | refine ⟨_, _, rfl, ?_⟩ | refine ⟨_, _, _, rfl, ?_⟩ | refine ⟨.inl ⟨by omega, by omega⟩, ?_⟩ | refine ⟨.inr ⟨by omega, by omega⟩, ?_⟩)
    refine ⟨[y], rfl, by show 0 < 1; decide, fun m2 hm2 hy2 => ?_⟩
    repeat (first | refine ⟨_, rfl, ?_⟩ | refine ⟨Nat.le_of_ble_eq_true rfl, ?_⟩ | refine ⟨_, _, rfl, rfl, ?_⟩ | refine ⟨_, _, _, rfl, rfl, rfl, ?_⟩ | refine ⟨rfl, ?_⟩ | refine ⟨_, _, rfl, ?_⟩ | refine ⟨_, _, _, rfl, ?_⟩ | refine ⟨.inl ⟨by omega, by omega⟩, ?_⟩ | refine ⟨.inr ⟨by omega, by omega⟩, ?_⟩)
    refine ⟨[x], rfl, by show 0 < 1; decide, fun m3 hm3 hy3 => ?_⟩
    repeat (first | refine ⟨_, rfl, ?_⟩ | refine ⟨Nat.le_of_ble_eq_true rfl, ?_⟩ | refine ⟨_, _, rfl, rfl, ?_⟩ | refine ⟨_, _, _, rfl, rfl, rfl, ?_⟩ | refine ⟨rfl, ?_⟩ | refine ⟨_, _, rfl, ?_⟩ | refine ⟨_, _, _, rfl, ?_⟩ | refine ⟨.inl ⟨by omega, by omega⟩, ?_⟩ | refine ⟨.inr ⟨by omega, by omega⟩, ?_⟩)
    refine ⟨[y], rfl, by show 0 < 1; decide, fun m4 hm4 hy4 => ?_⟩
    simp only [List.mem_singleton] at hm hm2 hm3 hm4
    subst hm hm2 hm3 hm4
    exact h
  | two x y z h1 h =>
    repeat (first | refine ⟨_, rfl, ?_⟩ | refine ⟨Nat.le_of_ble_eq_true rfl, ?_⟩ | refine ⟨_, _, rfl, rfl, ?_⟩ | refine ⟨_, _, _, rfl, rfl, rfl, ?_⟩ | refine ⟨rfl, ?_⟩ | refine ⟨_, _, rfl, ?_⟩ | refine ⟨_, _, _, rfl, ?_⟩ | refine ⟨.inl ⟨by omega, by omega⟩, ?_⟩ | refine ⟨.inr ⟨by omega, by omega⟩, ?_⟩)
    refine ⟨[x, z], rfl, by show 0 < 2; decide, fun m hm hy => ?_⟩
    repeat (first | refine ⟨_, rfl, ?_⟩ | refine ⟨Nat.le_of_ble_eq_true rfl, ?_⟩ | refine ⟨_, _, rfl, rfl, ?_⟩ | refine ⟨_, _, _, rfl, rfl, rfl, ?_⟩ | refine ⟨rfl, ?_⟩ | refine ⟨_, _, rfl, ?_⟩ | refine ⟨_, _, _, rfl, ?_⟩ | refine ⟨.inl ⟨by omega, by omega⟩, ?_⟩ | refine ⟨.inr ⟨by omega, by omega⟩, ?_⟩)
    refine ⟨[y, y], rfl, by show 0 < 2; decide, fun m2 hm2 hy2 => ?_⟩
    repeat (first | refine ⟨_, rfl, ?_⟩ | refine ⟨Nat.le_of_ble_eq_true rfl, ?_⟩ | refine ⟨_, _, rfl, rfl, ?_⟩ | refine ⟨_, _, _, rfl, rfl, rfl, ?_⟩ | refine ⟨rfl, ?_⟩ | refine ⟨_, _, rfl, ?_⟩ | refine ⟨_, _, _, rfl, ?_⟩ | refine ⟨.inl ⟨by omega, by omega⟩, ?_⟩ | refine ⟨.inr ⟨by omega, by omega⟩, ?_⟩)
    refine ⟨[x, z], rfl, by show 0 < 2; decide, fun m3 hm3 hy3 => ?_⟩
    repeat (first | refine ⟨_, rfl, ?_⟩ | refine ⟨Nat.le_of_ble_eq_true rfl, ?_⟩ | refine ⟨_, _, rfl, rfl, ?_⟩ | refine ⟨_, _, _, rfl, rfl, rfl, ?_⟩ | refine ⟨rfl, ?_⟩ | refine ⟨_, _, rfl, ?_⟩ | refine ⟨_, _, _, rfl, ?_⟩ | refine ⟨.inl ⟨by omega, by omega⟩, ?_⟩ | refine ⟨.inr ⟨by omega, by omega⟩, ?_⟩)
    refine ⟨[y, y], rfl, by show 0 < 2; decide, fun m4 hm4 hy4 => ?_⟩
    have a1 := hy x (by simp)
    have a3 := hy3 z (by simp)
    simp only [List.mem_cons, List.mem_nil_iff, or_false, or_self] at hm hm2 hm3 hm4
    have b1 : m = x := by omega
    have b3 : m3 = z := by omega
    subst b1 b3 hm2 hm4
    exact h
theorem p_tie_in : RdOk 3 1 R_tie_in (t_tie_in R_frame_of R_piece_in) := by
  intro ss n kk h hl
  cases h with
  | mk e h1 h =>
    obtain ⟨c, w, f⟩ := e
    cases f with
    | pt x y =>
      repeat (first | refine ⟨_, rfl, ?_⟩ | refine ⟨Nat.le_of_ble_eq_true rfl, ?_⟩ | refine ⟨_, _, rfl, rfl, ?_⟩ | refine ⟨_, _, _, rfl, rfl, rfl, ?_⟩ | refine ⟨rfl, ?_⟩ | refine ⟨_, _, rfl, ?_⟩ | refine ⟨_, _, _, rfl, ?_⟩ | refine ⟨.inl ⟨by omega, by omega⟩, ?_⟩ | refine ⟨.inr ⟨by omega, by omega⟩, ?_⟩)
      exact h
    | rd u y w' v o t =>
      obtain ⟨q1, q2, q3, q4⟩ := h1
      repeat (first | refine ⟨_, rfl, ?_⟩ | refine ⟨Nat.le_of_ble_eq_true rfl, ?_⟩ | refine ⟨_, _, rfl, rfl, ?_⟩ | refine ⟨_, _, _, rfl, rfl, rfl, ?_⟩ | refine ⟨rfl, ?_⟩ | refine ⟨_, _, rfl, ?_⟩ | refine ⟨_, _, _, rfl, ?_⟩ | refine ⟨.inl ⟨by omega, by omega⟩, ?_⟩ | refine ⟨.inr ⟨by omega, by omega⟩, ?_⟩)
      refine R_piece_in.mk u y w' v (o + 1) (o + t + 1) (by omega) (by omega) (by omega) ?_
      by_cases z : o + 1 < o + t + 1
      · rw [if_pos z]
        repeat (first | refine ⟨_, rfl, ?_⟩ | refine ⟨Nat.le_of_ble_eq_true rfl, ?_⟩ | refine ⟨_, _, rfl, rfl, ?_⟩ | refine ⟨_, _, _, rfl, rfl, rfl, ?_⟩ | refine ⟨rfl, ?_⟩ | refine ⟨_, _, rfl, ?_⟩ | refine ⟨_, _, _, rfl, ?_⟩ | refine ⟨.inl ⟨by omega, by omega⟩, ?_⟩ | refine ⟨.inr ⟨by omega, by omega⟩, ?_⟩)
        exact R_frame_of.two _ _ _ (by omega) h
      · have e : t = 0 := by omega
        subst e
        rw [if_neg z]
        repeat (first | refine ⟨_, rfl, ?_⟩ | refine ⟨Nat.le_of_ble_eq_true rfl, ?_⟩ | refine ⟨_, _, rfl, rfl, ?_⟩ | refine ⟨_, _, _, rfl, rfl, rfl, ?_⟩ | refine ⟨rfl, ?_⟩ | refine ⟨_, _, rfl, ?_⟩ | refine ⟨_, _, _, rfl, ?_⟩ | refine ⟨.inl ⟨by omega, by omega⟩, ?_⟩ | refine ⟨.inr ⟨by omega, by omega⟩, ?_⟩)
        refine R_frame_of.one _ _ ?_
        have e2 : o + 0 + 1 = o + 1 := by omega
        have h' : kk (box (u + (o + 1)) y (u + (o + 0 + 1)) y) n := h
        rw [e2] at h'
        exact h'
    | bx x y p q =>
      repeat (first | refine ⟨_, rfl, ?_⟩ | refine ⟨Nat.le_of_ble_eq_true rfl, ?_⟩ | refine ⟨_, _, rfl, rfl, ?_⟩ | refine ⟨_, _, _, rfl, rfl, rfl, ?_⟩ | refine ⟨rfl, ?_⟩ | refine ⟨_, _, rfl, ?_⟩ | refine ⟨_, _, _, rfl, ?_⟩ | refine ⟨.inl ⟨by omega, by omega⟩, ?_⟩ | refine ⟨.inr ⟨by omega, by omega⟩, ?_⟩)
      exact h
theorem p_width_in : RdOk 4 2 R_width_in t_width_in := by
  intro ss n kk h hl
  cases h with
  | mk y w h1 h2 h =>
    obtain ⟨e1, e2, e3⟩ := four_len h2
    have q2 := h1.h2
    repeat (first | refine ⟨_, rfl, ?_⟩ | refine ⟨Nat.le_of_ble_eq_true rfl, ?_⟩ | refine ⟨_, _, rfl, rfl, ?_⟩ | refine ⟨_, _, _, rfl, rfl, rfl, ?_⟩ | refine ⟨rfl, ?_⟩ | refine ⟨_, _, rfl, ?_⟩ | refine ⟨_, _, _, rfl, ?_⟩ | refine ⟨.inl ⟨by omega, by omega⟩, ?_⟩ | refine ⟨.inr ⟨by omega, by omega⟩, ?_⟩)
    refine ⟨by rw [show (signs w).length = w.cps.toList.length from by simp [signs], e1]; omega, ?_⟩
    refine lc_map (fun c => .str ⟨#[c]⟩) (fun c => .int (chW y ⟨#[c]⟩)) w.cps.toList (fun c hc n k' hk => ?_) ?_
    · repeat (first | refine ⟨_, rfl, ?_⟩ | refine ⟨Nat.le_of_ble_eq_true rfl, ?_⟩ | refine ⟨_, _, rfl, rfl, ?_⟩ | refine ⟨_, _, _, rfl, rfl, rfl, ?_⟩ | refine ⟨rfl, ?_⟩ | refine ⟨_, _, rfl, ?_⟩ | refine ⟨_, _, _, rfl, ?_⟩ | refine ⟨.inl ⟨by omega, by omega⟩, ?_⟩ | refine ⟨.inr ⟨by omega, by omega⟩, ?_⟩)
      have : (if (⟨#[c]⟩ : Str) = "i" then D.int y.s1 else D.int y.s0) = D.int (chW y ⟨#[c]⟩) := by
        unfold chW
        split <;> rfl
      exact cast (by rw [← this] <;> rfl) hk
    · refine ⟨w.cps.toList.map fun c => chW y ⟨#[c]⟩, by rw [List.map_map]; rfl, ?_⟩
      repeat (first | refine ⟨_, rfl, ?_⟩ | refine ⟨Nat.le_of_ble_eq_true rfl, ?_⟩ | refine ⟨_, _, rfl, rfl, ?_⟩ | refine ⟨_, _, _, rfl, rfl, rfl, ?_⟩ | refine ⟨rfl, ?_⟩ | refine ⟨_, _, rfl, ?_⟩ | refine ⟨_, _, _, rfl, ?_⟩ | refine ⟨.inl ⟨by omega, by omega⟩, ?_⟩ | refine ⟨.inr ⟨by omega, by omega⟩, ?_⟩)
      refine ⟨by omega, ?_⟩
      repeat (first | refine ⟨_, rfl, ?_⟩ | refine ⟨Nat.le_of_ble_eq_true rfl, ?_⟩ | refine ⟨_, _, rfl, rfl, ?_⟩ | refine ⟨_, _, _, rfl, rfl, rfl, ?_⟩ | refine ⟨rfl, ?_⟩ | refine ⟨_, _, rfl, ?_⟩ | refine ⟨_, _, _, rfl, ?_⟩ | refine ⟨.inl ⟨by omega, by omega⟩, ?_⟩ | refine ⟨.inr ⟨by omega, by omega⟩, ?_⟩)
      have e4 : (if (0 : Int) > (w.length : Int) - 1 then (0 : Int) else (w.length : Int) - 1) = (w.length : Int) - 1 := if_neg (by omega)
      rw [e4]
      repeat (first | refine ⟨_, rfl, ?_⟩ | refine ⟨Nat.le_of_ble_eq_true rfl, ?_⟩ | refine ⟨_, _, rfl, rfl, ?_⟩ | refine ⟨_, _, _, rfl, rfl, rfl, ?_⟩ | refine ⟨rfl, ?_⟩ | refine ⟨_, _, rfl, ?_⟩ | refine ⟨_, _, _, rfl, ?_⟩ | refine ⟨.inl ⟨by omega, by omega⟩, ?_⟩ | refine ⟨.inr ⟨by omega, by omega⟩, ?_⟩)
      exact h
theorem p_words_of : RdOk 2 1 R_words_of t_words_of := by
  intro ss n kk h hl
  cases h with
  | mk w h1 h =>
    obtain ⟨e1, e2, e3⟩ := four_len h1
    have hs : ∀ w ∈ four, Txt.split w " " = [w] ∧ w ≠ "" := by decide +kernel
    obtain ⟨s1, s2⟩ := hs w h1
    refine ⟨_, rfl, _, rfl, by omega, _, rfl, by decide +kernel, _, rfl, ?_⟩
    rw [s1]
    refine ⟨by show 1 ≤ 1000; decide, ?_⟩
    have e0 : (!eqS (.str w) (.str "")) = true := by simp [eqS, s2]
    refine ⟨_, rfl, rfl, _, rfl, ?_⟩
    refine ite_b (fun _ => ?_) (fun e => absurd (e0.symm.trans e) (by decide))
    exact ⟨_, rfl, h⟩
end DL

namespace DL
open PySem PySem.Spec PyProof.Rows L2
theorem py0 : ∀ (i : Nat) (d : D) (p : PyData), ([] : List D)[i]? = some d → ([] : List PyData)[i]? = some p → Py d p := fun i d p e => by simp at e
theorem py1 {x : D} {q : PyData} (h : Py x q) : ∀ (i : Nat) (d : D) (p : PyData), [x][i]? = some d → [q][i]? = some p → Py d p := fun i d p e1 e2 => by
  cases i with
  | zero =>
    cases Option.some.inj e1
    cases Option.some.inj e2
    exact h
  | succ j => simp at e1
theorem p_nexts : RdOk 6 4 R_nexts t_nexts := by
  intro ss n kk h hl
  cases h with
  | mk W h =>
    repeat (first | refine ⟨_, rfl, ?_⟩ | refine ⟨Nat.le_of_ble_eq_true rfl, ?_⟩ | refine ⟨_, _, rfl, rfl, ?_⟩ | refine ⟨_, _, _, rfl, rfl, rfl, ?_⟩ | refine ⟨rfl, ?_⟩ | refine ⟨_, _, rfl, ?_⟩ | refine ⟨_, _, _, rfl, ?_⟩ | refine ⟨.inl ⟨by omega, by omega⟩, ?_⟩ | refine ⟨.inr ⟨by omega, by omega⟩, ?_⟩)
    refine ⟨by decide, ?_⟩
    repeat (first | refine ⟨_, rfl, ?_⟩ | refine ⟨Nat.le_of_ble_eq_true rfl, ?_⟩ | refine ⟨_, _, rfl, rfl, ?_⟩ | refine ⟨_, _, _, rfl, rfl, rfl, ?_⟩ | refine ⟨rfl, ?_⟩ | refine ⟨_, _, rfl, ?_⟩ | refine ⟨_, _, _, rfl, ?_⟩ | refine ⟨.inl ⟨by omega, by omega⟩, ?_⟩ | refine ⟨.inr ⟨by omega, by omega⟩, ?_⟩)
    exact h
theorem p_table_in : RdOk 10 3 R_table_in (t_table_in R_nexts) := by
  intro ss n kk h hl
  cases h with
  | mk W h1 h =>
    repeat (first | refine ⟨_, rfl, ?_⟩ | refine ⟨Nat.le_of_ble_eq_true rfl, ?_⟩ | refine ⟨_, _, rfl, rfl, ?_⟩ | refine ⟨_, _, _, rfl, rfl, rfl, ?_⟩ | refine ⟨rfl, ?_⟩ | refine ⟨_, _, rfl, ?_⟩ | refine ⟨_, _, _, rfl, ?_⟩ | refine ⟨.inl ⟨by omega, by omega⟩, ?_⟩ | refine ⟨.inr ⟨by omega, by omega⟩, ?_⟩)
    refine ⟨by decide, by decide, ?_⟩
    repeat (first | refine ⟨_, rfl, ?_⟩ | refine ⟨Nat.le_of_ble_eq_true rfl, ?_⟩ | refine ⟨_, _, rfl, rfl, ?_⟩ | refine ⟨_, _, _, rfl, rfl, rfl, ?_⟩ | refine ⟨rfl, ?_⟩ | refine ⟨_, _, rfl, ?_⟩ | refine ⟨_, _, _, rfl, ?_⟩ | refine ⟨.inl ⟨by omega, by omega⟩, ?_⟩ | refine ⟨.inr ⟨by omega, by omega⟩, ?_⟩)
    refine ⟨by decide, by decide, ?_⟩
    repeat (first | refine ⟨_, rfl, ?_⟩ | refine ⟨Nat.le_of_ble_eq_true rfl, ?_⟩ | refine ⟨_, _, rfl, rfl, ?_⟩ | refine ⟨_, _, _, rfl, rfl, rfl, ?_⟩ | refine ⟨rfl, ?_⟩ | refine ⟨_, _, rfl, ?_⟩ | refine ⟨_, _, _, rfl, ?_⟩ | refine ⟨.inl ⟨by omega, by omega⟩, ?_⟩ | refine ⟨.inr ⟨by omega, by omega⟩, ?_⟩)
    refine ⟨by decide, by decide, ?_⟩
    repeat (first | refine ⟨_, rfl, ?_⟩ | refine ⟨Nat.le_of_ble_eq_true rfl, ?_⟩ | refine ⟨_, _, rfl, rfl, ?_⟩ | refine ⟨_, _, _, rfl, rfl, rfl, ?_⟩ | refine ⟨rfl, ?_⟩ | refine ⟨_, _, rfl, ?_⟩ | refine ⟨_, _, _, rfl, ?_⟩ | refine ⟨.inl ⟨by omega, by omega⟩, ?_⟩ | refine ⟨.inr ⟨by omega, by omega⟩, ?_⟩)
    refine ⟨.list [.int _], .list [], .lst rfl (py1 (.int _)), .lst rfl py0, rfl, rfl, ?_⟩
    repeat (first | refine ⟨_, rfl, ?_⟩ | refine ⟨Nat.le_of_ble_eq_true rfl, ?_⟩ | refine ⟨_, _, rfl, rfl, ?_⟩ | refine ⟨_, _, _, rfl, rfl, rfl, ?_⟩ | refine ⟨rfl, ?_⟩ | refine ⟨_, _, rfl, ?_⟩ | refine ⟨_, _, _, rfl, ?_⟩ | refine ⟨.inl ⟨by omega, by omega⟩, ?_⟩ | refine ⟨.inr ⟨by omega, by omega⟩, ?_⟩)
    refine ⟨[_], rfl, by show 0 < 1; decide, fun m hm _ => ?_⟩
    repeat (first | refine ⟨_, rfl, ?_⟩ | refine ⟨Nat.le_of_ble_eq_true rfl, ?_⟩ | refine ⟨_, _, rfl, rfl, ?_⟩ | refine ⟨_, _, _, rfl, rfl, rfl, ?_⟩ | refine ⟨rfl, ?_⟩ | refine ⟨_, _, rfl, ?_⟩ | refine ⟨_, _, _, rfl, ?_⟩ | refine ⟨.inl ⟨by omega, by omega⟩, ?_⟩ | refine ⟨.inr ⟨by omega, by omega⟩, ?_⟩)
    have e : m = W := by
      rw [List.mem_singleton.mp hm]
      exact if_neg (by omega)
    subst e
    exact h
end DL

namespace DL
open PySem PySem.Spec PyProof.Rows L2
theorem p_tethers_of : RdOk 13 3 R_tethers_of t_tethers_of := by
  intro ss n kk h hl
  cases h with
  | mk y W H a b c d h =>
    have c2 : ∀ i : Int, CDivW i 2 := fun i => ⟨by decide, by decide +kernel⟩
    unfold nmA nmB at h
    repeat (first | refine ⟨_, rfl, ?_⟩ | refine ⟨Nat.le_of_ble_eq_true rfl, ?_⟩ | refine ⟨_, _, rfl, rfl, ?_⟩ | refine ⟨_, _, _, rfl, rfl, rfl, ?_⟩ | refine ⟨rfl, ?_⟩ | refine ⟨_, _, rfl, ?_⟩ | refine ⟨_, _, _, rfl, ?_⟩ | refine ⟨.inl ⟨by omega, by omega⟩, ?_⟩ | refine ⟨.inr ⟨by omega, by omega⟩, ?_⟩)
    refine ⟨c2 _, ?_⟩
    repeat (first | refine ⟨_, rfl, ?_⟩ | refine ⟨Nat.le_of_ble_eq_true rfl, ?_⟩ | refine ⟨_, _, rfl, rfl, ?_⟩ | refine ⟨_, _, _, rfl, rfl, rfl, ?_⟩ | refine ⟨rfl, ?_⟩ | refine ⟨_, _, rfl, ?_⟩ | refine ⟨_, _, _, rfl, ?_⟩ | refine ⟨.inl ⟨by omega, by omega⟩, ?_⟩ | refine ⟨.inr ⟨by omega, by omega⟩, ?_⟩)
    refine ⟨c2 _, ?_⟩
    repeat (first | refine ⟨_, rfl, ?_⟩ | refine ⟨Nat.le_of_ble_eq_true rfl, ?_⟩ | refine ⟨_, _, rfl, rfl, ?_⟩ | refine ⟨_, _, _, rfl, rfl, rfl, ?_⟩ | refine ⟨rfl, ?_⟩ | refine ⟨_, _, rfl, ?_⟩ | refine ⟨_, _, _, rfl, ?_⟩ | refine ⟨.inl ⟨by omega, by omega⟩, ?_⟩ | refine ⟨.inr ⟨by omega, by omega⟩, ?_⟩)
    refine ⟨c2 _, ?_⟩
    repeat (first | refine ⟨_, rfl, ?_⟩ | refine ⟨Nat.le_of_ble_eq_true rfl, ?_⟩ | refine ⟨_, _, rfl, rfl, ?_⟩ | refine ⟨_, _, _, rfl, rfl, rfl, ?_⟩ | refine ⟨rfl, ?_⟩ | refine ⟨_, _, rfl, ?_⟩ | refine ⟨_, _, _, rfl, ?_⟩ | refine ⟨.inl ⟨by omega, by omega⟩, ?_⟩ | refine ⟨.inr ⟨by omega, by omega⟩, ?_⟩)
    refine ⟨c2 _, ?_⟩
    repeat (first | refine ⟨_, rfl, ?_⟩ | refine ⟨Nat.le_of_ble_eq_true rfl, ?_⟩ | refine ⟨_, _, rfl, rfl, ?_⟩ | refine ⟨_, _, _, rfl, rfl, rfl, ?_⟩ | refine ⟨rfl, ?_⟩ | refine ⟨_, _, rfl, ?_⟩ | refine ⟨_, _, _, rfl, ?_⟩ | refine ⟨.inl ⟨by omega, by omega⟩, ?_⟩ | refine ⟨.inr ⟨by omega, by omega⟩, ?_⟩)
    refine ite_d (fun e => ?_) (fun e1 => ?_)
    · rw [if_pos e, if_pos e] at h
      repeat (first | refine ⟨_, rfl, ?_⟩ | refine ⟨Nat.le_of_ble_eq_true rfl, ?_⟩ | refine ⟨_, _, rfl, rfl, ?_⟩ | refine ⟨_, _, _, rfl, rfl, rfl, ?_⟩ | refine ⟨rfl, ?_⟩ | refine ⟨_, _, rfl, ?_⟩ | refine ⟨_, _, _, rfl, ?_⟩ | refine ⟨.inl ⟨by omega, by omega⟩, ?_⟩ | refine ⟨.inr ⟨by omega, by omega⟩, ?_⟩)
      exact h
    · rw [if_neg e1, if_neg e1] at h
      repeat (first | refine ⟨_, rfl, ?_⟩ | refine ⟨Nat.le_of_ble_eq_true rfl, ?_⟩ | refine ⟨_, _, rfl, rfl, ?_⟩ | refine ⟨_, _, _, rfl, rfl, rfl, ?_⟩ | refine ⟨rfl, ?_⟩ | refine ⟨_, _, rfl, ?_⟩ | refine ⟨_, _, _, rfl, ?_⟩ | refine ⟨.inl ⟨by omega, by omega⟩, ?_⟩ | refine ⟨.inr ⟨by omega, by omega⟩, ?_⟩)
      refine ⟨_, ["left", "right"], rfl, rfl, ?_⟩
      refine ⟨_, rfl, ?_⟩
      refine ite_d (fun e => ?_) (fun e2 => ?_)
      · repeat (first | refine ⟨_, rfl, ?_⟩ | refine ⟨Nat.le_of_ble_eq_true rfl, ?_⟩ | refine ⟨_, _, rfl, rfl, ?_⟩ | refine ⟨_, _, _, rfl, rfl, rfl, ?_⟩ | refine ⟨rfl, ?_⟩ | refine ⟨_, _, rfl, ?_⟩ | refine ⟨_, _, _, rfl, ?_⟩ | refine ⟨.inl ⟨by omega, by omega⟩, ?_⟩ | refine ⟨.inr ⟨by omega, by omega⟩, ?_⟩)
        refine ite_d (fun e3 => ?_) (fun e3 => ?_)
        · have e4 : y.hold ≠ "over" := by rw [e3]; decide +kernel
          have e5 : y.hold ≠ "under" := by rw [e3]; decide +kernel
          rw [if_pos e3, if_neg e4, if_neg e5] at h
          repeat (first | refine ⟨_, rfl, ?_⟩ | refine ⟨Nat.le_of_ble_eq_true rfl, ?_⟩ | refine ⟨_, _, rfl, rfl, ?_⟩ | refine ⟨_, _, _, rfl, rfl, rfl, ?_⟩ | refine ⟨rfl, ?_⟩ | refine ⟨_, _, rfl, ?_⟩ | refine ⟨_, _, _, rfl, ?_⟩ | refine ⟨.inl ⟨by omega, by omega⟩, ?_⟩ | refine ⟨.inr ⟨by omega, by omega⟩, ?_⟩)
          exact h
        · have e6 : y.hold = "right" := by
            rcases List.mem_cons.mp e with q | q
            · exact absurd q e3
            · exact List.mem_singleton.mp q
          have e4 : y.hold ≠ "over" := by rw [e6]; decide +kernel
          have e5 : y.hold ≠ "under" := by rw [e6]; decide +kernel
          rw [if_neg e3, if_pos e6, if_neg e4, if_neg e5] at h
          repeat (first | refine ⟨_, rfl, ?_⟩ | refine ⟨Nat.le_of_ble_eq_true rfl, ?_⟩ | refine ⟨_, _, rfl, rfl, ?_⟩ | refine ⟨_, _, _, rfl, rfl, rfl, ?_⟩ | refine ⟨rfl, ?_⟩ | refine ⟨_, _, rfl, ?_⟩ | refine ⟨_, _, _, rfl, ?_⟩ | refine ⟨.inl ⟨by omega, by omega⟩, ?_⟩ | refine ⟨.inr ⟨by omega, by omega⟩, ?_⟩)
          exact h
      · have n1 : y.hold ≠ "left" := fun q => e2 (by rw [q]; exact List.mem_cons_self ..)
        have n2 : y.hold ≠ "right" := fun q => e2 (by rw [q]; exact List.mem_cons_of_mem _ (List.mem_singleton.mpr rfl))
        rw [if_neg n1, if_neg n2] at h
        repeat (first | refine ⟨_, rfl, ?_⟩ | refine ⟨Nat.le_of_ble_eq_true rfl, ?_⟩ | refine ⟨_, _, rfl, rfl, ?_⟩ | refine ⟨_, _, _, rfl, rfl, rfl, ?_⟩ | refine ⟨rfl, ?_⟩ | refine ⟨_, _, rfl, ?_⟩ | refine ⟨_, _, _, rfl, ?_⟩ | refine ⟨.inl ⟨by omega, by omega⟩, ?_⟩ | refine ⟨.inr ⟨by omega, by omega⟩, ?_⟩)
        refine ⟨_, ["over", "under"], rfl, rfl, ?_⟩
        refine ⟨_, rfl, ?_⟩
        refine ite_d (fun e => ?_) (fun e2 => ?_)
        · repeat (first | refine ⟨_, rfl, ?_⟩ | refine ⟨Nat.le_of_ble_eq_true rfl, ?_⟩ | refine ⟨_, _, rfl, rfl, ?_⟩ | refine ⟨_, _, _, rfl, rfl, rfl, ?_⟩ | refine ⟨rfl, ?_⟩ | refine ⟨_, _, rfl, ?_⟩ | refine ⟨_, _, _, rfl, ?_⟩ | refine ⟨.inl ⟨by omega, by omega⟩, ?_⟩ | refine ⟨.inr ⟨by omega, by omega⟩, ?_⟩)
          refine ite_d (fun e3 => ?_) (fun e3 => ?_)
          · rw [if_pos e3] at h
            repeat (first | refine ⟨_, rfl, ?_⟩ | refine ⟨Nat.le_of_ble_eq_true rfl, ?_⟩ | refine ⟨_, _, rfl, rfl, ?_⟩ | refine ⟨_, _, _, rfl, rfl, rfl, ?_⟩ | refine ⟨rfl, ?_⟩ | refine ⟨_, _, rfl, ?_⟩ | refine ⟨_, _, _, rfl, ?_⟩ | refine ⟨.inl ⟨by omega, by omega⟩, ?_⟩ | refine ⟨.inr ⟨by omega, by omega⟩, ?_⟩)
            exact h
          · have e6 : y.hold = "under" := by
              rcases List.mem_cons.mp e with q | q
              · exact absurd q e3
              · exact List.mem_singleton.mp q
            rw [if_neg e3, if_pos e6] at h
            repeat (first | refine ⟨_, rfl, ?_⟩ | refine ⟨Nat.le_of_ble_eq_true rfl, ?_⟩ | refine ⟨_, _, rfl, rfl, ?_⟩ | refine ⟨_, _, _, rfl, rfl, rfl, ?_⟩ | refine ⟨rfl, ?_⟩ | refine ⟨_, _, rfl, ?_⟩ | refine ⟨_, _, _, rfl, ?_⟩ | refine ⟨.inl ⟨by omega, by omega⟩, ?_⟩ | refine ⟨.inr ⟨by omega, by omega⟩, ?_⟩)
            exact h
        · have n3 : y.hold ≠ "over" := fun q => e2 (by rw [q]; exact List.mem_cons_self ..)
          have n4 : y.hold ≠ "under" := fun q => e2 (by rw [q]; exact List.mem_cons_of_mem _ (List.mem_singleton.mpr rfl))
          rw [if_neg n3, if_neg n4] at h
          repeat (first | refine ⟨_, rfl, ?_⟩ | refine ⟨Nat.le_of_ble_eq_true rfl, ?_⟩ | refine ⟨_, _, rfl, rfl, ?_⟩ | refine ⟨_, _, _, rfl, rfl, rfl, ?_⟩ | refine ⟨rfl, ?_⟩ | refine ⟨_, _, rfl, ?_⟩ | refine ⟨_, _, _, rfl, ?_⟩ | refine ⟨.inl ⟨by omega, by omega⟩, ?_⟩ | refine ⟨.inr ⟨by omega, by omega⟩, ?_⟩)
          exact h
end DL

namespace DL
open PySem PySem.Spec PyProof.Rows L2
theorem four_sh : ∀ w ∈ four, SeqAt.shaped (.list [.str w]) = true := by decide +kernel
theorem sy_tm {y : Sy} : Tm 4 y.z y.z :=
  .seq rfl (by show 9 ≤ 1000; decide) (.cons (.flat rfl) (.cons (.seqz rfl (by show 1 ≤ 1000; decide) (.cons (.seq rfl (by show 2 ≤ 1000; decide) (.cons (.flat rfl) (.cons (.flat rfl) .nil))) .nil)) (.cons (.flat rfl) (.cons (.flat rfl) (.cons (.flat rfl) (.cons (.flat rfl) (.cons (.flat rfl) (.cons (.flat rfl) (.cons (.flat rfl) .nil)))))))))
theorem p_lines_of : RdOk 15 2 R_lines_of (t_lines_of (R_tuple_of 4) R_words_of R_wide_in R_table_in R_nexts) := by
  intro ss n kk h hl
  cases h with
  | mk y w h1 h2 h =>
    obtain ⟨b1, b2⟩ := wd_b h1 h2
    have ej : Txt.join " " [w] = w := by
      have : ∀ w ∈ four, Txt.join " " [w] = w := by decide +kernel
      exact this w h2
    obtain ⟨c1, c2, c3⟩ := four_len h2
    repeat (first | refine ⟨_, rfl, ?_⟩ | refine ⟨Nat.le_of_ble_eq_true rfl, ?_⟩ | refine ⟨_, _, rfl, rfl, ?_⟩ | refine ⟨_, _, _, rfl, rfl, rfl, ?_⟩ | refine ⟨rfl, ?_⟩ | refine ⟨_, _, rfl, ?_⟩ | refine ⟨_, _, _, rfl, ?_⟩ | refine ⟨.inl ⟨by omega, by omega⟩, ?_⟩ | refine ⟨.inr ⟨by omega, by omega⟩, ?_⟩)
    refine R_tuple_of.mk _ _ sy_tm ?_
    repeat (first | refine ⟨_, rfl, ?_⟩ | refine ⟨Nat.le_of_ble_eq_true rfl, ?_⟩ | refine ⟨_, _, rfl, rfl, ?_⟩ | refine ⟨_, _, _, rfl, rfl, rfl, ?_⟩ | refine ⟨rfl, ?_⟩ | refine ⟨_, _, rfl, ?_⟩ | refine ⟨_, _, _, rfl, ?_⟩ | refine ⟨.inl ⟨by omega, by omega⟩, ?_⟩ | refine ⟨.inr ⟨by omega, by omega⟩, ?_⟩)
    refine R_words_of.mk w h2 ?_
    repeat (first | refine ⟨_, rfl, ?_⟩ | refine ⟨Nat.le_of_ble_eq_true rfl, ?_⟩ | refine ⟨_, _, rfl, rfl, ?_⟩ | refine ⟨_, _, _, rfl, rfl, rfl, ?_⟩ | refine ⟨rfl, ?_⟩ | refine ⟨_, _, rfl, ?_⟩ | refine ⟨_, _, _, rfl, ?_⟩ | refine ⟨.inl ⟨by omega, by omega⟩, ?_⟩ | refine ⟨.inr ⟨by omega, by omega⟩, ?_⟩)
    refine ⟨.list [.str w], .list [], .lst rfl (py1 (.str _)), .lst rfl py0, four_sh w h2, rfl, ?_⟩
    repeat (first | refine ⟨_, rfl, ?_⟩ | refine ⟨Nat.le_of_ble_eq_true rfl, ?_⟩ | refine ⟨_, _, rfl, rfl, ?_⟩ | refine ⟨_, _, _, rfl, rfl, rfl, ?_⟩ | refine ⟨rfl, ?_⟩ | refine ⟨_, _, rfl, ?_⟩ | refine ⟨_, _, _, rfl, ?_⟩ | refine ⟨.inl ⟨by omega, by omega⟩, ?_⟩ | refine ⟨.inr ⟨by omega, by omega⟩, ?_⟩)
    refine R_wide_in.mk y w h1 h2 ?_
    generalize wd y w = W at *
    repeat (first | refine ⟨_, rfl, ?_⟩ | refine ⟨Nat.le_of_ble_eq_true rfl, ?_⟩ | refine ⟨_, _, rfl, rfl, ?_⟩ | refine ⟨_, _, _, rfl, rfl, rfl, ?_⟩ | refine ⟨rfl, ?_⟩ | refine ⟨_, _, rfl, ?_⟩ | refine ⟨_, _, _, rfl, ?_⟩ | refine ⟨.inl ⟨by omega, by omega⟩, ?_⟩ | refine ⟨.inr ⟨by omega, by omega⟩, ?_⟩)
    refine R_table_in.mk _ (by omega) ?_
    repeat (first | refine ⟨_, rfl, ?_⟩ | refine ⟨Nat.le_of_ble_eq_true rfl, ?_⟩ | refine ⟨_, _, rfl, rfl, ?_⟩ | refine ⟨_, _, _, rfl, rfl, rfl, ?_⟩ | refine ⟨rfl, ?_⟩ | refine ⟨_, _, rfl, ?_⟩ | refine ⟨_, _, _, rfl, ?_⟩ | refine ⟨.inl ⟨by omega, by omega⟩, ?_⟩ | refine ⟨.inr ⟨by omega, by omega⟩, ?_⟩)
    refine ⟨_, _, _, 1, rfl, show RgC 0 (-1) (-1) 1 from RgC.neg (by decide) (by decide) (by decide) (by decide), ?_⟩
    repeat (first | refine ⟨_, rfl, ?_⟩ | refine ⟨Nat.le_of_ble_eq_true rfl, ?_⟩ | refine ⟨_, _, rfl, rfl, ?_⟩ | refine ⟨_, _, _, rfl, rfl, rfl, ?_⟩ | refine ⟨rfl, ?_⟩ | refine ⟨_, _, rfl, ?_⟩ | refine ⟨_, _, _, rfl, ?_⟩ | refine ⟨.inl ⟨by omega, by omega⟩, ?_⟩ | refine ⟨.inr ⟨by omega, by omega⟩, ?_⟩)
    refine ite_d (fun _ => ?_) (fun e => absurd (Int.le_refl _) e)
    repeat (first | refine ⟨_, rfl, ?_⟩ | refine ⟨Nat.le_of_ble_eq_true rfl, ?_⟩ | refine ⟨_, _, rfl, rfl, ?_⟩ | refine ⟨_, _, _, rfl, rfl, rfl, ?_⟩ | refine ⟨rfl, ?_⟩ | refine ⟨_, _, rfl, ?_⟩ | refine ⟨_, _, _, rfl, ?_⟩ | refine ⟨.inl ⟨by omega, by omega⟩, ?_⟩ | refine ⟨.inr ⟨by omega, by omega⟩, ?_⟩)
    refine ite_d (fun _ => ?_) (fun e => absurd (by omega) e)
    repeat (first | refine ⟨_, rfl, ?_⟩ | refine ⟨Nat.le_of_ble_eq_true rfl, ?_⟩ | refine ⟨_, _, rfl, rfl, ?_⟩ | refine ⟨_, _, _, rfl, rfl, rfl, ?_⟩ | refine ⟨rfl, ?_⟩ | refine ⟨_, _, rfl, ?_⟩ | refine ⟨_, _, _, rfl, ?_⟩ | refine ⟨.inl ⟨by omega, by omega⟩, ?_⟩ | refine ⟨.inr ⟨by omega, by omega⟩, ?_⟩)
    refine ⟨[w], rfl, ?_, ?_⟩
    · have e5 : (([w] : List Str).map (·.length)).sum = w.length := by simp
      have e6 : (" " : Str).length = 1 := by decide +kernel
      rw [e5, e6]
      show w.length + 1 * 1 ≤ 1000
      omega
    · have h' : kk (.tup [.str (Txt.join " " [w])]) n := by rw [ej]; exact h
      repeat (first | refine ⟨_, rfl, ?_⟩ | refine ⟨Nat.le_of_ble_eq_true rfl, ?_⟩ | refine ⟨_, _, rfl, rfl, ?_⟩ | refine ⟨_, _, _, rfl, rfl, rfl, ?_⟩ | refine ⟨rfl, ?_⟩ | refine ⟨_, _, rfl, ?_⟩ | refine ⟨_, _, _, rfl, ?_⟩ | refine ⟨.inl ⟨by omega, by omega⟩, ?_⟩ | refine ⟨.inr ⟨by omega, by omega⟩, ?_⟩)
      exact h'
end DL

namespace DL
open PySem PySem.Spec PyProof.Rows L2
theorem p_is_tether : RdOk 2 1 R_is_tether (t_is_tether R_is_tuple_of R_is_number) := by
  intro ss n kk h hl
  cases h with
  | mk e h1 h2 h =>
    repeat (first | refine ⟨_, rfl, ?_⟩ | refine ⟨Nat.le_of_ble_eq_true rfl, ?_⟩ | refine ⟨_, _, rfl, rfl, ?_⟩ | refine ⟨_, _, _, rfl, rfl, rfl, ?_⟩ | refine ⟨rfl, ?_⟩ | refine ⟨_, _, rfl, ?_⟩ | refine ⟨_, _, _, rfl, ?_⟩ | refine ⟨.inl ⟨by omega, by omega⟩, ?_⟩ | refine ⟨.inr ⟨by omega, by omega⟩, ?_⟩)
    repeat (first | refine R_is_number.mk _ ?_ | (first | refine ⟨_, rfl, ?_⟩ | refine ⟨Nat.le_of_ble_eq_true rfl, ?_⟩ | refine ⟨_, _, rfl, rfl, ?_⟩ | refine ⟨_, _, _, rfl, rfl, rfl, ?_⟩ | refine ⟨rfl, ?_⟩ | refine ⟨_, _, rfl, ?_⟩ | refine ⟨_, _, _, rfl, ?_⟩ | refine ⟨.inl ⟨by omega, by omega⟩, ?_⟩ | refine ⟨.inr ⟨by omega, by omega⟩, ?_⟩))
    refine ⟨[true, true, true, true], rfl, ?_⟩
    repeat (first | refine ⟨_, rfl, ?_⟩ | refine ⟨Nat.le_of_ble_eq_true rfl, ?_⟩ | refine ⟨_, _, rfl, rfl, ?_⟩ | refine ⟨_, _, _, rfl, rfl, rfl, ?_⟩ | refine ⟨rfl, ?_⟩ | refine ⟨_, _, rfl, ?_⟩ | refine ⟨_, _, _, rfl, ?_⟩ | refine ⟨.inl ⟨by omega, by omega⟩, ?_⟩ | refine ⟨.inr ⟨by omega, by omega⟩, ?_⟩)
    refine ite_d (fun _ => ?_) (fun e => absurd h1 e)
    repeat (first | refine ⟨_, rfl, ?_⟩ | refine ⟨Nat.le_of_ble_eq_true rfl, ?_⟩ | refine ⟨_, _, rfl, rfl, ?_⟩ | refine ⟨_, _, _, rfl, rfl, rfl, ?_⟩ | refine ⟨rfl, ?_⟩ | refine ⟨_, _, rfl, ?_⟩ | refine ⟨_, _, _, rfl, ?_⟩ | refine ⟨.inl ⟨by omega, by omega⟩, ?_⟩ | refine ⟨.inr ⟨by omega, by omega⟩, ?_⟩)
    have : decide (0 ≤ e.c + e.d) = true := decide_eq_true h2
    exact cast (by rw [← this] <;> rfl) h
end DL

namespace DL
open PySem PySem.Spec PyProof.Rows L2
theorem p_size_of : RdOk 6 2 R_size_of (t_size_of (R_tuple_of 4) R_lines_of R_width_in) := by
  intro ss n kk h hl
  cases h with
  | mk y w h1 h2 h =>
    obtain ⟨b1, b2⟩ := wd_b h1 h2
    repeat (first | refine ⟨_, rfl, ?_⟩ | refine ⟨Nat.le_of_ble_eq_true rfl, ?_⟩ | refine ⟨_, _, rfl, rfl, ?_⟩ | refine ⟨_, _, _, rfl, rfl, rfl, ?_⟩ | refine ⟨rfl, ?_⟩ | refine ⟨_, _, rfl, ?_⟩ | refine ⟨_, _, _, rfl, ?_⟩ | refine ⟨.inl ⟨by omega, by omega⟩, ?_⟩ | refine ⟨.inr ⟨by omega, by omega⟩, ?_⟩)
    refine R_tuple_of.mk _ _ sy_tm ?_
    repeat (first | refine ⟨_, rfl, ?_⟩ | refine ⟨Nat.le_of_ble_eq_true rfl, ?_⟩ | refine ⟨_, _, rfl, rfl, ?_⟩ | refine ⟨_, _, _, rfl, rfl, rfl, ?_⟩ | refine ⟨rfl, ?_⟩ | refine ⟨_, _, rfl, ?_⟩ | refine ⟨_, _, _, rfl, ?_⟩ | refine ⟨.inl ⟨by omega, by omega⟩, ?_⟩ | refine ⟨.inr ⟨by omega, by omega⟩, ?_⟩)
    refine R_lines_of.mk y w h1 h2 ?_
    repeat (first | refine ⟨_, rfl, ?_⟩ | refine ⟨Nat.le_of_ble_eq_true rfl, ?_⟩ | refine ⟨_, _, rfl, rfl, ?_⟩ | refine ⟨_, _, _, rfl, rfl, rfl, ?_⟩ | refine ⟨rfl, ?_⟩ | refine ⟨_, _, rfl, ?_⟩ | refine ⟨_, _, _, rfl, ?_⟩ | refine ⟨.inl ⟨by omega, by omega⟩, ?_⟩ | refine ⟨.inr ⟨by omega, by omega⟩, ?_⟩)
    refine R_width_in.mk y w h1 h2 ?_
    repeat (first | refine ⟨_, rfl, ?_⟩ | refine ⟨Nat.le_of_ble_eq_true rfl, ?_⟩ | refine ⟨_, _, rfl, rfl, ?_⟩ | refine ⟨_, _, _, rfl, rfl, rfl, ?_⟩ | refine ⟨rfl, ?_⟩ | refine ⟨_, _, rfl, ?_⟩ | refine ⟨_, _, _, rfl, ?_⟩ | refine ⟨.inl ⟨by omega, by omega⟩, ?_⟩ | refine ⟨.inr ⟨by omega, by omega⟩, ?_⟩)
    refine ⟨[wd y w], rfl, by show 0 < 1; decide, fun m hm _ => ?_⟩
    have e : m = wd y w := List.mem_singleton.mp hm
    subst e
    repeat (first | refine ⟨_, rfl, ?_⟩ | refine ⟨Nat.le_of_ble_eq_true rfl, ?_⟩ | refine ⟨_, _, rfl, rfl, ?_⟩ | refine ⟨_, _, _, rfl, rfl, rfl, ?_⟩ | refine ⟨rfl, ?_⟩ | refine ⟨_, _, rfl, ?_⟩ | refine ⟨_, _, _, rfl, ?_⟩ | refine ⟨.inl ⟨by omega, by omega⟩, ?_⟩ | refine ⟨.inr ⟨by omega, by omega⟩, ?_⟩)
    refine ⟨.inr ⟨by show -2 ^ 64 < (1 : Int); decide, by show (1 : Int) < 2 ^ 64; decide⟩, ?_⟩
    repeat (first | refine ⟨_, rfl, ?_⟩ | refine ⟨Nat.le_of_ble_eq_true rfl, ?_⟩ | refine ⟨_, _, rfl, rfl, ?_⟩ | refine ⟨_, _, _, rfl, rfl, rfl, ?_⟩ | refine ⟨rfl, ?_⟩ | refine ⟨_, _, rfl, ?_⟩ | refine ⟨_, _, _, rfl, ?_⟩ | refine ⟨.inl ⟨by omega, by omega⟩, ?_⟩ | refine ⟨.inr ⟨by omega, by omega⟩, ?_⟩)
    have e7 : (if (1 : Int) > wd y w then (1 : Int) else wd y w) = wd y w := if_neg (by omega)
    have e8 : y.s3 * 1 + 0 * (1 - 1) = y.s3 := by omega
    have h' : kk (fr (if (1 : Int) > wd y w then (1 : Int) else wd y w) (y.s3 * 1 + 0 * (1 - 1))) n := by rw [e7, e8]; exact h
    exact h'
end DL

namespace DL
open PySem PySem.Spec PyProof.Rows L2
/-! ### charts -/
def Ch (x : D) (p : List Nm) : Prop := x = pT p ∨ x = pL p
structure POk (p : List Nm) : Prop where
  pos : 0 < p.length
  le : p.length ≤ 16
  ok : ∀ m, m ∈ p → m.Ok
theorem Te.tmT (e : Te) : Tm 2 e.t e.t := .seq rfl (by show 4 ≤ 1000; decide) (.cons (.flat rfl) (.cons (.flat rfl) (.cons (.flat rfl) (.cons (.flat rfl) .nil))))
theorem Te.tmL (e : Te) : Tm 2 e.l e.t := .seq rfl (by show 4 ≤ 1000; decide) (.cons (.flat rfl) (.cons (.flat rfl) (.cons (.flat rfl) (.cons (.flat rfl) .nil))))
theorem Nm.tmT (m : Nm) : Tm 3 m.t m.t := .seq rfl (by show 4 ≤ 1000; decide) (.cons (.flat rfl) (.cons (.flat rfl) (.cons m.x.tmT (.cons m.y.tmT .nil))))
theorem Nm.tmL (m : Nm) : Tm 3 m.l m.t := .seq rfl (by show 4 ≤ 1000; decide) (.cons (.flat rfl) (.cons (.flat rfl) (.cons m.x.tmL (.cons m.y.tmL .nil))))
theorem Ch.tm {x : D} {p : List Nm} (h : Ch x p) (hl : p.length ≤ 16) : Tm 4 x (pT p) := by
  rcases h with rfl | rfl
  · exact .seq rfl (by rw [List.length_map]; omega) (All2.maps fun m _ => m.tmT)
  · exact .seq rfl (by rw [List.length_map]; omega) (All2.maps fun m _ => m.tmL)
def Nm.half (m : Nm) : Nm := ⟨m.w, m.h, ⟨-m.x.b, m.x.d + m.w, -m.x.a, m.x.c - m.w⟩, ⟨-m.y.b, m.y.d + m.h, -m.y.a, m.y.c - m.h⟩⟩
def Te.by (e : Te) (m o s : Int) : Te := ⟨m * e.a + o, s * e.c, m * e.b + o, s * e.d⟩
def Nm.by (k : Nm) (m x y s : Int) : Nm := ⟨s * k.w, s * k.h, k.x.by m x s, k.y.by m y s⟩
def rowT (r : List Int) : D := .tup (r.map D.int)
def rowL (r : List Int) : D := .lst (r.map D.int)
def tabT (T : List (List Int)) : D := .tup (T.map rowT)
def tabL (T : List (List Int)) : D := .lst (T.map rowL)
def cell (T : List (List Int)) (i j : Nat) : Int := (T.getD i []).getD j 0
def tabHalf (T : List (List Int)) : List (List Int) := (List.range T.length).map fun j => (List.range j).map fun i => cell T (T.length - 1 - i) (T.length - 1 - j)
structure TriOk (T : List (List Int)) : Prop where
  le : T.length ≤ 16
  row : ∀ (j : Nat) (r : List Int), T[j]? = some r → r.length = j
/-- a fraction in its bounds -/
structure Fq (t b : Int) : Prop where
  t1 : -1000000 ≤ t
  t2 : t ≤ 1000000
  b1 : 0 < b
  b2 : b ≤ 1000
structure Sp where
  t0 : Int
  b0 : Int
  t1 : Int
  b1 : Int
structure Sp.Ok (s : Sp) : Prop where
  f0 : Fq s.t0 s.b0
  f1 : Fq s.t1 s.b1
def Sp.t (s : Sp) : D := .tup [fr s.t0 s.b0, fr s.t1 s.b1]
def Sp.l (s : Sp) : D := .lst [.lst [.int s.t0, .int s.b0], .lst [.int s.t1, .int s.b1]]
def SpD (x : D) (s : Sp) : Prop := x = s.t ∨ x = s.l
theorem fr_tm (t b : Int) : Tm 2 (fr t b) (fr t b) := .seq rfl (by show 2 ≤ 1000; decide) (.cons (.flat rfl) (.cons (.flat rfl) .nil))
theorem frl_tm (t b : Int) : Tm 2 (.lst [.int t, .int b]) (fr t b) := .seq rfl (by show 2 ≤ 1000; decide) (.cons (.flat rfl) (.cons (.flat rfl) .nil))
theorem All2.imp {α β : Type} {R S : α → β → Prop} (f : ∀ x y, R x y → S x y) {xs : List α} {ys : List β} (h : All2 R xs ys) : All2 S xs ys := by
  induction h with
  | nil => exact .nil
  | cons h t it => exact .cons (f _ _ h) it
theorem Tm.up {m : Nat} : ∀ {x y : D}, Tm m x y → Tm (m + 1) x y := by
  induction m with
  | zero => exact fun h => h.elim
  | succ m ih =>
    intro x y h
    rcases h with h | ⟨xs, ys, h1, h2, h3, h4⟩
    · exact .inl h
    · exact .inr ⟨xs, ys, h1, h2, h3, h4.imp fun a b q => ih q⟩
theorem SpD.tm {x : D} {s : Sp} (h : SpD x s) : Tm 4 x s.t := by
  rcases h with rfl | rfl
  · exact Tm.up (.seq rfl (by show 2 ≤ 1000; decide) (.cons (fr_tm _ _) (.cons (fr_tm _ _) .nil)))
  · exact Tm.up (.seq rfl (by show 2 ≤ 1000; decide) (.cons (frl_tm _ _) (.cons (frl_tm _ _) .nil)))
theorem fr_tm4 (t b : Int) : Tm 4 (fr t b) (fr t b) := Tm.up (Tm.up (fr_tm t b))
theorem frl_tm4 (t b : Int) : Tm 4 (.lst [.int t, .int b]) (fr t b) := Tm.up (Tm.up (frl_tm t b))
def FrD (x : D) (t b : Int) : Prop := x = fr t b ∨ x = .lst [.int t, .int b]
theorem FrD.tm {x : D} {t b : Int} (h : FrD x t b) : Tm 4 x (fr t b) := by
  rcases h with rfl | rfl
  · exact fr_tm4 t b
  · exact frl_tm4 t b
def TabD (x : D) (T : List (List Int)) : Prop := x = tabT T ∨ x = tabL T
theorem row_tm (r : List Int) (h : r.length ≤ 1000) : Tm 2 (rowT r) (rowT r) ∧ Tm 2 (rowL r) (rowT r) :=
  ⟨.seq rfl (by simpa using h) (All2.maps fun i _ => .flat rfl), .seq rfl (by simpa using h) (All2.maps fun i _ => .flat rfl)⟩
theorem TriOk.len {T : List (List Int)} (h : TriOk T) : ∀ r, r ∈ T → r.length ≤ 1000 := fun r hr => by
  obtain ⟨j, hj, e⟩ := List.mem_iff_getElem.mp hr
  have := h.row j r (by rw [List.getElem?_eq_getElem hj, e])
  have := h.le
  omega
theorem TabD.tm {x : D} {T : List (List Int)} (h : TabD x T) (ok : TriOk T) : Tm 4 x (tabT T) := by
  have l := ok.le
  rcases h with rfl | rfl
  · exact Tm.up (.seq rfl (by rw [List.length_map]; omega) (All2.maps fun r hr => (row_tm r (ok.len r hr)).1))
  · exact Tm.up (.seq rfl (by rw [List.length_map]; omega) (All2.maps fun r hr => (row_tm r (ok.len r hr)).2))
theorem atT {p : List Nm} {i : Nat} {m : Nm} (h : p[i]? = some m) : atI (p.map Nm.t) (i : Int) = some m.t := by
  have hi : i < p.length := (List.getElem?_eq_some_iff.mp h).1
  unfold atI ixN
  rw [List.length_map, if_pos (by omega), if_pos (by omega)]
  show (p.map Nm.t)[(i : Int).toNat]? = _
  rw [Int.toNat_natCast, List.getElem?_map, h]
  rfl
theorem atL {α : Type} {p : List α} {i : Nat} {m : α} (h : p[i]? = some m) : atI p (i : Int) = some m := by
  have hi : i < p.length := (List.getElem?_eq_some_iff.mp h).1
  unfold atI ixN
  rw [if_pos (by omega), if_pos (by omega)]
  show p[(i : Int).toNat]? = _
  rw [Int.toNat_natCast, h]
/-! ### the promises of the maps -/
inductive R_is_name : RD
  | mk (m : Nm) {n : Nat} {k : DK} (h1 : m.Ok) (h : k (.bl true) n) : R_is_name [.d m.t] n k
inductive R_is_map : RD
  | mk (p : List Nm) {n : Nat} {k : DK} (h1 : POk p) (h : k (.bl true) n) : R_is_map [.d (pT p)] n k
inductive R_part_of : RD
  | mk (x : D) (p : List Nm) (js : List Nat) {n : Nat} {k : DK} (h1 : POk p) (hx : Ch x p) (h2 : 0 < js.length ∧ js.length ≤ 16) (h3 : ∀ j, j ∈ js → j < p.length) (h : k (.tup (js.map fun j => ((p[j]?).map Nm.t).getD .non)) n) : R_part_of [.d x, .d (.lst (js.map fun j => D.int (j : Nat)))] n k
inductive R_joined : RD
  | mk (x y : D) (p q : List Nm) (r : D) {n : Nat} {k : DK} (h1 : POk p) (h2 : POk q) (hx : Ch x p) (hy : Ch y q) (hr : pT (p ++ q) = r) (h : k r n) : R_joined [.d x, .d y] n k
inductive R_turned : RD
  | mk (x : D) (p : List Nm) {n : Nat} {k : DK} (q : List Nm) (h1 : POk p) (hx : Ch x p) (hq : p.reverse.map Nm.half = q) (h : k (pT q) n) : R_turned [.d x] n k
inductive R_sides_turned : RD
  | mk (x : D) (T : List (List Int)) {n : Nat} {k : DK} (q : List (List Int)) (h1 : TriOk T) (hx : TabD x T) (hq : tabHalf T = q) (h : k (tabT q) n) : R_sides_turned [.d x] n k
inductive R_place_turned : RD
  | mk (x y : D) (p : List Nm) (iz : Int) (i : Nat) (m : Nm) (s : Sp) (r : D) {n : Nat} {k : DK} (h1 : POk p) (hx : Ch x p) (hi : iz = (i : Int)) (hm : p[i]? = some m) (hs : s.Ok) (hy : SpD y s)
    (hr : (.tup [lw (0 * lwB (s.t0 * 1 + m.w * s.b0) (s.b0 * 1) - lwT (s.t0 * 1 + m.w * s.b0) (s.b0 * 1) * 1) (1 * lwB (s.t0 * 1 + m.w * s.b0) (s.b0 * 1)), lw (0 * lwB (s.t1 * 1 + m.h * s.b1) (s.b1 * 1) - lwT (s.t1 * 1 + m.h * s.b1) (s.b1 * 1) * 1) (1 * lwB (s.t1 * 1 + m.h * s.b1) (s.b1 * 1))] : D) = r) (h : k r n) : R_place_turned [.d x, .d (.int iz), .d y] n k
inductive R_map_moved : RD
  | mk (x : D) (p : List Nm) (a b : Int) {n : Nat} {k : DK} (h1 : POk p) (hx : Ch x p) (h : k (pT (p.map fun m => m.by 1 a b 1)) n) : R_map_moved [.d x, .d (.int a), .d (.int b)] n k
inductive R_spread : RD
  | mk (x : D) (p : List Nm) (a : Int) {n : Nat} {k : DK} (h1 : POk p) (hx : Ch x p) (s1 : Sm a) (h : k (pT (p.map fun m => m.by a 0 0 1)) n) : R_spread [.d x, .d (.int a)] n k
inductive R_sized : RD
  | mk (x : D) (p : List Nm) (a : Int) {n : Nat} {k : DK} (h1 : POk p) (hx : Ch x p) (s1 : Sm a) (h : k (pT (p.map fun m => m.by 1 0 0 a)) n) : R_sized [.d x, .d (.int a)] n k
def onD (e : Te) (p q : Int) : D := .tup [lw (p * e.a - e.c * q) q, lw (p * e.b + e.d * q) q]
def Nm.ax (m : Nm) (i : Nat) : Te := if i = 0 then m.x else m.y
inductive R_stretch_at : RD
  | mk (x y : D) (p : List Nm) (iz : Int) (i : Nat) (m : Nm) (a : Nat) (u v : Int) {n : Nat} {k : DK} (h1 : POk p) (hx : Ch x p) (hi : iz = (i : Int)) (hm : p[i]? = some m) (ha : a < 2) (hy : FrD y u v) (h2 : 0 < v) (s1 : Sm u) (s2 : Sm v) (h : k (onD (m.ax a) u v) n) : R_stretch_at [.d x, .d (.int iz), .d (.int (a : Nat)), .d y] n k
def lessQ (a b c d : Int) : Bool := decide (a * d < c * b)
def outB (e : Te) (u v t b : Int) : Bool := lessQ t b (lwT (u * e.a - e.c * v) v) (lwB (u * e.a - e.c * v) v) || lessQ (lwT (u * e.b + e.d * v) v) (lwB (u * e.b + e.d * v) v) t b
def letB (m : Nm) (u v : Int) (s : Sp) : Bool := !outB m.x u v s.t0 s.b0 && !outB m.y u v s.t1 s.b1
/-- a zoom in its bounds -/
structure Zq (u v : Int) : Prop where
  t1 : -100 ≤ u
  t2 : u ≤ 100
  b1 : 0 < v
  b2 : v ≤ 100
inductive R_lets : RD
  | mk (x y z : D) (p : List Nm) (iz : Int) (i : Nat) (m : Nm) (u v : Int) (s : Sp) (b : Bool) {n : Nat} {k : DK} (h1 : POk p) (hx : Ch x p) (hi : iz = (i : Int)) (hm : p[i]? = some m) (hy : FrD y u v) (h2 : Zq u v) (hs : s.Ok) (hz : SpD z s) (ht : ∀ e, e = m.x ∨ e = m.y → Sn e.a ∧ Sn e.b ∧ Sn e.c ∧ Sn e.d) (hb : letB m u v s = b) (h : k (.bl b) n) : R_lets [.d x, .d (.int iz), .d y, .d z] n k
def boxD (w h : Int) (s : Sp) : D := .tup [fr s.t0 s.b0, fr s.t1 s.b1, lw (s.t0 * 1 + w * s.b0) (s.b0 * 1), lw (s.t1 * 1 + h * s.b1) (s.b1 * 1)]
inductive R_box_in : RD
  | mk (m : Nm) (s : Sp) {n : Nat} {k : DK} (hm : Sm m.w ∧ Sm m.h) (hs : s.Ok) (h : k (boxD m.w m.h s) n) : R_box_in [.d m.t, .d s.t] n k
inductive R_box_at : RD
  | mk (x y : D) (p : List Nm) (iz : Int) (i : Nat) (m : Nm) (s : Sp) {n : Nat} {k : DK} (h1 : POk p) (hx : Ch x p) (hi : iz = (i : Int)) (hm : p[i]? = some m) (hs : s.Ok) (hy : SpD y s) (h : k (boxD m.w m.h s) n) : R_box_at [.d x, .d (.int iz), .d y] n k
def cov1 (t b w u c v : Int) : Bool := lessQ t b (lwT (u * 1 + v * c) (c * 1)) (lwB (u * 1 + v * c) (c * 1)) && lessQ u c (lwT (t * 1 + w * b) (b * 1)) (lwB (t * 1 + w * b) (b * 1))
def covB (m : Nm) (s : Sp) (o : Nm) (r : Sp) : Bool := cov1 s.t0 s.b0 m.w r.t0 r.b0 o.w && cov1 s.t1 s.b1 m.h r.t1 r.b1 o.h
inductive R_do_cover : RD
  | mk (x y z : D) (p : List Nm) (iz jz : Int) (i j : Nat) (m o : Nm) (s r : Sp) {n : Nat} {k : DK} (h1 : POk p) (hx : Ch x p) (hi : iz = (i : Int)) (hj : jz = (j : Int)) (hm : p[i]? = some m) (ho : p[j]? = some o) (hs : s.Ok) (hr : r.Ok) (hy : SpD y s) (hz : SpD z r) (h : k (.bl (covB m s o r)) n) : R_do_cover [.d x, .d (.int iz), .d y, .d (.int jz), .d z] n k
end DL

namespace DL
open PySem PySem.Spec PyProof.Rows L2
/-! ### the promises of the law's own defs -/
def Te.by' (e : Te) (m o s : Int) : Te := e.by m o s
inductive R__law_take : RD
  | mk (b : Int) {n : Nat} {k : DK} (h1 : 0 < b) (h2 : b < 2 ^ 30) (h3 : n ≤ 1000) (h : ∀ i, 0 ≤ i → i < b → k (.int i) (n + 1)) : R__law_take [.tin, .d (.int b)] n k
inductive R__law_of : RD
  | mk (x : D) (l : List D) {n : Nat} {k : DK} (hx : elems x = some l) (h1 : 0 < l.length) (h2 : l.length ≤ 100) (h3 : n ≤ 1000) (h : ∀ d, d ∈ l → k d (n + 1)) : R__law_of [.tin, .d x] n k
inductive R__law_low : RD
  | mk (t b : Int) {n : Nat} {k : DK} (h1 : 0 < b) (h2 : b < 2 ^ 62) (h : k (lw t b) n) : R__law_low [.d (.int t), .d (.int b)] n k
inductive R__law_sum : RD
  | mk (a b c d : Int) {n : Nat} {k : DK} (h1 : 0 < b) (h2 : 0 < d) (s1 : Sm a) (s2 : Sm b) (s3 : Sm c) (s4 : Sm d) (h : k (lw (a * d + c * b) (b * d)) n) : R__law_sum [.d (fr a b), .d (fr c d)] n k
inductive R__law_below : RD
  | mk (a b c d : Int) {n : Nat} {k : DK} (h1 : Sm a) (h2 : Sm c) (h : k (.bl (lessQ a b c d)) n) : R__law_below [.d (fr a b), .d (fr c d)] n k
def Te.Sml (e : Te) : Prop := (-100 ≤ e.a ∧ e.a ≤ 100) ∧ (-100 ≤ e.c ∧ e.c ≤ 100) ∧ (-100 ≤ e.b ∧ e.b ≤ 100) ∧ (-100 ≤ e.d ∧ e.d ≤ 100) ∧ e.a ≤ e.b ∧ 0 ≤ e.c + e.d
def Nm.Sml (m : Nm) : Prop := (1 ≤ m.w ∧ m.w ≤ 100) ∧ (1 ≤ m.h ∧ m.h ≤ 100) ∧ m.x.Sml ∧ m.y.Sml
structure PSml (p : List Nm) : Prop where
  pos : 0 < p.length
  le : p.length ≤ 6
  ok : ∀ m, m ∈ p → m.Sml
inductive R__law_drawn_tether : RD
  | mk {n : Nat} {k : DK} (h3 : n ≤ 900) (h : ∀ e : Te, e.Sml → ∀ n', n' ≤ n + 4 → k e.t n') : R__law_drawn_tether [.tin] n k
inductive R__law_drawn_plan : RD
  | mk {n : Nat} {k : DK} (h3 : n ≤ 800) (h : ∀ p : List Nm, PSml p → ∀ n', n' ≤ n + 61 → k (pT p) n') : R__law_drawn_plan [.tin] n k
/-- a fraction in lowest terms, in small bounds -/
structure Lq (t b : Int) : Prop where
  t1 : -100 ≤ t
  t2 : t ≤ 100
  b1 : 0 < b
  b2 : b ≤ 6
inductive R__law_number : RD
  | mk (a l : Int) {n : Nat} {k : DK} (h1 : 1 ≤ a ∧ a ≤ 2) (h2 : 0 ≤ l ∧ l ≤ 1) (h3 : n ≤ 900) (h : ∀ t b, Lq t b → ∀ n', n' ≤ n + 2 → k (fr t b) n') : R__law_number [.tin, .d (.int a), .d (.int l)] n k
def Te.half (e : Te) (w : Int) : Te := ⟨-e.b, e.d + w, -e.a, e.c - w⟩
def Nm.sz (m : Nm) (i : Nat) : Int := if i = 0 then m.w else m.h
inductive R__law_half : RD
  | mk (m : Nm) (i : Nat) {n : Nat} {k : DK} (h1 : i < 2) (h : k ((m.ax i).half (m.sz i)).t n) : R__law_half [.d m.t, .d (.int (i : Nat))] n k
inductive R__law_plan_half : RD
  | mk (p : List Nm) {n : Nat} {k : DK} (hl : p.length ≤ 16) (h : k (pT (p.reverse.map Nm.half)) n) : R__law_plan_half [.d (pT p)] n k
inductive R__law_tie_by : RD
  | mk (e : Te) (m o s : Int) {n : Nat} {k : DK} (s1 : Sm m) (s2 : Sm s) (h : k (e.by m o s).t n) : R__law_tie_by [.d e.t, .d (.int m), .d (.int o), .d (.int s)] n k
inductive R__law_plan_by : RD
  | mk (p : List Nm) (m x y s : Int) {n : Nat} {k : DK} (hl : p.length ≤ 16) (s1 : Sm m) (s2 : Sm s) (h : k (pT (p.map fun a => a.by m x y s)) n) : R__law_plan_by [.d (pT p), .d (.int m), .d (.int x), .d (.int y), .d (.int s)] n k
inductive R__law_reach : RD
  | mk (m : Nm) (i : Nat) (u v : Int) {n : Nat} {k : DK} (h1 : i < 2) (z : Zq u v) (h : k (onD (m.ax i) u v) n) : R__law_reach [.d m.t, .d (.int (i : Nat)), .d (fr u v)] n k
inductive R__law_is_let : RD
  | mk (m : Nm) (u v : Int) (s : Sp) {n : Nat} {k : DK} (z : Zq u v) (hs : s.Ok) (ht : ∀ e, e = m.x ∨ e = m.y → Sn e.a ∧ Sn e.b ∧ Sn e.c ∧ Sn e.d) (h : k (.bl (letB m u v s)) n) : R__law_is_let [.d m.t, .d (fr u v), .d s.t] n k
inductive R__law_covers : RD
  | mk (m o : Nm) (s r : Sp) {n : Nat} {k : DK} (h1 : m.Ok) (h2 : o.Ok) (hs : s.Ok) (hr : r.Ok) (h : k (.bl (covB m s o r)) n) : R__law_covers [.d m.t, .d s.t, .d o.t, .d r.t] n k
def sixH : List Str := ["middle", "free", "left", "right", "over", "under"]
structure Ls (l : List Sy) : Prop where
  pos : 0 < l.length
  le : l.length ≤ 3
  ok : ∀ y, y ∈ l → y.Ok
inductive R__law_looks : RD
  | mk {n : Nat} {k : DK} (h3 : n ≤ 800) (h : ∀ l : List Sy, Ls l → ∀ n', n' ≤ n + 19 → k (.tup (l.map Sy.t)) n') : R__law_looks [.tin] n k
def Lf.box (f : Lf) : D := DL.box f.t1 f.t2 f.t3 f.t4
inductive R__law_named : RD
  | mk (y : Sy) (w : Str) (a b c d : Int) {n : Nat} {k : DK} (h1 : y.Ok) (h2 : w ∈ four) (h : k (nmOf y w a b c d).t n) : R__law_named [.d y.t, .d (.str w), .d (box a b c d)] n k
structure Ft.Ok (e : Ft) (m : Nat) : Prop where
  c : 0 ≤ e.c ∧ e.c < (m : Int)
  w : e.w ∈ four
  f : e.f.Ok
inductive R__law_leaf : RD
  | mk (m : Nat) {n : Nat} {k : DK} (h0 : 0 < m ∧ m ≤ 3) (h3 : n ≤ 900) (h : ∀ e : Ft, e.Ok m → ∀ n', n' ≤ n + 7 → k (.tup [e.t, e.f.box]) n') : R__law_leaf [.tin, .d (.int (m : Nat))] n k
def Lf.mv (x y : Int) : Lf → Lf
  | .pt a b => .pt (a + x) (b + y)
  | .rd u b w v o t => .rd (u + x) (b + y) (w + x) (v + y) o t
  | .bx a b p q => .bx (a + x) (b + y) (p + x) (q + y)
def Ft.mv (x y : Int) (e : Ft) : Ft := ⟨e.c, e.w, e.f.mv x y⟩
inductive R__law_moved : RD
  | mk (e : Ft) (x y : Int) {n : Nat} {k : DK} (h : k (e.mv x y).t n) : R__law_moved [.d e.t, .d (.int x), .d (.int y)] n k
inductive R_map_of : RD
  | mk (x y : D) (l : List Ft) (s : List Sy) (r : D) {n : Nat} {k : DK} (hs : Ls s) (hl : 0 < l.length ∧ l.length ≤ 4) (hf : ∀ e, e ∈ l → e.Ok s.length) (hx : x = .tup (l.map Ft.t) ∨ x = .lst (l.map Ft.l)) (hy : y = .tup (s.map Sy.t) ∨ y = .lst (s.map Sy.l))
    (hr : D.tup (l.map fun e => ((s[e.c.toNat]?).map fun z => (nmOf z e.w e.f.t1 e.f.t2 e.f.t3 e.f.t4).t).getD .non) = r) (h : k r n) : R_map_of [.d x, .d y] n k
inductive R__law_one_right : RD
  | mk (p : List Nm) (iz : Int) (i : Nat) (u v : Int) {n : Nat} {k : DK} (hp : PSml p) (hz : iz = (i : Int)) (hi : i < p.length) (z : Lq u v) (h3 : n ≤ 900) (h : ∀ n', n' ≤ n + 4 → k (.bl true) n') : R__law_one_right [.tin, .d (pT p), .d (.int iz), .d (fr u v)] n k
inductive R__law_plans_right : RD
  | mk {n : Nat} {k : DK} (h3 : n ≤ 100) (h : ∀ n', k (.bl true) n') : R__law_plans_right [.tin] n k
inductive R__law_pages_right : RD
  | mk {n : Nat} {k : DK} (h3 : n ≤ 100) (h : ∀ n', k (.bl true) n') : R__law_pages_right [.tin] n k
inductive R__law_by_hand_right : RD
  | mk {n : Nat} {k : DK} (h : k (.bl true) n) : R__law_by_hand_right [] n k
end DL

namespace DL
open PySem PySem.Spec PyProof.Rows L2
theorem app_cons {α : Type} (acc : List α) (x : α) (l : List α) : acc ++ x :: l = (acc ++ [x]) ++ l := by simp
theorem p_is_name : RdOk 2 1 R_is_name (t_is_name R_is_tuple_of R_is_number R_is_tether) := by
  intro ss n kk h hl
  cases h with
  | mk m h1 h =>
    obtain ⟨h1, h2, h3, h4⟩ := h1
    repeat (first | refine R_is_number.mk _ ?_ | (first | refine ⟨_, rfl, ?_⟩ | refine ⟨Nat.le_of_ble_eq_true rfl, ?_⟩ | refine ⟨_, _, rfl, rfl, ?_⟩ | refine ⟨_, _, _, rfl, rfl, rfl, ?_⟩ | refine ⟨rfl, ?_⟩ | refine ⟨_, _, rfl, ?_⟩ | refine ⟨_, _, _, rfl, ?_⟩ | refine ⟨.inl ⟨by omega, by omega⟩, ?_⟩ | refine ⟨.inr ⟨by omega, by omega⟩, ?_⟩))
    refine lc_nil ?_
    repeat (first | refine ⟨_, rfl, ?_⟩ | refine ⟨Nat.le_of_ble_eq_true rfl, ?_⟩ | refine ⟨_, _, rfl, rfl, ?_⟩ | refine ⟨_, _, _, rfl, rfl, rfl, ?_⟩ | refine ⟨rfl, ?_⟩ | refine ⟨_, _, rfl, ?_⟩ | refine ⟨_, _, _, rfl, ?_⟩ | refine ⟨.inl ⟨by omega, by omega⟩, ?_⟩ | refine ⟨.inr ⟨by omega, by omega⟩, ?_⟩)
    refine ⟨[decide (1 ≤ m.w), decide (1 ≤ m.h)], rfl, ?_⟩
    repeat (first | refine ⟨_, rfl, ?_⟩ | refine ⟨Nat.le_of_ble_eq_true rfl, ?_⟩ | refine ⟨_, _, rfl, rfl, ?_⟩ | refine ⟨_, _, _, rfl, rfl, rfl, ?_⟩ | refine ⟨rfl, ?_⟩ | refine ⟨_, _, rfl, ?_⟩ | refine ⟨_, _, _, rfl, ?_⟩ | refine ⟨.inl ⟨by omega, by omega⟩, ?_⟩ | refine ⟨.inr ⟨by omega, by omega⟩, ?_⟩)
    refine ite_b (fun e => ?_) (fun _ => ?_)
    · exfalso
      simp [h1.1, h2.1] at e
    · repeat (first | refine ⟨_, rfl, ?_⟩ | refine ⟨Nat.le_of_ble_eq_true rfl, ?_⟩ | refine ⟨_, _, rfl, rfl, ?_⟩ | refine ⟨_, _, _, rfl, rfl, rfl, ?_⟩ | refine ⟨rfl, ?_⟩ | refine ⟨_, _, rfl, ?_⟩ | refine ⟨_, _, _, rfl, ?_⟩ | refine ⟨.inl ⟨by omega, by omega⟩, ?_⟩ | refine ⟨.inr ⟨by omega, by omega⟩, ?_⟩)
      refine R_is_tether.mk _ h3.ab h3.cd ?_
      repeat (first | refine ⟨_, rfl, ?_⟩ | refine ⟨Nat.le_of_ble_eq_true rfl, ?_⟩ | refine ⟨_, _, rfl, rfl, ?_⟩ | refine ⟨_, _, _, rfl, rfl, rfl, ?_⟩ | refine ⟨rfl, ?_⟩ | refine ⟨_, _, rfl, ?_⟩ | refine ⟨_, _, _, rfl, ?_⟩ | refine ⟨.inl ⟨by omega, by omega⟩, ?_⟩ | refine ⟨.inr ⟨by omega, by omega⟩, ?_⟩)
      exact R_is_tether.mk _ h4.ab h4.cd h
theorem p_sure_name : RdOk 2 2 R_sure_name (t_sure_name R_is_number) := by
  intro ss n kk h hl
  cases h with
  | mk p i d h0 hl' hd h =>
    repeat (first | refine ⟨_, rfl, ?_⟩ | refine ⟨Nat.le_of_ble_eq_true rfl, ?_⟩ | refine ⟨_, _, rfl, rfl, ?_⟩ | refine ⟨_, _, _, rfl, rfl, rfl, ?_⟩ | refine ⟨rfl, ?_⟩ | refine ⟨_, _, rfl, ?_⟩ | refine ⟨_, _, _, rfl, ?_⟩ | refine ⟨.inl ⟨by omega, by omega⟩, ?_⟩ | refine ⟨.inr ⟨by omega, by omega⟩, ?_⟩)
    refine ite_d (fun _ => ?_) (fun e => absurd h0 e)
    repeat (first | refine ⟨_, rfl, ?_⟩ | refine ⟨Nat.le_of_ble_eq_true rfl, ?_⟩ | refine ⟨_, _, rfl, rfl, ?_⟩ | refine ⟨_, _, _, rfl, rfl, rfl, ?_⟩ | refine ⟨rfl, ?_⟩ | refine ⟨_, _, rfl, ?_⟩ | refine ⟨_, _, _, rfl, ?_⟩ | refine ⟨.inl ⟨by omega, by omega⟩, ?_⟩ | refine ⟨.inr ⟨by omega, by omega⟩, ?_⟩)
    refine ite_b (fun e => ?_) (fun _ => ?_)
    · exfalso
      simp at e
      omega
    · exact ⟨_, rfl, _, rfl, _, _, _, rfl, rfl, hd, h⟩
theorem p_tether_turned : RdOk 6 2 R_tether_turned t_tether_turned := by
  intro ss n kk h hl
  cases h with
  | mk e s h =>
    repeat (first | refine ⟨_, rfl, ?_⟩ | refine ⟨Nat.le_of_ble_eq_true rfl, ?_⟩ | refine ⟨_, _, rfl, rfl, ?_⟩ | refine ⟨_, _, _, rfl, rfl, rfl, ?_⟩ | refine ⟨rfl, ?_⟩ | refine ⟨_, _, rfl, ?_⟩ | refine ⟨_, _, _, rfl, ?_⟩ | refine ⟨.inl ⟨by omega, by omega⟩, ?_⟩ | refine ⟨.inr ⟨by omega, by omega⟩, ?_⟩)
    exact h
theorem p_tether_by : RdOk 7 3 R_tether_by t_tether_by := by
  intro ss n kk h hl
  cases h with
  | mk e m o s1 h =>
    obtain ⟨u1, v1⟩ := s1
    repeat (first | refine ⟨_, rfl, ?_⟩ | refine ⟨Nat.le_of_ble_eq_true rfl, ?_⟩ | refine ⟨_, _, rfl, rfl, ?_⟩ | refine ⟨_, _, _, rfl, rfl, rfl, ?_⟩ | refine ⟨rfl, ?_⟩ | refine ⟨_, _, rfl, ?_⟩ | refine ⟨_, _, _, rfl, ?_⟩ | refine ⟨.inl ⟨by omega, by omega⟩, ?_⟩ | refine ⟨.inr ⟨by omega, by omega⟩, ?_⟩)
    exact h
theorem p_joined : RdOk 2 2 R_joined (t_joined (R_tuple_of 4)) := by
  intro ss n kk h hl
  cases h with
  | mk x y p q r h1 h2 hx hy hr h =>
    subst hr
    have l1 := h1.le
    have l2 := h2.le
    repeat (first | refine ⟨_, rfl, ?_⟩ | refine ⟨Nat.le_of_ble_eq_true rfl, ?_⟩ | refine ⟨_, _, rfl, rfl, ?_⟩ | refine ⟨_, _, _, rfl, rfl, rfl, ?_⟩ | refine ⟨rfl, ?_⟩ | refine ⟨_, _, rfl, ?_⟩ | refine ⟨_, _, _, rfl, ?_⟩ | refine ⟨.inl ⟨by omega, by omega⟩, ?_⟩ | refine ⟨.inr ⟨by omega, by omega⟩, ?_⟩)
    refine R_tuple_of.mk _ _ (hx.tm l1) ?_
    repeat (first | refine ⟨_, rfl, ?_⟩ | refine ⟨Nat.le_of_ble_eq_true rfl, ?_⟩ | refine ⟨_, _, rfl, rfl, ?_⟩ | refine ⟨_, _, _, rfl, rfl, rfl, ?_⟩ | refine ⟨rfl, ?_⟩ | refine ⟨_, _, rfl, ?_⟩ | refine ⟨_, _, _, rfl, ?_⟩ | refine ⟨.inl ⟨by omega, by omega⟩, ?_⟩ | refine ⟨.inr ⟨by omega, by omega⟩, ?_⟩)
    refine R_tuple_of.mk _ _ (hy.tm l2) ?_
    refine ⟨_, _, rfl, rfl, by rw [List.length_map]; omega, by rw [List.length_map]; omega, ?_⟩
    have h' : kk (.tup ((p ++ q).map Nm.t)) n := h
    rw [List.map_append] at h'
    exact h'
theorem p_part_of : RdOk 4 2 R_part_of (t_part_of (R_tuple_of 4)) := by
  intro ss n kk h hl
  cases h with
  | mk x p js h1 hx h2 h3 h =>
    have l1 := h1.le
    repeat (first | refine ⟨_, rfl, ?_⟩ | refine ⟨Nat.le_of_ble_eq_true rfl, ?_⟩ | refine ⟨_, _, rfl, rfl, ?_⟩ | refine ⟨_, _, _, rfl, rfl, rfl, ?_⟩ | refine ⟨rfl, ?_⟩ | refine ⟨_, _, rfl, ?_⟩ | refine ⟨_, _, _, rfl, ?_⟩ | refine ⟨.inl ⟨by omega, by omega⟩, ?_⟩ | refine ⟨.inr ⟨by omega, by omega⟩, ?_⟩)
    refine R_tuple_of.mk _ _ (hx.tm l1) ?_
    repeat (first | refine ⟨_, rfl, ?_⟩ | refine ⟨Nat.le_of_ble_eq_true rfl, ?_⟩ | refine ⟨_, _, rfl, rfl, ?_⟩ | refine ⟨_, _, _, rfl, rfl, rfl, ?_⟩ | refine ⟨rfl, ?_⟩ | refine ⟨_, _, rfl, ?_⟩ | refine ⟨_, _, _, rfl, ?_⟩ | refine ⟨.inl ⟨by omega, by omega⟩, ?_⟩ | refine ⟨.inr ⟨by omega, by omega⟩, ?_⟩)
    refine ite_d (fun e => ?_) (fun _ => ?_)
    · exfalso
      rw [List.length_map] at e
      omega
    · refine ⟨_, rfl, _, rfl, by rw [List.length_map]; omega, ?_⟩
      refine lc_map (fun j : Nat => D.int (j : Int)) (fun j => ((p[j]?).map Nm.t).getD .non) js (fun j hj n k' hk => ?_) ⟨_, rfl, h⟩
      obtain ⟨m, hm⟩ : ∃ m, p[j]? = some m := ⟨_, List.getElem?_eq_getElem (h3 j hj)⟩
      rw [hm] at hk
      exact ⟨_, rfl, _, rfl, _, _, _, rfl, rfl, atT hm, hk⟩
theorem p_turned : RdOk 6 1 R_turned (t_turned (R_tuple_of 4) R_tether_turned) := by
  intro ss n kk h hl
  cases h with
  | mk x p q h1 hx hq h =>
    subst hq
    have l1 := h1.le
    have loop : ∀ (l : List Nm) (acc : List D) (s2 s3 s4 s5 : Slot) (n : Nat) (G : DEnds), acc.length + l.length ≤ 16 → (∀ s2 s3 s4 s5, G.nx [.d x, .own (acc ++ l.map fun m => m.half.t), s2, s3, s4, s5] n) →
        forRun (g_turned_L1 (R_tuple_of 4) R_tether_turned) (t_turned_L1 (R_tuple_of 4) R_tether_turned) G (l.map Nm.t) [.d x, .own acc, s2, s3, s4, s5] n := fun l => by
      induction l with
      | nil =>
        intro acc s2 s3 s4 s5 n G _ hG
        have := hG s2 s3 s4 s5
        rw [List.map_nil, List.append_nil] at this
        exact this
      | cons m l ih =>
        intro acc s2 s3 s4 s5 n G ha hG
        rw [List.length_cons] at ha
        refine ⟨_, rfl, rfl, _, _, rfl, _, _, rfl, _, _, rfl, _, _, rfl, rfl, _, rfl, by omega, _, rfl, _, rfl, _, rfl, _, rfl, R_tether_turned.mk _ _ ⟨_, rfl, _, rfl, R_tether_turned.mk _ _ ?_⟩⟩
        refine ih (acc ++ [_]) _ _ _ _ n G (by rw [List.length_append]; show acc.length + 1 + _ ≤ 16; omega) fun s2 s3 s4 s5 => ?_
        have := hG s2 s3 s4 s5
        rw [List.map_cons, app_cons] at this
        have e : (m.half.t : D) = .tup [.int m.w, .int m.h, Te.t ⟨0 - m.x.b, m.x.d + m.w, 0 - m.x.a, m.x.c - m.w⟩, Te.t ⟨0 - m.y.b, m.y.d + m.h, 0 - m.y.a, m.y.c - m.h⟩] := by
          simp only [Int.zero_sub]
          rfl
        rw [e] at this
        exact this
    repeat (first | refine ⟨_, rfl, ?_⟩ | refine ⟨Nat.le_of_ble_eq_true rfl, ?_⟩ | refine ⟨_, _, rfl, rfl, ?_⟩ | refine ⟨_, _, _, rfl, rfl, rfl, ?_⟩ | refine ⟨rfl, ?_⟩ | refine ⟨_, _, rfl, ?_⟩ | refine ⟨_, _, _, rfl, ?_⟩ | refine ⟨.inl ⟨by omega, by omega⟩, ?_⟩ | refine ⟨.inr ⟨by omega, by omega⟩, ?_⟩)
    refine R_tuple_of.mk _ _ (hx.tm l1) ⟨_, rfl, _, rfl, ?_⟩
    rw [← List.map_reverse]
    refine loop p.reverse [] _ _ _ _ n _ (by rw [List.length_reverse]; show 0 + _ ≤ 16; omega) fun s2 s3 s4 s5 => ?_
    have h' : kk (.tup ((p.reverse.map Nm.half).map Nm.t)) n := h
    rw [List.map_map] at h'
    exact ⟨_, rfl, _, rfl, _, rfl, h'⟩
end DL

namespace DL
open PySem PySem.Spec PyProof.Rows L2
theorem getD_at {α : Type} {l : List α} {j : Nat} {d x : α} (h : l[j]? = some x) : l.getD j d = x := by
  rw [List.getD_eq_getElem?_getD, h]
  rfl
theorem nmAx {m : Nm} {a : Nat} (h : a < 2) : atI [D.int m.w, .int m.h, m.x.t, m.y.t] (2 + (a : Int)) = some (m.ax a).t := by
  have : a = 0 ∨ a = 1 := by omega
  rcases this with rfl | rfl <;> rfl
theorem p_is_map : RdOk 2 1 R_is_map (t_is_map R_is_name) := by
  intro ss n kk h hl
  cases h with
  | mk p h1 h =>
    have l1 := h1.le
    have l0 := h1.pos
    have pe : ∀ e : Te, Py e.t (.tuple [.int e.a, .int e.c, .int e.b, .int e.d]) := fun e => .tup rfl fun i d q e1 e2 => by
      match i with
      | 0 => cases Option.some.inj e1; cases Option.some.inj e2; exact .int _
      | 1 => cases Option.some.inj e1; cases Option.some.inj e2; exact .int _
      | 2 => cases Option.some.inj e1; cases Option.some.inj e2; exact .int _
      | 3 => cases Option.some.inj e1; cases Option.some.inj e2; exact .int _
      | i + 4 => simp at e1
    have pm : ∀ m : Nm, Py m.t (.tuple [.int m.w, .int m.h, .tuple [.int m.x.a, .int m.x.c, .int m.x.b, .int m.x.d], .tuple [.int m.y.a, .int m.y.c, .int m.y.b, .int m.y.d]]) := fun m => .tup rfl fun i d q e1 e2 => by
      match i with
      | 0 => cases Option.some.inj e1; cases Option.some.inj e2; exact .int _
      | 1 => cases Option.some.inj e1; cases Option.some.inj e2; exact .int _
      | 2 => cases Option.some.inj e1; cases Option.some.inj e2; exact pe _
      | 3 => cases Option.some.inj e1; cases Option.some.inj e2; exact pe _
      | i + 4 => simp at e1
    have pp : Py (pT p) (.tuple (p.map fun m => .tuple [.int m.w, .int m.h, .tuple [.int m.x.a, .int m.x.c, .int m.x.b, .int m.x.d], .tuple [.int m.y.a, .int m.y.c, .int m.y.b, .int m.y.d]])) := .tup (by simp) fun i d q e1 e2 => by
      rw [List.getElem?_map] at e1 e2
      cases hm : p[i]? with
      | none => rw [hm] at e1; cases e1
      | some m =>
        rw [hm] at e1 e2
        cases Option.some.inj e1
        cases Option.some.inj e2
        exact pm m
    have sh : ∀ l : List Nm, PyData.canLayAll0 (l.map fun m => PyData.tuple [.int m.w, .int m.h, .tuple [.int m.x.a, .int m.x.c, .int m.x.b, .int m.x.d], .tuple [.int m.y.a, .int m.y.c, .int m.y.b, .int m.y.d]]) = true ∧ PyData.depthAll (l.map fun m => PyData.tuple [.int m.w, .int m.h, .tuple [.int m.x.a, .int m.x.c, .int m.x.b, .int m.x.d], .tuple [.int m.y.a, .int m.y.c, .int m.y.b, .int m.y.d]]) ≤ 2 := fun l => by
      induction l with
      | nil => exact ⟨rfl, by decide⟩
      | cons m l ih =>
        refine ⟨?_, ?_⟩
        · show (_ && PyData.canLayAll0 _) = true
          rw [ih.1]
          rfl
        · show max 2 (PyData.depthAll _) ≤ 2
          omega
    have sh2 : SeqAt.shaped (.tuple (p.map fun m => .tuple [.int m.w, .int m.h, .tuple [.int m.x.a, .int m.x.c, .int m.x.b, .int m.x.d], .tuple [.int m.y.a, .int m.y.c, .int m.y.b, .int m.y.d]])) = true := by
      unfold SeqAt.shaped
      rw [Bool.and_eq_true]
      refine ⟨(sh p).1, decide_eq_true ?_⟩
      show PyData.depthAll _ + 1 ≤ 64
      have := (sh p).2
      omega
    have ne : PyData.eqv (.tuple (p.map fun m => .tuple [.int m.w, .int m.h, .tuple [.int m.x.a, .int m.x.c, .int m.x.b, .int m.x.d], .tuple [.int m.y.a, .int m.y.c, .int m.y.b, .int m.y.d]])) (.tuple []) = false := by
      cases p with
      | nil => simp at l0
      | cons m l => rfl
    refine ⟨_, rfl, _, kit_tt, _, rfl, _, rfl, _, _, pp, .tup rfl py0, sh2, rfl, _, rfl, ?_⟩
    rw [ne]
    refine ⟨_, rfl, _, rfl, by rw [List.length_map]; omega, ?_⟩
    refine lc_map Nm.t (fun _ => D.bl true) p (fun m hm n k' hk => ⟨_, rfl, R_is_name.mk m (h1.ok m hm) hk⟩) ?_
    refine ⟨p.map fun _ => true, by rw [List.map_map]; rfl, ?_⟩
    have e : (p.map fun _ => true).all id = true := by simp
    rw [e]
    exact h
theorem p_map_moved : RdOk 4 3 R_map_moved (t_map_moved (R_tuple_of 4) R_tether_by) := by
  intro ss n kk h hl
  cases h with
  | mk x p a b h1 hx h =>
    have l1 := h1.le
    repeat (first | refine ⟨_, rfl, ?_⟩ | refine ⟨Nat.le_of_ble_eq_true rfl, ?_⟩ | refine ⟨_, _, rfl, rfl, ?_⟩ | refine ⟨_, _, _, rfl, rfl, rfl, ?_⟩ | refine ⟨rfl, ?_⟩ | refine ⟨_, _, rfl, ?_⟩ | refine ⟨_, _, _, rfl, ?_⟩ | refine ⟨.inl ⟨by omega, by omega⟩, ?_⟩ | refine ⟨.inr ⟨by omega, by omega⟩, ?_⟩)
    refine R_tuple_of.mk _ _ (hx.tm l1) ⟨_, rfl, by rw [List.length_map]; omega, ?_⟩
    have h' : kk (.tup ((p.map fun m => m.by 1 a b 1).map Nm.t)) n := h
    rw [List.map_map] at h'
    refine lc_map Nm.t (fun m => (m.by 1 a b 1).t) p (fun m hm n k' hk => ?_) ⟨_, rfl, h'⟩
    have e : ((m.by 1 a b 1).t : D) = .tup [.int m.w, .int m.h, Te.t ⟨1 * m.x.a + a, m.x.c, 1 * m.x.b + a, m.x.d⟩, Te.t ⟨1 * m.y.a + b, m.y.c, 1 * m.y.b + b, m.y.d⟩] := by
      unfold Nm.by Te.by
      simp only [Int.one_mul]
      rfl
    rw [e] at hk
    repeat (first | refine ⟨_, rfl, ?_⟩ | refine ⟨Nat.le_of_ble_eq_true rfl, ?_⟩ | refine ⟨_, _, rfl, rfl, ?_⟩ | refine ⟨_, _, _, rfl, rfl, rfl, ?_⟩ | refine ⟨rfl, ?_⟩ | refine ⟨_, _, rfl, ?_⟩ | refine ⟨_, _, _, rfl, ?_⟩ | refine ⟨.inl ⟨by omega, by omega⟩, ?_⟩ | refine ⟨.inr ⟨by omega, by omega⟩, ?_⟩)
    refine R_tether_by.mk _ _ _ ⟨by decide, by decide⟩ ?_
    repeat (first | refine ⟨_, rfl, ?_⟩ | refine ⟨Nat.le_of_ble_eq_true rfl, ?_⟩ | refine ⟨_, _, rfl, rfl, ?_⟩ | refine ⟨_, _, _, rfl, rfl, rfl, ?_⟩ | refine ⟨rfl, ?_⟩ | refine ⟨_, _, rfl, ?_⟩ | refine ⟨_, _, _, rfl, ?_⟩ | refine ⟨.inl ⟨by omega, by omega⟩, ?_⟩ | refine ⟨.inr ⟨by omega, by omega⟩, ?_⟩)
    refine R_tether_by.mk _ _ _ ⟨by decide, by decide⟩ ?_
    repeat (first | refine ⟨_, rfl, ?_⟩ | refine ⟨Nat.le_of_ble_eq_true rfl, ?_⟩ | refine ⟨_, _, rfl, rfl, ?_⟩ | refine ⟨_, _, _, rfl, rfl, rfl, ?_⟩ | refine ⟨rfl, ?_⟩ | refine ⟨_, _, rfl, ?_⟩ | refine ⟨_, _, _, rfl, ?_⟩ | refine ⟨.inl ⟨by omega, by omega⟩, ?_⟩ | refine ⟨.inr ⟨by omega, by omega⟩, ?_⟩)
    exact hk
theorem p_spread : RdOk 3 2 R_spread (t_spread (R_tuple_of 4) R_tether_by) := by
  intro ss n kk h hl
  cases h with
  | mk x p a h1 hx s1 h =>
    have l1 := h1.le
    repeat (first | refine ⟨_, rfl, ?_⟩ | refine ⟨Nat.le_of_ble_eq_true rfl, ?_⟩ | refine ⟨_, _, rfl, rfl, ?_⟩ | refine ⟨_, _, _, rfl, rfl, rfl, ?_⟩ | refine ⟨rfl, ?_⟩ | refine ⟨_, _, rfl, ?_⟩ | refine ⟨_, _, _, rfl, ?_⟩ | refine ⟨.inl ⟨by omega, by omega⟩, ?_⟩ | refine ⟨.inr ⟨by omega, by omega⟩, ?_⟩)
    refine R_tuple_of.mk _ _ (hx.tm l1) ⟨_, rfl, by rw [List.length_map]; omega, ?_⟩
    have h' : kk (.tup ((p.map fun m => m.by a 0 0 1).map Nm.t)) n := h
    rw [List.map_map] at h'
    refine lc_map Nm.t (fun m => (m.by a 0 0 1).t) p (fun m hm n k' hk => ?_) ⟨_, rfl, h'⟩
    have e : ((m.by a 0 0 1).t : D) = .tup [.int m.w, .int m.h, Te.t ⟨a * m.x.a + 0, m.x.c, a * m.x.b + 0, m.x.d⟩, Te.t ⟨a * m.y.a + 0, m.y.c, a * m.y.b + 0, m.y.d⟩] := by
      unfold Nm.by Te.by
      simp only [Int.one_mul]
      rfl
    rw [e] at hk
    repeat (first | refine ⟨_, rfl, ?_⟩ | refine ⟨Nat.le_of_ble_eq_true rfl, ?_⟩ | refine ⟨_, _, rfl, rfl, ?_⟩ | refine ⟨_, _, _, rfl, rfl, rfl, ?_⟩ | refine ⟨rfl, ?_⟩ | refine ⟨_, _, rfl, ?_⟩ | refine ⟨_, _, _, rfl, ?_⟩ | refine ⟨.inl ⟨by omega, by omega⟩, ?_⟩ | refine ⟨.inr ⟨by omega, by omega⟩, ?_⟩)
    refine R_tether_by.mk _ _ _ s1 ?_
    repeat (first | refine ⟨_, rfl, ?_⟩ | refine ⟨Nat.le_of_ble_eq_true rfl, ?_⟩ | refine ⟨_, _, rfl, rfl, ?_⟩ | refine ⟨_, _, _, rfl, rfl, rfl, ?_⟩ | refine ⟨rfl, ?_⟩ | refine ⟨_, _, rfl, ?_⟩ | refine ⟨_, _, _, rfl, ?_⟩ | refine ⟨.inl ⟨by omega, by omega⟩, ?_⟩ | refine ⟨.inr ⟨by omega, by omega⟩, ?_⟩)
    refine R_tether_by.mk _ _ _ s1 ?_
    repeat (first | refine ⟨_, rfl, ?_⟩ | refine ⟨Nat.le_of_ble_eq_true rfl, ?_⟩ | refine ⟨_, _, rfl, rfl, ?_⟩ | refine ⟨_, _, _, rfl, rfl, rfl, ?_⟩ | refine ⟨rfl, ?_⟩ | refine ⟨_, _, rfl, ?_⟩ | refine ⟨_, _, _, rfl, ?_⟩ | refine ⟨.inl ⟨by omega, by omega⟩, ?_⟩ | refine ⟨.inr ⟨by omega, by omega⟩, ?_⟩)
    exact hk
theorem p_tether_sized : RdOk 6 2 R_tether_sized t_tether_sized := by
  intro ss n kk h hl
  cases h with
  | mk e m s1 h =>
    obtain ⟨u1, v1⟩ := s1
    repeat (first | refine ⟨_, rfl, ?_⟩ | refine ⟨Nat.le_of_ble_eq_true rfl, ?_⟩ | refine ⟨_, _, rfl, rfl, ?_⟩ | refine ⟨_, _, _, rfl, rfl, rfl, ?_⟩ | refine ⟨rfl, ?_⟩ | refine ⟨_, _, rfl, ?_⟩ | refine ⟨_, _, _, rfl, ?_⟩ | refine ⟨.inl ⟨by omega, by omega⟩, ?_⟩ | refine ⟨.inr ⟨by omega, by omega⟩, ?_⟩)
    exact h
theorem p_sized : RdOk 7 2 R_sized (t_sized (R_tuple_of 4) R_tether_sized) := by
  intro ss n kk h hl
  cases h with
  | mk x p a h1 hx s1 h =>
    have l1 := h1.le
    obtain ⟨u1, v1⟩ := s1
    have loop : ∀ (l : List Nm) (acc : List D) (s3 s4 s5 s6 : Slot) (n : Nat) (G : DEnds), acc.length + l.length ≤ 16 → (∀ s3 s4 s5 s6, G.nx [.d x, .d (.int a), .own (acc ++ l.map fun m => (m.by 1 0 0 a).t), s3, s4, s5, s6] n) →
        forRun (g_sized_L1 (R_tuple_of 4) R_tether_sized) (t_sized_L1 (R_tuple_of 4) R_tether_sized) G (l.map Nm.t) [.d x, .d (.int a), .own acc, s3, s4, s5, s6] n := fun l => by
      induction l with
      | nil =>
        intro acc s3 s4 s5 s6 n G _ hG
        have := hG s3 s4 s5 s6
        rw [List.map_nil, List.append_nil] at this
        exact this
      | cons m l ih =>
        intro acc s3 s4 s5 s6 n G ha hG
        rw [List.length_cons] at ha
        have e : ((m.by 1 0 0 a).t : D) = .tup [.int (a * m.w), .int (a * m.h), Te.t ⟨m.x.a, a * m.x.c, m.x.b, a * m.x.d⟩, Te.t ⟨m.y.a, a * m.y.c, m.y.b, a * m.y.d⟩] := by
          unfold Nm.by Te.by
          simp only [Int.one_mul, Int.add_zero]
          rfl
        refine ⟨_, rfl, rfl, _, _, rfl, _, _, rfl, _, _, rfl, _, _, rfl, rfl, _, rfl, by omega, _, rfl, _, rfl, _, _, rfl, rfl, .inl ⟨by omega, by omega⟩, _, rfl, _, rfl, _, _, rfl, rfl, .inl ⟨by omega, by omega⟩, _, rfl, _, rfl, R_tether_sized.mk _ _ ⟨u1, v1⟩ ⟨_, rfl, _, rfl, R_tether_sized.mk _ _ ⟨u1, v1⟩ ?_⟩⟩
        refine ih (acc ++ [_]) _ _ _ _ n G (by rw [List.length_append]; show acc.length + 1 + _ ≤ 16; omega) fun s3 s4 s5 s6 => ?_
        have := hG s3 s4 s5 s6
        rw [List.map_cons, app_cons, e] at this
        exact this
    repeat (first | refine ⟨_, rfl, ?_⟩ | refine ⟨Nat.le_of_ble_eq_true rfl, ?_⟩ | refine ⟨_, _, rfl, rfl, ?_⟩ | refine ⟨_, _, _, rfl, rfl, rfl, ?_⟩ | refine ⟨rfl, ?_⟩ | refine ⟨_, _, rfl, ?_⟩ | refine ⟨_, _, _, rfl, ?_⟩ | refine ⟨.inl ⟨by omega, by omega⟩, ?_⟩ | refine ⟨.inr ⟨by omega, by omega⟩, ?_⟩)
    refine R_tuple_of.mk _ _ (hx.tm l1) ⟨_, rfl, ?_⟩
    refine loop p [] _ _ _ _ n _ (by show 0 + _ ≤ 16; omega) fun s3 s4 s5 s6 => ?_
    have h' : kk (.tup ((p.map fun m => m.by 1 0 0 a).map Nm.t)) n := h
    rw [List.map_map] at h'
    exact ⟨_, rfl, _, rfl, _, rfl, h'⟩
theorem p_stretch_at : RdOk 4 4 R_stretch_at (t_stretch_at R_on (R_tuple_of 4) R_sure_name) := by
  intro ss n kk h hl
  cases h with
  | mk x y p iz i m a u v h1 hx hi hm ha hy h2 s1 s2 h =>
    subst hi
    have l1 := h1.le
    have li : i < p.length := (List.getElem?_eq_some_iff.mp hm).1
    repeat (first | refine ⟨_, rfl, ?_⟩ | refine ⟨Nat.le_of_ble_eq_true rfl, ?_⟩ | refine ⟨_, _, rfl, rfl, ?_⟩ | refine ⟨_, _, _, rfl, rfl, rfl, ?_⟩ | refine ⟨rfl, ?_⟩ | refine ⟨_, _, rfl, ?_⟩ | refine ⟨_, _, _, rfl, ?_⟩ | refine ⟨.inl ⟨by omega, by omega⟩, ?_⟩ | refine ⟨.inr ⟨by omega, by omega⟩, ?_⟩)
    refine R_tuple_of.mk _ _ (hx.tm l1) ?_
    repeat (first | refine ⟨_, rfl, ?_⟩ | refine ⟨Nat.le_of_ble_eq_true rfl, ?_⟩ | refine ⟨_, _, rfl, rfl, ?_⟩ | refine ⟨_, _, _, rfl, rfl, rfl, ?_⟩ | refine ⟨rfl, ?_⟩ | refine ⟨_, _, rfl, ?_⟩ | refine ⟨_, _, _, rfl, ?_⟩ | refine ⟨.inl ⟨by omega, by omega⟩, ?_⟩ | refine ⟨.inr ⟨by omega, by omega⟩, ?_⟩)
    refine R_sure_name.mk _ _ _ (by omega) (by rw [List.length_map]; omega) (atT hm) ?_
    refine ⟨_, rfl, _, _, rfl, rfl, _, _, _, rfl, rfl, nmAx ha, ?_⟩
    repeat (first | refine ⟨_, rfl, ?_⟩ | refine ⟨Nat.le_of_ble_eq_true rfl, ?_⟩ | refine ⟨_, _, rfl, rfl, ?_⟩ | refine ⟨_, _, _, rfl, rfl, rfl, ?_⟩ | refine ⟨rfl, ?_⟩ | refine ⟨_, _, rfl, ?_⟩ | refine ⟨_, _, _, rfl, ?_⟩ | refine ⟨.inl ⟨by omega, by omega⟩, ?_⟩ | refine ⟨.inr ⟨by omega, by omega⟩, ?_⟩)
    refine R_tuple_of.mk _ _ hy.tm ?_
    exact R_on.mk _ _ _ h2 s1 s2 h
end DL

namespace DL
open PySem PySem.Spec PyProof.Rows L2
theorem div_b {t g M : Int} (hg : 1 ≤ g) (h0 : 0 ≤ M) (h1 : -M ≤ t) (h2 : t ≤ M) : -M ≤ t / g ∧ t / g ≤ M := by
  have h3 : M ≤ M * g := by
    have := Int.mul_le_mul_of_nonneg_left hg h0
    omega
  refine ⟨Int.le_ediv_of_mul_le (by omega) ?_, ?_⟩
  · rw [Int.neg_mul]
    omega
  · have : t / g < M + 1 := Int.ediv_lt_of_lt_mul (by omega) (by rw [Int.add_mul]; omega)
    omega
theorem lw_b {t b M : Int} (hb : 0 < b) (h0 : 0 ≤ M) (h1 : -M ≤ t) (h2 : t ≤ M) : -M ≤ lwT t b ∧ lwT t b ≤ M ∧ 0 < lwB t b ∧ lwB t b ≤ b := by
  have g := gc_pos (t := t) hb
  obtain ⟨a1, a2⟩ := div_b (g := gc t b) (by omega) h0 h1 h2
  have hd : gc t b ∣ b := by
    refine Int.natAbs_dvd_natAbs.mp ?_
    unfold gc
    rw [Int.natAbs_natCast]
    exact Nat.gcd_dvd_right _ _
  refine ⟨a1, a2, ?_, ?_⟩
  · exact Int.ediv_pos_of_pos_of_dvd hb (by omega) hd
  · exact (div_b (g := gc t b) (M := b) (by omega) (by omega) (by omega) (Int.le_refl _)).2
theorem p_sides_turned : RdOk 6 1 R_sides_turned (t_sides_turned (R_tuple_of 4)) := by
  intro ss n kk h hl
  cases h with
  | mk x T q h1 hx hq h =>
    subst hq
    have l1 := h1.le
    have loop : ∀ (js : List Nat) (acc : List D) (s4 s5 : Slot) (n : Nat) (G : DEnds), acc.length + js.length ≤ 16 → (∀ j, j ∈ js → j < T.length) → (∀ s4 s5, G.nx [.d x, .d (tabT T), .own (acc ++ js.map fun j => rowT ((List.range j).map fun i => cell T (T.length - 1 - i) (T.length - 1 - j))), .d (.int ((T.length : Int) - 1)), s4, s5] n) →
        forRun (g_sides_turned_L1 (R_tuple_of 4)) (t_sides_turned_L1 (R_tuple_of 4)) G (js.map fun i : Nat => D.int (0 + (i : Int))) [.d x, .d (tabT T), .own acc, .d (.int ((T.length : Int) - 1)), s4, s5] n := fun js => by
      induction js with
      | nil =>
        intro acc s4 s5 n G _ _ hG
        have := hG s4 s5
        rw [List.map_nil, List.append_nil] at this
        exact this
      | cons j js ih =>
        intro acc s4 s5 n G ha hj hG
        rw [List.length_cons] at ha
        have hj0 := hj j (List.mem_cons_self ..)
        refine ⟨_, rfl, by omega, _, rfl, _, rfl, by omega, by omega, ?_⟩
        have e0 : (0 + (j : Int)).toNat = j := by omega
        rw [e0]
        refine ⟨by rw [show (ups 0 j).length = j from by simp [ups]]; omega, ?_⟩
        refine lc_map (fun i : Nat => D.int (0 + (i : Int))) (fun i => D.int (cell T (T.length - 1 - i) (T.length - 1 - j))) (List.range j) (fun i hi n k' hk => ?_) ⟨_, rfl, ?_⟩
        · have hi' := List.mem_range.mp hi
          obtain ⟨r, hr⟩ : ∃ r, T[T.length - 1 - i]? = some r := ⟨_, List.getElem?_eq_getElem (by omega)⟩
          have hrl := h1.row _ _ hr
          obtain ⟨v, hv⟩ : ∃ v, r[T.length - 1 - j]? = some v := ⟨_, List.getElem?_eq_getElem (by omega)⟩
          have ec : cell T (T.length - 1 - i) (T.length - 1 - j) = v := by
            unfold cell
            rw [getD_at hr, getD_at hv]
          rw [ec] at hk
          have a1 : atI (T.map rowT) ((T.length : Int) - 1 - (0 + (i : Int))) = some (rowT r) := by
            rw [show (T.length : Int) - 1 - (0 + (i : Int)) = ((T.length - 1 - i : Nat) : Int) from by omega]
            exact atL (by rw [List.getElem?_map, hr]; rfl)
          have a2 : atI (r.map D.int) ((T.length : Int) - 1 - (0 + (j : Int))) = some (.int v) := by
            rw [show (T.length : Int) - 1 - (0 + (j : Int)) = ((T.length - 1 - j : Nat) : Int) from by omega]
            exact atL (by rw [List.getElem?_map, hv]; rfl)
          exact ⟨_, rfl, _, rfl, _, rfl, _, _, rfl, rfl, _, _, _, rfl, rfl, a1, _, rfl, _, rfl, _, _, rfl, rfl, _, _, _, rfl, rfl, a2, hk⟩
        · refine ih (acc ++ [_]) _ _ n G (by rw [List.length_append]; show acc.length + 1 + _ ≤ 16; omega) (fun j hj' => hj j (List.mem_cons_of_mem _ hj')) fun s4 s5 => ?_
          have := hG s4 s5
          rw [List.map_cons, app_cons] at this
          unfold rowT at this
          rw [List.map_map] at this
          exact this
    repeat (first | refine ⟨_, rfl, ?_⟩ | refine ⟨Nat.le_of_ble_eq_true rfl, ?_⟩ | refine ⟨_, _, rfl, rfl, ?_⟩ | refine ⟨_, _, _, rfl, rfl, rfl, ?_⟩ | refine ⟨rfl, ?_⟩ | refine ⟨_, _, rfl, ?_⟩ | refine ⟨_, _, _, rfl, ?_⟩ | refine ⟨.inl ⟨by omega, by omega⟩, ?_⟩ | refine ⟨.inr ⟨by omega, by omega⟩, ?_⟩)
    refine R_tuple_of.mk _ _ (hx.tm h1) ?_
    refine ⟨_, rfl, _, _, rfl, rfl, _, _, rfl, rfl, _, rfl, _, _, rfl, rfl, _, rfl, by omega, by rw [List.length_map]; omega, ?_⟩
    rw [List.length_map, Int.toNat_natCast]
    refine loop (List.range T.length) [] _ _ n _ (by rw [List.length_range]; show 0 + _ ≤ 16; omega) (fun j hj => List.mem_range.mp hj) fun s4 s5 => ?_
    have h' : kk (.tup ((tabHalf T).map rowT)) n := h
    unfold tabHalf at h'
    rw [List.map_map] at h'
    exact ⟨_, rfl, _, rfl, _, rfl, h'⟩
theorem Nm.Ok.sm {m : Nm} (h : m.Ok) : Sm m.w ∧ Sm m.h := by
  obtain ⟨⟨a, b⟩, ⟨c, d⟩, _, _⟩ := h
  exact ⟨⟨by omega, by omega⟩, ⟨by omega, by omega⟩⟩
theorem p_box_in : RdOk 2 2 R_box_in (t_box_in R_plus) := by
  intro ss n kk h hl
  cases h with
  | mk m s hm hs h =>
    obtain ⟨⟨a1, a2, a3, a4⟩, ⟨c1, c2, c3, c4⟩⟩ := hs
    repeat (first | refine ⟨_, rfl, ?_⟩ | refine ⟨Nat.le_of_ble_eq_true rfl, ?_⟩ | refine ⟨_, _, rfl, rfl, ?_⟩ | refine ⟨_, _, _, rfl, rfl, rfl, ?_⟩ | refine ⟨rfl, ?_⟩ | refine ⟨_, _, rfl, ?_⟩ | refine ⟨_, _, _, rfl, ?_⟩ | refine ⟨.inl ⟨by omega, by omega⟩, ?_⟩ | refine ⟨.inr ⟨by omega, by omega⟩, ?_⟩)
    refine R_plus.mk _ _ _ _ a3 (by decide) ⟨by omega, by omega⟩ ⟨by omega, by omega⟩ hm.1 ⟨by decide, by decide⟩ ?_
    repeat (first | refine ⟨_, rfl, ?_⟩ | refine ⟨Nat.le_of_ble_eq_true rfl, ?_⟩ | refine ⟨_, _, rfl, rfl, ?_⟩ | refine ⟨_, _, _, rfl, rfl, rfl, ?_⟩ | refine ⟨rfl, ?_⟩ | refine ⟨_, _, rfl, ?_⟩ | refine ⟨_, _, _, rfl, ?_⟩ | refine ⟨.inl ⟨by omega, by omega⟩, ?_⟩ | refine ⟨.inr ⟨by omega, by omega⟩, ?_⟩)
    refine R_plus.mk _ _ _ _ c3 (by decide) ⟨by omega, by omega⟩ ⟨by omega, by omega⟩ hm.2 ⟨by decide, by decide⟩ ?_
    repeat (first | refine ⟨_, rfl, ?_⟩ | refine ⟨Nat.le_of_ble_eq_true rfl, ?_⟩ | refine ⟨_, _, rfl, rfl, ?_⟩ | refine ⟨_, _, _, rfl, rfl, rfl, ?_⟩ | refine ⟨rfl, ?_⟩ | refine ⟨_, _, rfl, ?_⟩ | refine ⟨_, _, _, rfl, ?_⟩ | refine ⟨.inl ⟨by omega, by omega⟩, ?_⟩ | refine ⟨.inr ⟨by omega, by omega⟩, ?_⟩)
    exact h
theorem p_box_at : RdOk 3 3 R_box_at (t_box_at R_box_in (R_tuple_of 4) R_sure_name) := by
  intro ss n kk h hl
  cases h with
  | mk x y p iz i m s h1 hx hi hm hs hy h =>
    subst hi
    have l1 := h1.le
    have li : i < p.length := (List.getElem?_eq_some_iff.mp hm).1
    repeat (first | refine ⟨_, rfl, ?_⟩ | refine ⟨Nat.le_of_ble_eq_true rfl, ?_⟩ | refine ⟨_, _, rfl, rfl, ?_⟩ | refine ⟨_, _, _, rfl, rfl, rfl, ?_⟩ | refine ⟨rfl, ?_⟩ | refine ⟨_, _, rfl, ?_⟩ | refine ⟨_, _, _, rfl, ?_⟩ | refine ⟨.inl ⟨by omega, by omega⟩, ?_⟩ | refine ⟨.inr ⟨by omega, by omega⟩, ?_⟩)
    refine R_tuple_of.mk _ _ (hx.tm l1) ?_
    repeat (first | refine ⟨_, rfl, ?_⟩ | refine ⟨Nat.le_of_ble_eq_true rfl, ?_⟩ | refine ⟨_, _, rfl, rfl, ?_⟩ | refine ⟨_, _, _, rfl, rfl, rfl, ?_⟩ | refine ⟨rfl, ?_⟩ | refine ⟨_, _, rfl, ?_⟩ | refine ⟨_, _, _, rfl, ?_⟩ | refine ⟨.inl ⟨by omega, by omega⟩, ?_⟩ | refine ⟨.inr ⟨by omega, by omega⟩, ?_⟩)
    refine R_sure_name.mk _ _ _ (by omega) (by rw [List.length_map]; omega) (atT hm) ?_
    repeat (first | refine ⟨_, rfl, ?_⟩ | refine ⟨Nat.le_of_ble_eq_true rfl, ?_⟩ | refine ⟨_, _, rfl, rfl, ?_⟩ | refine ⟨_, _, _, rfl, rfl, rfl, ?_⟩ | refine ⟨rfl, ?_⟩ | refine ⟨_, _, rfl, ?_⟩ | refine ⟨_, _, _, rfl, ?_⟩ | refine ⟨.inl ⟨by omega, by omega⟩, ?_⟩ | refine ⟨.inr ⟨by omega, by omega⟩, ?_⟩)
    refine R_tuple_of.mk _ _ hy.tm ?_
    exact R_box_in.mk m s (h1.ok m (List.mem_of_getElem? hm)).sm hs h
theorem place1 {m : Int} {t b : Int} (hm : Sm m ∧ 1 ≤ m ∧ m ≤ 10000) (f : Fq t b) : 0 < b * 1 ∧ -(20000000 : Int) ≤ t * 1 + m * b ∧ t * 1 + m * b ≤ 20000000 := by
  obtain ⟨f1, f2, f3, f4⟩ := f
  have h1 : m * b ≤ 10000 * 1000 := Int.mul_le_mul hm.2.2 f4 (by omega) (by decide)
  have h2 : 0 ≤ m * b := Int.mul_nonneg (by omega) (by omega)
  omega
theorem p_place_turned : RdOk 5 3 R_place_turned (t_place_turned R_sure_name (R_tuple_of 4) R_minus R_plus) := by
  intro ss n kk h hl
  cases h with
  | mk x y p iz i m s r h1 hx hi hm hs hy hr h =>
    subst hi
    subst hr
    have l1 := h1.le
    have li : i < p.length := (List.getElem?_eq_some_iff.mp hm).1
    have ok := h1.ok m (List.mem_of_getElem? hm)
    have sm := ok.sm
    obtain ⟨f0, f1⟩ := hs
    obtain ⟨q1, q2, q3⟩ := place1 ⟨sm.1, ok.w⟩ f0
    obtain ⟨r1, r2, r3⟩ := place1 ⟨sm.2, ok.h⟩ f1
    obtain ⟨w1, w2, w3, w4⟩ := lw_b q1 (by decide) q2 q3
    obtain ⟨z1, z2, z3, z4⟩ := lw_b r1 (by decide) r2 r3
    obtain ⟨a1, a2, a3, a4⟩ := f0
    obtain ⟨c1, c2, c3, c4⟩ := f1
    repeat (first | refine ⟨_, rfl, ?_⟩ | refine ⟨Nat.le_of_ble_eq_true rfl, ?_⟩ | refine ⟨_, _, rfl, rfl, ?_⟩ | refine ⟨_, _, _, rfl, rfl, rfl, ?_⟩ | refine ⟨rfl, ?_⟩ | refine ⟨_, _, rfl, ?_⟩ | refine ⟨_, _, _, rfl, ?_⟩ | refine ⟨.inl ⟨by omega, by omega⟩, ?_⟩ | refine ⟨.inr ⟨by omega, by omega⟩, ?_⟩)
    refine R_tuple_of.mk _ _ (hx.tm l1) ?_
    repeat (first | refine ⟨_, rfl, ?_⟩ | refine ⟨Nat.le_of_ble_eq_true rfl, ?_⟩ | refine ⟨_, _, rfl, rfl, ?_⟩ | refine ⟨_, _, _, rfl, rfl, rfl, ?_⟩ | refine ⟨rfl, ?_⟩ | refine ⟨_, _, rfl, ?_⟩ | refine ⟨_, _, _, rfl, ?_⟩ | refine ⟨.inl ⟨by omega, by omega⟩, ?_⟩ | refine ⟨.inr ⟨by omega, by omega⟩, ?_⟩)
    refine R_sure_name.mk _ _ _ (by omega) (by rw [List.length_map]; omega) (atT hm) ?_
    have one : ∀ (y0 y1 : D), FrD y0 s.t0 s.b0 → FrD y1 s.t1 s.b1 → elems y = some [y0, y1] → dRet (dCall pTuple (dCons (dOfL (dLc (iSeqD (dTup (dCons (dC (.int 0)) (dCons (dC (.int 1)) dNil)))) (g_place_turned_1 R_sure_name (R_tuple_of 4) R_minus R_plus) dYes (e_place_turned_1 R_sure_name (R_tuple_of 4) R_minus R_plus) [4])) dNil)) { nx := fun _ n => kk .non n, rt := kk } [.d x, .d (.int (i : Nat)), .d y, .d m.t, .no] n := fun y0 y1 g0 g1 ey => by
      refine ⟨_, rfl, Nat.le_of_ble_eq_true rfl, ?_⟩
      refine lc_one ⟨_, rfl, _, rfl, _, _, _, ey, rfl, rfl, R_tuple_of.mk _ _ g0.tm ?_⟩
      repeat (first | refine ⟨_, rfl, ?_⟩ | refine ⟨Nat.le_of_ble_eq_true rfl, ?_⟩ | refine ⟨_, _, rfl, rfl, ?_⟩ | refine ⟨_, _, _, rfl, rfl, rfl, ?_⟩ | refine ⟨rfl, ?_⟩ | refine ⟨_, _, rfl, ?_⟩ | refine ⟨_, _, _, rfl, ?_⟩ | refine ⟨.inl ⟨by omega, by omega⟩, ?_⟩ | refine ⟨.inr ⟨by omega, by omega⟩, ?_⟩)
      refine R_plus.mk _ _ _ _ a3 (by decide) ⟨by omega, by omega⟩ ⟨by omega, by omega⟩ sm.1 ⟨by decide, by decide⟩ ?_
      refine R_minus.mk _ _ _ _ (by decide) w3 ⟨by decide, by decide⟩ ⟨by decide, by decide⟩ ⟨by omega, by omega⟩ ⟨by omega, by omega⟩ ?_
      refine lc_one ⟨_, rfl, _, rfl, _, _, _, ey, rfl, rfl, R_tuple_of.mk _ _ g1.tm ?_⟩
      repeat (first | refine ⟨_, rfl, ?_⟩ | refine ⟨Nat.le_of_ble_eq_true rfl, ?_⟩ | refine ⟨_, _, rfl, rfl, ?_⟩ | refine ⟨_, _, _, rfl, rfl, rfl, ?_⟩ | refine ⟨rfl, ?_⟩ | refine ⟨_, _, rfl, ?_⟩ | refine ⟨_, _, _, rfl, ?_⟩ | refine ⟨.inl ⟨by omega, by omega⟩, ?_⟩ | refine ⟨.inr ⟨by omega, by omega⟩, ?_⟩)
      refine R_plus.mk _ _ _ _ c3 (by decide) ⟨by omega, by omega⟩ ⟨by omega, by omega⟩ sm.2 ⟨by decide, by decide⟩ ?_
      refine R_minus.mk _ _ _ _ (by decide) z3 ⟨by decide, by decide⟩ ⟨by decide, by decide⟩ ⟨by omega, by omega⟩ ⟨by omega, by omega⟩ ?_
      exact ⟨_, rfl, h⟩
    rcases hy with rfl | rfl
    · exact one _ _ (.inl rfl) (.inl rfl) rfl
    · exact one _ _ (.inr rfl) (.inr rfl) rfl
end DL

namespace DL
open PySem PySem.Spec PyProof.Rows L2
theorem mul_b {x y A B : Int} (hx : -A ≤ x) (hx2 : x ≤ A) (hy : -B ≤ y) (hy2 : y ≤ B) (hA : 0 ≤ A) : -(A * B) ≤ x * y ∧ x * y ≤ A * B := by
  by_cases h : 0 ≤ y
  · have h1 : x * y ≤ A * y := Int.mul_le_mul_of_nonneg_right hx2 h
    have h2 : -A * y ≤ x * y := Int.mul_le_mul_of_nonneg_right hx h
    have h3 : A * y ≤ A * B := Int.mul_le_mul_of_nonneg_left hy2 hA
    rw [Int.neg_mul] at h2
    omega
  · have h1 : x * (-y) ≤ A * (-y) := Int.mul_le_mul_of_nonneg_right hx2 (by omega)
    have h2 : -A * (-y) ≤ x * (-y) := Int.mul_le_mul_of_nonneg_right hx (by omega)
    have h3 : A * (-y) ≤ A * B := Int.mul_le_mul_of_nonneg_left (by omega) hA
    rw [Int.neg_mul] at h2
    have e1 : x * (-y) = -(x * y) := Int.mul_neg ..
    rw [e1] at h1 h2
    omega
theorem reach_b {e : Te} {u v : Int} (z : Zq u v) (h : Sn e.a ∧ Sn e.b ∧ Sn e.c ∧ Sn e.d) : (-2000000 ≤ u * e.a - e.c * v ∧ u * e.a - e.c * v ≤ 2000000) ∧ (-2000000 ≤ u * e.b + e.d * v ∧ u * e.b + e.d * v ≤ 2000000) := by
  obtain ⟨b1, b2, b3, b4⟩ := z
  obtain ⟨⟨s1, s2⟩, ⟨s3, s4⟩, ⟨s5, s6⟩, ⟨s7, s8⟩⟩ := h
  have m1 := mul_b (A := 100) (B := 10000) b1 b2 s1 s2 (by decide)
  have m2 := mul_b (A := 10000) (B := 100) s5 s6 (by omega) b4 (by decide)
  have m3 := mul_b (A := 100) (B := 10000) b1 b2 s3 s4 (by decide)
  have m4 := mul_b (A := 10000) (B := 100) s7 s8 (by omega) b4 (by decide)
  omega
theorem p_lets : RdOk 9 4 R_lets (t_lets R_sure_name (R_tuple_of 4) R_on R_is_less) := by
  intro ss n kk h hl
  cases h with
  | mk x y z p iz i m u v s b h1 hx hi hm hy h2 hs hz ht hb h =>
    subst hi
    subst hb
    have l1 := h1.le
    have li : i < p.length := (List.getElem?_eq_some_iff.mp hm).1
    obtain ⟨⟨a1, a2, a3, a4⟩, ⟨c1, c2, c3, c4⟩⟩ := hs
    have bd : ∀ e : Te, e = m.x ∨ e = m.y → Sm (lwT (u * e.a - e.c * v) v) ∧ Sm (lwT (u * e.b + e.d * v) v) := fun e he => by
      have r := reach_b h2 (ht e he)
      have g1 := lw_b h2.b1 (M := 2000000) (by decide) r.1.1 r.1.2
      have g2 := lw_b h2.b1 (M := 2000000) (by decide) r.2.1 r.2.2
      exact ⟨⟨by omega, by omega⟩, ⟨by omega, by omega⟩⟩
    obtain ⟨b1, b2, b3, b4⟩ := h2
    obtain ⟨bx1, bx2⟩ := bd m.x (.inl rfl)
    obtain ⟨by1, by2⟩ := bd m.y (.inr rfl)
    repeat (first | refine ⟨_, rfl, ?_⟩ | refine ⟨Nat.le_of_ble_eq_true rfl, ?_⟩ | refine ⟨_, _, rfl, rfl, ?_⟩ | refine ⟨_, _, _, rfl, rfl, rfl, ?_⟩ | refine ⟨rfl, ?_⟩ | refine ⟨_, _, rfl, ?_⟩ | refine ⟨_, _, _, rfl, ?_⟩ | refine ⟨.inl ⟨by omega, by omega⟩, ?_⟩ | refine ⟨.inr ⟨by omega, by omega⟩, ?_⟩)
    refine R_tuple_of.mk _ _ (hx.tm l1) ?_
    repeat (first | refine ⟨_, rfl, ?_⟩ | refine ⟨Nat.le_of_ble_eq_true rfl, ?_⟩ | refine ⟨_, _, rfl, rfl, ?_⟩ | refine ⟨_, _, _, rfl, rfl, rfl, ?_⟩ | refine ⟨rfl, ?_⟩ | refine ⟨_, _, rfl, ?_⟩ | refine ⟨_, _, _, rfl, ?_⟩ | refine ⟨.inl ⟨by omega, by omega⟩, ?_⟩ | refine ⟨.inr ⟨by omega, by omega⟩, ?_⟩)
    refine R_sure_name.mk _ _ _ (by omega) (by rw [List.length_map]; omega) (atT hm) ?_
    repeat (first | refine ⟨_, rfl, ?_⟩ | refine ⟨Nat.le_of_ble_eq_true rfl, ?_⟩ | refine ⟨_, _, rfl, rfl, ?_⟩ | refine ⟨_, _, _, rfl, rfl, rfl, ?_⟩ | refine ⟨rfl, ?_⟩ | refine ⟨_, _, rfl, ?_⟩ | refine ⟨_, _, _, rfl, ?_⟩ | refine ⟨.inl ⟨by omega, by omega⟩, ?_⟩ | refine ⟨.inr ⟨by omega, by omega⟩, ?_⟩)
    refine R_tuple_of.mk _ _ hz.tm ?_
    repeat (first | refine ⟨_, rfl, ?_⟩ | refine ⟨Nat.le_of_ble_eq_true rfl, ?_⟩ | refine ⟨_, _, rfl, rfl, ?_⟩ | refine ⟨_, _, _, rfl, rfl, rfl, ?_⟩ | refine ⟨rfl, ?_⟩ | refine ⟨_, _, rfl, ?_⟩ | refine ⟨_, _, _, rfl, ?_⟩ | refine ⟨.inl ⟨by omega, by omega⟩, ?_⟩ | refine ⟨.inr ⟨by omega, by omega⟩, ?_⟩)
    refine R_tuple_of.mk _ _ hy.tm ?_
    refine R_on.mk _ _ _ b3 ⟨by omega, by omega⟩ ⟨by omega, by omega⟩ ?_
    repeat (first | refine ⟨_, rfl, ?_⟩ | refine ⟨Nat.le_of_ble_eq_true rfl, ?_⟩ | refine ⟨_, _, rfl, rfl, ?_⟩ | refine ⟨_, _, _, rfl, rfl, rfl, ?_⟩ | refine ⟨rfl, ?_⟩ | refine ⟨_, _, rfl, ?_⟩ | refine ⟨_, _, _, rfl, ?_⟩ | refine ⟨.inl ⟨by omega, by omega⟩, ?_⟩ | refine ⟨.inr ⟨by omega, by omega⟩, ?_⟩)
    refine R_is_less.mk _ _ _ _ ⟨by omega, by omega⟩ bx1 ?_
    repeat (first | refine ⟨_, rfl, ?_⟩ | refine ⟨Nat.le_of_ble_eq_true rfl, ?_⟩ | refine ⟨_, _, rfl, rfl, ?_⟩ | refine ⟨_, _, _, rfl, rfl, rfl, ?_⟩ | refine ⟨rfl, ?_⟩ | refine ⟨_, _, rfl, ?_⟩ | refine ⟨_, _, _, rfl, ?_⟩ | refine ⟨.inl ⟨by omega, by omega⟩, ?_⟩ | refine ⟨.inr ⟨by omega, by omega⟩, ?_⟩)
    have leaf : ∀ b : Bool, letB m u v s = b → kk (.bl b) n := fun b e => by rw [← e]; exact h
    refine ite_b (fun e1 => ?_) (fun e1 => ?_)
    · exact leaf false (by unfold letB outB lessQ; rw [e1]; rfl)
    · repeat (first | refine ⟨_, rfl, ?_⟩ | refine ⟨Nat.le_of_ble_eq_true rfl, ?_⟩ | refine ⟨_, _, rfl, rfl, ?_⟩ | refine ⟨_, _, _, rfl, rfl, rfl, ?_⟩ | refine ⟨rfl, ?_⟩ | refine ⟨_, _, rfl, ?_⟩ | refine ⟨_, _, _, rfl, ?_⟩ | refine ⟨.inl ⟨by omega, by omega⟩, ?_⟩ | refine ⟨.inr ⟨by omega, by omega⟩, ?_⟩)
      refine R_is_less.mk _ _ _ _ bx2 ⟨by omega, by omega⟩ ?_
      repeat (first | refine ⟨_, rfl, ?_⟩ | refine ⟨Nat.le_of_ble_eq_true rfl, ?_⟩ | refine ⟨_, _, rfl, rfl, ?_⟩ | refine ⟨_, _, _, rfl, rfl, rfl, ?_⟩ | refine ⟨rfl, ?_⟩ | refine ⟨_, _, rfl, ?_⟩ | refine ⟨_, _, _, rfl, ?_⟩ | refine ⟨.inl ⟨by omega, by omega⟩, ?_⟩ | refine ⟨.inr ⟨by omega, by omega⟩, ?_⟩)
      refine ite_b (fun e2 => ?_) (fun e2 => ?_)
      · exact leaf false (by unfold letB outB lessQ; rw [e1, e2]; rfl)
      · repeat (first | refine ⟨_, rfl, ?_⟩ | refine ⟨Nat.le_of_ble_eq_true rfl, ?_⟩ | refine ⟨_, _, rfl, rfl, ?_⟩ | refine ⟨_, _, _, rfl, rfl, rfl, ?_⟩ | refine ⟨rfl, ?_⟩ | refine ⟨_, _, rfl, ?_⟩ | refine ⟨_, _, _, rfl, ?_⟩ | refine ⟨.inl ⟨by omega, by omega⟩, ?_⟩ | refine ⟨.inr ⟨by omega, by omega⟩, ?_⟩)
        refine R_tuple_of.mk _ _ hy.tm ?_
        refine R_on.mk _ _ _ b3 ⟨by omega, by omega⟩ ⟨by omega, by omega⟩ ?_
        repeat (first | refine ⟨_, rfl, ?_⟩ | refine ⟨Nat.le_of_ble_eq_true rfl, ?_⟩ | refine ⟨_, _, rfl, rfl, ?_⟩ | refine ⟨_, _, _, rfl, rfl, rfl, ?_⟩ | refine ⟨rfl, ?_⟩ | refine ⟨_, _, rfl, ?_⟩ | refine ⟨_, _, _, rfl, ?_⟩ | refine ⟨.inl ⟨by omega, by omega⟩, ?_⟩ | refine ⟨.inr ⟨by omega, by omega⟩, ?_⟩)
        refine R_is_less.mk _ _ _ _ ⟨by omega, by omega⟩ by1 ?_
        repeat (first | refine ⟨_, rfl, ?_⟩ | refine ⟨Nat.le_of_ble_eq_true rfl, ?_⟩ | refine ⟨_, _, rfl, rfl, ?_⟩ | refine ⟨_, _, _, rfl, rfl, rfl, ?_⟩ | refine ⟨rfl, ?_⟩ | refine ⟨_, _, rfl, ?_⟩ | refine ⟨_, _, _, rfl, ?_⟩ | refine ⟨.inl ⟨by omega, by omega⟩, ?_⟩ | refine ⟨.inr ⟨by omega, by omega⟩, ?_⟩)
        refine ite_b (fun e3 => ?_) (fun e3 => ?_)
        · exact leaf false (by unfold letB outB lessQ; rw [e1, e2, e3]; rfl)
        · repeat (first | refine ⟨_, rfl, ?_⟩ | refine ⟨Nat.le_of_ble_eq_true rfl, ?_⟩ | refine ⟨_, _, rfl, rfl, ?_⟩ | refine ⟨_, _, _, rfl, rfl, rfl, ?_⟩ | refine ⟨rfl, ?_⟩ | refine ⟨_, _, rfl, ?_⟩ | refine ⟨_, _, _, rfl, ?_⟩ | refine ⟨.inl ⟨by omega, by omega⟩, ?_⟩ | refine ⟨.inr ⟨by omega, by omega⟩, ?_⟩)
          refine R_is_less.mk _ _ _ _ by2 ⟨by omega, by omega⟩ ?_
          repeat (first | refine ⟨_, rfl, ?_⟩ | refine ⟨Nat.le_of_ble_eq_true rfl, ?_⟩ | refine ⟨_, _, rfl, rfl, ?_⟩ | refine ⟨_, _, _, rfl, rfl, rfl, ?_⟩ | refine ⟨rfl, ?_⟩ | refine ⟨_, _, rfl, ?_⟩ | refine ⟨_, _, _, rfl, ?_⟩ | refine ⟨.inl ⟨by omega, by omega⟩, ?_⟩ | refine ⟨.inr ⟨by omega, by omega⟩, ?_⟩)
          refine ite_b (fun e4 => ?_) (fun e4 => ?_)
          · exact leaf false (by unfold letB outB lessQ; rw [e1, e2, e3, e4]; rfl)
          · exact leaf true (by unfold letB outB lessQ; rw [e1, e2, e3, e4]; rfl)
theorem p_do_cover : RdOk 11 5 R_do_cover (t_do_cover (R_tuple_of 4) R_sure_name R_box_in R_is_less) := by
  intro ss n kk h hl
  cases h with
  | mk x y z p iz jz i j m o s r h1 hx hi hj hm ho hs hr hy hz h =>
    subst hi
    subst hj
    have l1 := h1.le
    have li : i < p.length := (List.getElem?_eq_some_iff.mp hm).1
    have lj : j < p.length := (List.getElem?_eq_some_iff.mp ho).1
    have okm := h1.ok m (List.mem_of_getElem? hm)
    have oko := h1.ok o (List.mem_of_getElem? ho)
    have smm := okm.sm
    have smo := oko.sm
    obtain ⟨q1, q2, q3⟩ := place1 ⟨smm.1, okm.w⟩ hs.f0
    obtain ⟨q4, q5, q6⟩ := place1 ⟨smm.2, okm.h⟩ hs.f1
    obtain ⟨q7, q8, q9⟩ := place1 ⟨smo.1, oko.w⟩ hr.f0
    obtain ⟨q10, q11, q12⟩ := place1 ⟨smo.2, oko.h⟩ hr.f1
    have g1 := lw_b q1 (by decide) q2 q3
    have g2 := lw_b q4 (by decide) q5 q6
    have g3 := lw_b q7 (by decide) q8 q9
    have g4 := lw_b q10 (by decide) q11 q12
    have hs0 := hs
    have hr0 := hr
    obtain ⟨⟨a1, a2, a3, a4⟩, ⟨c1, c2, c3, c4⟩⟩ := hs
    obtain ⟨⟨d1, d2, d3, d4⟩, ⟨e1, e2, e3, e4⟩⟩ := hr
    repeat (first | refine ⟨_, rfl, ?_⟩ | refine ⟨Nat.le_of_ble_eq_true rfl, ?_⟩ | refine ⟨_, _, rfl, rfl, ?_⟩ | refine ⟨_, _, _, rfl, rfl, rfl, ?_⟩ | refine ⟨rfl, ?_⟩ | refine ⟨_, _, rfl, ?_⟩ | refine ⟨_, _, _, rfl, ?_⟩ | refine ⟨.inl ⟨by omega, by omega⟩, ?_⟩ | refine ⟨.inr ⟨by omega, by omega⟩, ?_⟩)
    refine R_tuple_of.mk _ _ (hx.tm l1) ?_
    repeat (first | refine ⟨_, rfl, ?_⟩ | refine ⟨Nat.le_of_ble_eq_true rfl, ?_⟩ | refine ⟨_, _, rfl, rfl, ?_⟩ | refine ⟨_, _, _, rfl, rfl, rfl, ?_⟩ | refine ⟨rfl, ?_⟩ | refine ⟨_, _, rfl, ?_⟩ | refine ⟨_, _, _, rfl, ?_⟩ | refine ⟨.inl ⟨by omega, by omega⟩, ?_⟩ | refine ⟨.inr ⟨by omega, by omega⟩, ?_⟩)
    refine R_sure_name.mk _ _ _ (by omega) (by rw [List.length_map]; omega) (atT hm) ?_
    repeat (first | refine ⟨_, rfl, ?_⟩ | refine ⟨Nat.le_of_ble_eq_true rfl, ?_⟩ | refine ⟨_, _, rfl, rfl, ?_⟩ | refine ⟨_, _, _, rfl, rfl, rfl, ?_⟩ | refine ⟨rfl, ?_⟩ | refine ⟨_, _, rfl, ?_⟩ | refine ⟨_, _, _, rfl, ?_⟩ | refine ⟨.inl ⟨by omega, by omega⟩, ?_⟩ | refine ⟨.inr ⟨by omega, by omega⟩, ?_⟩)
    refine R_sure_name.mk _ _ _ (by omega) (by rw [List.length_map]; omega) (atT ho) ?_
    repeat (first | refine ⟨_, rfl, ?_⟩ | refine ⟨Nat.le_of_ble_eq_true rfl, ?_⟩ | refine ⟨_, _, rfl, rfl, ?_⟩ | refine ⟨_, _, _, rfl, rfl, rfl, ?_⟩ | refine ⟨rfl, ?_⟩ | refine ⟨_, _, rfl, ?_⟩ | refine ⟨_, _, _, rfl, ?_⟩ | refine ⟨.inl ⟨by omega, by omega⟩, ?_⟩ | refine ⟨.inr ⟨by omega, by omega⟩, ?_⟩)
    refine R_tuple_of.mk _ _ hy.tm ?_
    refine R_box_in.mk m s smm hs0 ?_
    repeat (first | refine ⟨_, rfl, ?_⟩ | refine ⟨Nat.le_of_ble_eq_true rfl, ?_⟩ | refine ⟨_, _, rfl, rfl, ?_⟩ | refine ⟨_, _, _, rfl, rfl, rfl, ?_⟩ | refine ⟨rfl, ?_⟩ | refine ⟨_, _, rfl, ?_⟩ | refine ⟨_, _, _, rfl, ?_⟩ | refine ⟨.inl ⟨by omega, by omega⟩, ?_⟩ | refine ⟨.inr ⟨by omega, by omega⟩, ?_⟩)
    refine R_tuple_of.mk _ _ hz.tm ?_
    refine R_box_in.mk o r smo hr0 ?_
    have one : ∀ (a : Nat) (b : Bool) (ρ : List Slot) (n : Nat) (k : DK), ρ[10]? = some (.d (.int (a : Int))) → ρ[8]? = some (.d (boxD m.w m.h s)) → ρ[9]? = some (.d (boxD o.w o.h r)) → (a = 0 ∧ b = cov1 s.t0 s.b0 m.w r.t0 r.b0 o.w ∨ a = 1 ∧ b = cov1 s.t1 s.b1 m.h r.t1 r.b1 o.h) → k (.bl b) n → e_do_cover_1 (R_tuple_of 4) R_sure_name R_box_in R_is_less ρ n k := fun a b ρ n k r1 r2 r3 hab hk => by
      rcases hab with ⟨rfl, rfl⟩ | ⟨rfl, rfl⟩
      · refine ⟨_, r2, _, r1, _, _, _, rfl, rfl, rfl, _, r3, _, r1, _, _, rfl, rfl, _, _, _, rfl, rfl, rfl, R_is_less.mk _ _ _ _ ⟨by omega, by omega⟩ ⟨by omega, by omega⟩ ⟨_, rfl, ?_⟩⟩
        refine ite_b (fun z1 => ?_) (fun z1 => ?_)
        · refine ⟨_, r3, _, r1, _, _, _, rfl, rfl, rfl, _, r2, _, r1, _, _, rfl, rfl, _, _, _, rfl, rfl, rfl, R_is_less.mk _ _ _ _ ⟨by omega, by omega⟩ ⟨by omega, by omega⟩ ?_⟩
          unfold cov1 lessQ at hk
          rw [z1, Bool.true_and] at hk
          exact hk
        · unfold cov1 lessQ at hk
          rw [z1, Bool.false_and] at hk
          exact hk
      · refine ⟨_, r2, _, r1, _, _, _, rfl, rfl, rfl, _, r3, _, r1, _, _, rfl, rfl, _, _, _, rfl, rfl, rfl, R_is_less.mk _ _ _ _ ⟨by omega, by omega⟩ ⟨by omega, by omega⟩ ⟨_, rfl, ?_⟩⟩
        refine ite_b (fun z1 => ?_) (fun z1 => ?_)
        · refine ⟨_, r3, _, r1, _, _, _, rfl, rfl, rfl, _, r2, _, r1, _, _, rfl, rfl, _, _, _, rfl, rfl, rfl, R_is_less.mk _ _ _ _ ⟨by omega, by omega⟩ ⟨by omega, by omega⟩ ?_⟩
          unfold cov1 lessQ at hk
          rw [z1, Bool.true_and] at hk
          exact hk
        · unfold cov1 lessQ at hk
          rw [z1, Bool.false_and] at hk
          exact hk
    refine ⟨_, rfl, Nat.le_of_ble_eq_true rfl, ?_⟩
    refine lc_one (one 0 _ _ _ _ rfl rfl rfl (.inl ⟨rfl, rfl⟩) ?_)
    refine lc_one (one 1 _ _ _ _ rfl rfl rfl (.inr ⟨rfl, rfl⟩) ?_)
    refine ⟨[cov1 s.t0 s.b0 m.w r.t0 r.b0 o.w, cov1 s.t1 s.b1 m.h r.t1 r.b1 o.h], rfl, ?_⟩
    unfold covB at h
    rw [← Bool.and_true (cov1 s.t1 s.b1 m.h r.t1 r.b1 o.h)] at h
    exact h
end DL

namespace DL
open PySem PySem.Spec PyProof.Rows L2
theorem p__law_lists (m : Nat) : RdOk 2 1 (R__law_lists (m + 1)) (t__law_lists (R__law_lists m)) := by
  intro ss n kk h hl
  cases h with
  | mk x y h hk =>
    rcases h with ⟨rfl, h⟩ | ⟨xs, ys, he, rfl, hlen, ha⟩
    · cases y with
      | int i => exact ⟨_, rfl, _, _, kit_il, kit_it, _, rfl, _, rfl, hk⟩
      | bl i => exact ⟨_, rfl, _, _, kit_bl, kit_bt, _, rfl, _, rfl, hk⟩
      | str i => exact ⟨_, rfl, _, _, kit_sl, kit_st, _, rfl, _, rfl, hk⟩
      | _ => cases h
    · cases x with
      | tup l =>
        refine ⟨_, rfl, _, _, kit_tl, kit_tt, _, rfl, ?_⟩
        exact ⟨_, rfl, xs, he, hlen, lc_all2 ha (fun a b n k' hr hk' => ⟨_, rfl, R__law_lists.mk a b hr hk'⟩) hk⟩
      | tz l =>
        refine ⟨_, rfl, _, _, kit_tl, kit_tt, _, rfl, ?_⟩
        exact ⟨_, rfl, xs, he, hlen, lc_all2 ha (fun a b n k' hr hk' => ⟨_, rfl, R__law_lists.mk a b hr hk'⟩) hk⟩
      | lst l =>
        refine ⟨_, rfl, _, _, kit_ll, kit_lt, _, rfl, ?_⟩
        exact ⟨_, rfl, xs, he, hlen, lc_all2 ha (fun a b n k' hr hk' => ⟨_, rfl, R__law_lists.mk a b hr hk'⟩) hk⟩
      | _ => cases he
theorem pairs_self : ∀ l : List D, pairs l l = l.map fun d => .tup [d, d]
  | [] => rfl
  | d :: l => by
    show D.tup [d, d] :: pairs l l = _
    rw [pairs_self l]
    rfl
theorem p__law_same (m : Nat) : RdOk 4 2 (R__law_same (m + 1)) (t__law_same (R__law_same m)) := by
  intro ss n kk h hl
  cases h with
  | mk x h hk =>
    have tt : ∀ {P : Prop} [Decidable P], P → kk (.bl (decide P)) n := fun {P} _ p => by rw [decide_eq_true p]; exact hk
    rcases h with h | ⟨l, hx, hlen, hf⟩
    · cases x with
      | int i => exact ⟨_, rfl, _, _, kit_il, kit_it, _, rfl, _, rfl, rfl, _, rfl, _, rfl, _, _, kit_ib, kit_is, _, rfl, _, rfl, _, kit_ii, _, rfl, _, rfl, _, kit_ib, _, rfl, _, rfl, _, rfl, _, rfl, rfl, tt rfl⟩
      | bl i =>
        refine ⟨_, rfl, _, _, kit_bl, kit_bt, _, rfl, _, rfl, rfl, _, rfl, _, rfl, _, _, kit_bb, kit_bs, _, rfl, ?_⟩
        refine ⟨_, rfl, _, rfl, rfl, _, rfl, ?_⟩
        refine ite_d (fun _ => ?_) (fun e => absurd rfl e)
        exact ⟨_, rfl, _, kit_bb, _, rfl, _, kit_bb, rfl, _, rfl, _, rfl, rfl, _, rfl, rfl, rfl, hk⟩
      | str i =>
        refine ⟨_, rfl, _, _, kit_sl, kit_st, _, rfl, _, rfl, rfl, _, rfl, _, rfl, _, _, kit_sb, kit_ss, _, rfl, ?_⟩
        refine ⟨_, rfl, _, rfl, rfl, _, rfl, ?_⟩
        refine ite_d (fun _ => ?_) (fun e => absurd rfl e)
        exact ⟨_, rfl, _, kit_sb, _, rfl, _, kit_sb, rfl, _, rfl, _, rfl, rfl, _, rfl, rfl, rfl, hk⟩
      | _ => cases h
    · have fin : ∀ (ρ : List Slot), ρ.length = 4 → lcRun (g__law_same_1 (R__law_same m)) dYes (e__law_same_1 (R__law_same m)) (wipeS [.d x, .d x, .no, .no] [2, 3]) (pairs l l) [] n fun l' n1 => pAll [.lst l'] fun d => kk d n1 := fun ρ _ => by
        rw [pairs_self]
        refine lc_map (fun d => .tup [d, d]) (fun _ => .bl true) l (fun d hd n k' hk' => ?_) ?_
        · exact ⟨_, rfl, rfl, _, _, rfl, _, _, rfl, rfl, _, rfl, _, rfl, R__law_same.mk d (hf d hd) hk'⟩
        · refine ⟨l.map fun _ => true, by rw [List.map_map]; rfl, ?_⟩
          have e : (l.map fun _ => true).all id = true := by simp
          rw [e]
          exact hk
      have le : (pairs l l).length ≤ 1000 := by rw [pairs_self, List.length_map]; exact hlen
      rcases hx with rfl | rfl
      · refine ⟨_, rfl, _, _, kit_tl, kit_tt, _, rfl, ?_⟩
        refine ⟨_, rfl, _, kit_tl, _, rfl, _, kit_tl, rfl, _, rfl, ?_⟩
        refine ⟨_, rfl, _, kit_tt, _, rfl, _, kit_tt, rfl, _, rfl, ?_⟩
        refine ⟨_, rfl, _, _, rfl, rfl, _, rfl, _, _, rfl, rfl, rfl, _, rfl, ?_⟩
        refine ite_d (fun _ => ?_) (fun e => absurd rfl e)
        exact ⟨_, rfl, _, rfl, _, _, _, _, rfl, .inr ⟨rfl, rfl⟩, le, fin [.no, .no, .no, .no] rfl⟩
      · refine ⟨_, rfl, _, _, kit_ll, kit_lt, _, rfl, ?_⟩
        refine ⟨_, rfl, _, kit_ll, _, rfl, _, kit_ll, rfl, _, rfl, ?_⟩
        refine ⟨_, rfl, _, kit_lt, _, rfl, _, kit_lt, rfl, _, rfl, ?_⟩
        refine ⟨_, rfl, _, _, rfl, rfl, _, rfl, _, _, rfl, rfl, rfl, _, rfl, ?_⟩
        refine ite_d (fun _ => ?_) (fun e => absurd rfl e)
        exact ⟨_, rfl, _, rfl, _, _, _, _, rfl, .inl ⟨rfl, rfl⟩, le, fin [.no, .no, .no, .no] rfl⟩
theorem p__law_low : RdOk 4 2 R__law_low t__law_low := by
  intro ss n kk h hl
  cases h with
  | mk t b h1 h2 h =>
    have g := gc_pos (t := t) h1
    refine ⟨_, rfl, _, rfl, _, rfl, ?_⟩
    refine ⟨fun m ρ n' => ∃ x y : Int, ρ = [.d (.int t), .d (.int b), .d (.int x), .d (.int y)] ∧ n' = n ∧ 0 ≤ x ∧ 0 ≤ y ∧ m = y.toNat ∧ Nat.gcd x.natAbs y.natAbs = Nat.gcd t.natAbs b.natAbs, ⟨b.toNat, _, b, rfl, rfl, by split <;> omega, by omega, rfl, ?_⟩, ?_⟩
    · congr 1
      split <;> omega
    · rintro m ρ n' ⟨x, y, rfl, rfl, hx, hy, rfl, hg⟩
      refine ⟨_, rfl, rfl, _, rfl, ?_⟩
      refine ite_b (fun e => ?_) (fun e => ?_)
      · have hy0 : 0 < y := by
          have : y ≠ 0 := fun z => by subst z; simp [eqS] at e
          omega
        refine ⟨_, rfl, _, rfl, _, rfl, _, _, rfl, rfl, hy0, ?_⟩
        have l1 := Int.emod_lt_of_pos x hy0
        have l2 := Int.emod_nonneg x (show y ≠ 0 by omega)
        refine ⟨(x % y).toNat, by omega, y, x % y, rfl, rfl, by omega, l2, rfl, ?_⟩
        rw [← hg]
        have e1 : (x % y).natAbs = x.natAbs % y.natAbs := by
          have a1 : ((x.natAbs : Int)) = x := by omega
          have a2 : ((y.natAbs : Int)) = y := by omega
          have : ((x.natAbs % y.natAbs : Nat) : Int) = x % y := by first | rw [Int.natCast_emod, a1, a2] | rw [Int.ofNat_emod, a1, a2] | (push_cast; rw [a1, a2])
          omega
        rw [e1, Nat.gcd_comm y.natAbs, ← Nat.gcd_rec, Nat.gcd_comm]
      · have hy0 : y = 0 := by
          simp [eqS] at e
          exact e
        subst hy0
        have ex : x = gc t b := by
          unfold gc
          rw [← hg]
          simp
          omega
        subst ex
        have g2 : gc t b < 2 ^ 64 := by omega
        exact ⟨_, rfl, _, rfl, _, _, rfl, rfl, cdivw g.1 g2, _, rfl, _, rfl, _, _, rfl, rfl, cdivw g.1 g2, h⟩
theorem p__law_sum : RdOk 2 2 R__law_sum (t__law_sum R__law_low) := by
  intro ss n kk h hl
  cases h with
  | mk a b c d h1 h2 s1 s2 s3 s4 h =>
    obtain ⟨u1, v1⟩ := s1
    obtain ⟨u2, v2⟩ := s2
    obtain ⟨u3, v3⟩ := s3
    obtain ⟨u4, v4⟩ := s4
    repeat (first | refine ⟨_, rfl, ?_⟩ | refine ⟨Nat.le_of_ble_eq_true rfl, ?_⟩ | refine ⟨_, _, rfl, rfl, ?_⟩ | refine ⟨_, _, _, rfl, rfl, rfl, ?_⟩ | refine ⟨rfl, ?_⟩ | refine ⟨_, _, rfl, ?_⟩ | refine ⟨_, _, _, rfl, ?_⟩ | refine ⟨.inl ⟨by omega, by omega⟩, ?_⟩ | refine ⟨.inr ⟨by omega, by omega⟩, ?_⟩)
    refine R__law_low.mk _ _ (Int.mul_pos h1 h2) (Int.lt_of_le_of_lt (Int.mul_le_mul v2 v4 (by omega) (by omega)) (by decide)) h
theorem p__law_below : RdOk 2 2 R__law_below t__law_below := by
  intro ss n kk h hl
  cases h with
  | mk a b c d h1 h2 h =>
    obtain ⟨u1, v1⟩ := h1
    obtain ⟨u2, v2⟩ := h2
    repeat (first | refine ⟨_, rfl, ?_⟩ | refine ⟨Nat.le_of_ble_eq_true rfl, ?_⟩ | refine ⟨_, _, rfl, rfl, ?_⟩ | refine ⟨_, _, _, rfl, rfl, rfl, ?_⟩ | refine ⟨rfl, ?_⟩ | refine ⟨_, _, rfl, ?_⟩ | refine ⟨_, _, _, rfl, ?_⟩ | refine ⟨.inl ⟨by omega, by omega⟩, ?_⟩ | refine ⟨.inr ⟨by omega, by omega⟩, ?_⟩)
    exact h
theorem p__law_of : RdOk 2 2 R__law_of (t__law_of R__law_take) := by
  intro ss n kk h hl
  cases h with
  | mk x l hx h1 h2 h3 h =>
    refine ⟨_, rfl, rfl, _, rfl, _, _, rfl, hx, ?_⟩
    refine R__law_take.mk _ (by omega) (by omega) h3 fun i i0 i1 => ?_
    obtain ⟨d, hd⟩ : ∃ d, l[i.toNat]? = some d := ⟨_, List.getElem?_eq_getElem (by omega)⟩
    have ha : atI l i = some d := by
      have := atL hd
      rw [show ((i.toNat : Nat) : Int) = i from by omega] at this
      exact this
    exact ⟨_, _, _, hx, rfl, ha, h d (List.mem_of_getElem? hd)⟩
theorem p__law_drawn_tether : RdOk 3 1 R__law_drawn_tether (t__law_drawn_tether R__law_take) := by
  intro ss n kk h hl
  cases h with
  | mk h3 h =>
    refine ⟨rfl, R__law_take.mk _ (by decide) (by decide) (by omega) fun a a0 a1 => ?_⟩
    refine ⟨_, _, rfl, rfl, rfl, R__law_take.mk _ (by decide) (by decide) (by omega) fun c c0 c1 => ?_⟩
    refine ⟨_, _, rfl, rfl, _, rfl, _, rfl, _, rfl, rfl, R__law_take.mk _ (by decide) (by decide) (by omega) fun b b0 b1 => ?_⟩
    refine ⟨_, _, rfl, rfl, rfl, R__law_take.mk _ (by decide) (by decide) (by omega) fun d d0 d1 => ?_⟩
    refine ⟨_, rfl, _, _, rfl, rfl, ?_⟩
    exact h ⟨a - 12, c - 4, a - 12 + b, d - (c - 4)⟩ (by unfold Te.Sml; refine ⟨?_, ?_, ?_, ?_, ?_, ?_⟩ <;> simp only <;> omega) _ (by omega)
theorem p__law_number : RdOk 3 3 R__law_number (t__law_number R__law_low R__law_take) := by
  intro ss n kk h hl
  cases h with
  | mk a l h1 h2 h3 h =>
    refine ⟨_, rfl, rfl, _, rfl, _, _, rfl, rfl, .inl ⟨by decide, by decide⟩, R__law_take.mk _ (by omega) (by omega) (by omega) fun x x0 x1 => ?_⟩
    refine ⟨_, _, rfl, rfl, rfl, R__law_take.mk _ (by decide) (by decide) (by omega) fun y y0 y1 => ?_⟩
    refine ⟨_, _, rfl, rfl, R__law_low.mk _ _ (by omega) (by omega) ?_⟩
    have g := lw_b (t := l + x) (b := 1 + y) (M := 100) (by omega) (by decide) (by omega) (by omega)
    exact h _ _ ⟨g.1, g.2.1, g.2.2.1, by omega⟩ _ (by omega)
end DL

namespace DL
open PySem PySem.Spec PyProof.Rows L2
theorem p__law_half : RdOk 6 2 R__law_half t__law_half := by
  intro ss n kk h hl
  cases h with
  | mk m i h1 h =>
    have : i = 0 ∨ i = 1 := by omega
    rcases this with rfl | rfl
    · repeat (first | refine ⟨_, rfl, ?_⟩ | refine ⟨Nat.le_of_ble_eq_true rfl, ?_⟩ | refine ⟨_, _, rfl, rfl, ?_⟩ | refine ⟨_, _, _, rfl, rfl, rfl, ?_⟩ | refine ⟨rfl, ?_⟩ | refine ⟨_, _, rfl, ?_⟩ | refine ⟨_, _, _, rfl, ?_⟩ | refine ⟨.inl ⟨by omega, by omega⟩, ?_⟩ | refine ⟨.inr ⟨by omega, by omega⟩, ?_⟩)
      exact h
    · repeat (first | refine ⟨_, rfl, ?_⟩ | refine ⟨Nat.le_of_ble_eq_true rfl, ?_⟩ | refine ⟨_, _, rfl, rfl, ?_⟩ | refine ⟨_, _, _, rfl, rfl, rfl, ?_⟩ | refine ⟨rfl, ?_⟩ | refine ⟨_, _, rfl, ?_⟩ | refine ⟨_, _, _, rfl, ?_⟩ | refine ⟨.inl ⟨by omega, by omega⟩, ?_⟩ | refine ⟨.inr ⟨by omega, by omega⟩, ?_⟩)
      exact h
theorem p__law_plan_half : RdOk 2 1 R__law_plan_half (t__law_plan_half R__law_half) := by
  intro ss n kk h hl
  cases h with
  | mk p l1 h =>
    refine ⟨_, rfl, _, rfl, _, rfl, ?_⟩
    rw [← List.map_reverse]
    refine ⟨by rw [List.length_map, List.length_reverse]; omega, ?_⟩
    have h' : kk (.tup ((p.reverse.map Nm.half).map Nm.t)) n := h
    rw [List.map_map] at h'
    refine lc_map Nm.t (fun m => m.half.t) p.reverse (fun m hm n k' hk => ?_) ⟨_, rfl, h'⟩
    repeat (first | refine ⟨_, rfl, ?_⟩ | refine ⟨Nat.le_of_ble_eq_true rfl, ?_⟩ | refine ⟨_, _, rfl, rfl, ?_⟩ | refine ⟨_, _, _, rfl, rfl, rfl, ?_⟩ | refine ⟨rfl, ?_⟩ | refine ⟨_, _, rfl, ?_⟩ | refine ⟨_, _, _, rfl, ?_⟩ | refine ⟨.inl ⟨by omega, by omega⟩, ?_⟩ | refine ⟨.inr ⟨by omega, by omega⟩, ?_⟩)
    refine R__law_half.mk m 0 (by decide) ?_
    repeat (first | refine ⟨_, rfl, ?_⟩ | refine ⟨Nat.le_of_ble_eq_true rfl, ?_⟩ | refine ⟨_, _, rfl, rfl, ?_⟩ | refine ⟨_, _, _, rfl, rfl, rfl, ?_⟩ | refine ⟨rfl, ?_⟩ | refine ⟨_, _, rfl, ?_⟩ | refine ⟨_, _, _, rfl, ?_⟩ | refine ⟨.inl ⟨by omega, by omega⟩, ?_⟩ | refine ⟨.inr ⟨by omega, by omega⟩, ?_⟩)
    refine R__law_half.mk m 1 (by decide) ?_
    repeat (first | refine ⟨_, rfl, ?_⟩ | refine ⟨Nat.le_of_ble_eq_true rfl, ?_⟩ | refine ⟨_, _, rfl, rfl, ?_⟩ | refine ⟨_, _, _, rfl, rfl, rfl, ?_⟩ | refine ⟨rfl, ?_⟩ | refine ⟨_, _, rfl, ?_⟩ | refine ⟨_, _, _, rfl, ?_⟩ | refine ⟨.inl ⟨by omega, by omega⟩, ?_⟩ | refine ⟨.inr ⟨by omega, by omega⟩, ?_⟩)
    exact hk
theorem p__law_tie_by : RdOk 8 4 R__law_tie_by t__law_tie_by := by
  intro ss n kk h hl
  cases h with
  | mk e m o s s1 s2 h =>
    obtain ⟨u1, v1⟩ := s1
    obtain ⟨u2, v2⟩ := s2
    repeat (first | refine ⟨_, rfl, ?_⟩ | refine ⟨Nat.le_of_ble_eq_true rfl, ?_⟩ | refine ⟨_, _, rfl, rfl, ?_⟩ | refine ⟨_, _, _, rfl, rfl, rfl, ?_⟩ | refine ⟨rfl, ?_⟩ | refine ⟨_, _, rfl, ?_⟩ | refine ⟨_, _, _, rfl, ?_⟩ | refine ⟨.inl ⟨by omega, by omega⟩, ?_⟩ | refine ⟨.inr ⟨by omega, by omega⟩, ?_⟩)
    exact h
theorem p__law_plan_by : RdOk 10 5 R__law_plan_by (t__law_plan_by R__law_tie_by) := by
  intro ss n kk h hl
  cases h with
  | mk p a x y s l1 s1 s2 h =>
    have s1' := s1
    have s2' := s2
    obtain ⟨u1, v1⟩ := s1
    obtain ⟨u2, v2⟩ := s2
    have loop : ∀ (l : List Nm) (acc : List D) (s6 s7 s8 s9 : Slot) (n : Nat) (G : DEnds), acc.length + l.length ≤ 16 → (∀ s6 s7 s8 s9, G.nx [.d (pT p), .d (.int a), .d (.int x), .d (.int y), .d (.int s), .own (acc ++ l.map fun m => (m.by a x y s).t), s6, s7, s8, s9] n) →
        forRun (g__law_plan_by_L1 R__law_tie_by) (t__law_plan_by_L1 R__law_tie_by) G (l.map Nm.t) [.d (pT p), .d (.int a), .d (.int x), .d (.int y), .d (.int s), .own acc, s6, s7, s8, s9] n := fun l => by
      induction l with
      | nil =>
        intro acc s3 s4 s5 s6 n G _ hG
        have := hG s3 s4 s5 s6
        rw [List.map_nil, List.append_nil] at this
        exact this
      | cons m l ih =>
        intro acc s3 s4 s5 s6 n G ha hG
        rw [List.length_cons] at ha
        refine ⟨_, rfl, rfl, _, _, rfl, _, _, rfl, _, _, rfl, _, _, rfl, rfl, _, rfl, by omega, _, rfl, _, rfl, _, _, rfl, rfl, .inl ⟨by omega, by omega⟩, _, rfl, _, rfl, _, _, rfl, rfl, .inl ⟨by omega, by omega⟩, _, rfl, _, rfl, _, rfl, _, rfl, R__law_tie_by.mk _ _ _ _ s1' s2' ⟨_, rfl, _, rfl, _, rfl, _, rfl, R__law_tie_by.mk _ _ _ _ s1' s2' ?_⟩⟩
        refine ih (acc ++ [_]) _ _ _ _ n G (by rw [List.length_append]; show acc.length + 1 + _ ≤ 16; omega) fun s3 s4 s5 s6 => ?_
        have := hG s3 s4 s5 s6
        rw [List.map_cons, app_cons] at this
        exact this
    refine ⟨_, rfl, _, rfl, ?_⟩
    refine loop p [] _ _ _ _ n _ (by show 0 + _ ≤ 16; omega) fun s3 s4 s5 s6 => ?_
    have h' : kk (.tup ((p.map fun m => m.by a x y s).map Nm.t)) n := h
    rw [List.map_map] at h'
    exact ⟨_, rfl, _, rfl, _, rfl, h'⟩
theorem p__law_drawn_plan : RdOk 5 1 R__law_drawn_plan (t__law_drawn_plan R__law_take R__law_drawn_tether) := by
  intro ss n0 kk h hl
  cases h with
  | mk h3 h =>
    have loop : ∀ (js : List D) (acc : List Nm) (s2 s3 s4 : Slot) (n : Nat) (G : DEnds), acc.length + js.length ≤ 6 → n + 10 * js.length ≤ n0 + 61 → (∀ m, m ∈ acc → m.Sml) →
        (∀ (p : List Nm) s2 s3 s4 n', p.length = acc.length + js.length → (∀ m, m ∈ p → m.Sml) → n' ≤ n0 + 61 → G.nx [.tin, .own (p.map Nm.t), s2, s3, s4] n') →
        forRun (g__law_drawn_plan_L1 R__law_take R__law_drawn_tether) (t__law_drawn_plan_L1 R__law_take R__law_drawn_tether) G js [.tin, .own (acc.map Nm.t), s2, s3, s4] n := fun js => by
      induction js with
      | nil =>
        intro acc s2 s3 s4 n G _ hn hs hG
        simp only [List.length_nil] at hn
        exact hG acc s2 s3 s4 n rfl hs (by omega)
      | cons j js ih =>
        intro acc s2 s3 s4 n G ha hn hs hG
        rw [List.length_cons] at ha hn
        refine ⟨rfl, R__law_drawn_tether.mk (by omega) fun ex hex n1 hn1 => ?_⟩
        refine ⟨rfl, R__law_drawn_tether.mk (by omega) fun ey hey n2 hn2 => ?_⟩
        refine ⟨_, rfl, by rw [List.length_map]; omega, rfl, R__law_take.mk _ (by decide) (by decide) (by omega) fun w w0 w1 => ?_⟩
        refine ⟨_, _, rfl, rfl, rfl, R__law_take.mk _ (by decide) (by decide) (by omega) fun q q0 q1 => ?_⟩
        refine ⟨_, _, rfl, rfl, _, rfl, _, rfl, ?_⟩
        have e : [Slot.tin, Slot.own ((acc ++ [(⟨1 + w, 1 + q, ex, ey⟩ : Nm)]).map Nm.t), Slot.d j, Slot.d ex.t, Slot.d ey.t] = [Slot.tin, Slot.own (acc.map Nm.t ++ [D.tup [.int (1 + w), .int (1 + q), ex.t, ey.t]]), Slot.d j, Slot.d ex.t, Slot.d ey.t] := by
          rw [List.map_append]
          rfl
        have go := ih (acc ++ [(⟨1 + w, 1 + q, ex, ey⟩ : Nm)]) (.d j) (.d ex.t) (.d ey.t) (n2 + 1 + 1) G (by rw [List.length_append]; show acc.length + 1 + _ ≤ 6; omega) (by omega) (fun m hm => by
          rcases List.mem_append.mp hm with hm | hm
          · exact hs m hm
          · rw [List.mem_singleton.mp hm]
            exact ⟨⟨by show (1 : Int) ≤ 1 + w; omega, by show 1 + w ≤ 100; omega⟩, ⟨by show (1 : Int) ≤ 1 + q; omega, by show 1 + q ≤ 100; omega⟩, hex, hey⟩) fun p s2 s3 s4 n' hp => hG p s2 s3 s4 n' (by simp only [List.length_append, List.length_cons, List.length_nil] at hp ⊢; omega)
        rw [e] at go
        exact go
    refine ⟨rfl, R__law_take.mk _ (by decide) (by decide) (by omega) fun q q0 q1 => ?_⟩
    refine ⟨_, _, rfl, rfl, _, rfl, by omega, by omega, ?_⟩
    have el : (ups 0 (1 + q).toNat).length = (1 + q).toNat := by simp [ups]
    refine loop (ups 0 (1 + q).toNat) [] _ _ _ (n0 + 1) _ (by rw [el]; show 0 + _ ≤ 6; omega) (by rw [el]; omega) (fun m hm => by simp at hm) fun p s2 s3 s4 n' hp hs hn => ?_
    rw [el] at hp
    refine ⟨_, rfl, _, rfl, _, rfl, ?_⟩
    exact h p ⟨by rw [hp]; show 0 < 0 + _; omega, by rw [hp]; show 0 + _ ≤ 6; omega, hs⟩ n' hn
end DL

namespace DL
open PySem PySem.Spec PyProof.Rows L2
theorem notT {b : Bool} (h : (!b) = true) : b = false := by
  cases b with
  | true => cases h
  | false => rfl
theorem notF {b : Bool} (h : (!b) = false) : b = true := by
  cases b with
  | true => rfl
  | false => cases h
theorem ax0 (m : Nm) : m.ax 0 = m.x := rfl
theorem ax1 (m : Nm) : m.ax 1 = m.y := rfl
theorem p__law_reach : RdOk 7 3 R__law_reach (t__law_reach R__law_low) := by
  intro ss n kk h hl
  cases h with
  | mk m i u v h1 z h =>
    obtain ⟨b1, b2, b3, b4⟩ := z
    have : i = 0 ∨ i = 1 := by omega
    rcases this with rfl | rfl
    · repeat (first | refine ⟨_, rfl, ?_⟩ | refine ⟨Nat.le_of_ble_eq_true rfl, ?_⟩ | refine ⟨_, _, rfl, rfl, ?_⟩ | refine ⟨_, _, _, rfl, rfl, rfl, ?_⟩ | refine ⟨rfl, ?_⟩ | refine ⟨_, _, rfl, ?_⟩ | refine ⟨_, _, _, rfl, ?_⟩ | refine ⟨.inl ⟨by omega, by omega⟩, ?_⟩ | refine ⟨.inr ⟨by omega, by omega⟩, ?_⟩)
      refine R__law_low.mk _ _ b3 (by omega) ?_
      repeat (first | refine ⟨_, rfl, ?_⟩ | refine ⟨Nat.le_of_ble_eq_true rfl, ?_⟩ | refine ⟨_, _, rfl, rfl, ?_⟩ | refine ⟨_, _, _, rfl, rfl, rfl, ?_⟩ | refine ⟨rfl, ?_⟩ | refine ⟨_, _, rfl, ?_⟩ | refine ⟨_, _, _, rfl, ?_⟩ | refine ⟨.inl ⟨by omega, by omega⟩, ?_⟩ | refine ⟨.inr ⟨by omega, by omega⟩, ?_⟩)
      exact R__law_low.mk _ _ b3 (by omega) h
    · repeat (first | refine ⟨_, rfl, ?_⟩ | refine ⟨Nat.le_of_ble_eq_true rfl, ?_⟩ | refine ⟨_, _, rfl, rfl, ?_⟩ | refine ⟨_, _, _, rfl, rfl, rfl, ?_⟩ | refine ⟨rfl, ?_⟩ | refine ⟨_, _, rfl, ?_⟩ | refine ⟨_, _, _, rfl, ?_⟩ | refine ⟨.inl ⟨by omega, by omega⟩, ?_⟩ | refine ⟨.inr ⟨by omega, by omega⟩, ?_⟩)
      refine R__law_low.mk _ _ b3 (by omega) ?_
      repeat (first | refine ⟨_, rfl, ?_⟩ | refine ⟨Nat.le_of_ble_eq_true rfl, ?_⟩ | refine ⟨_, _, rfl, rfl, ?_⟩ | refine ⟨_, _, _, rfl, rfl, rfl, ?_⟩ | refine ⟨rfl, ?_⟩ | refine ⟨_, _, rfl, ?_⟩ | refine ⟨_, _, _, rfl, ?_⟩ | refine ⟨.inl ⟨by omega, by omega⟩, ?_⟩ | refine ⟨.inr ⟨by omega, by omega⟩, ?_⟩)
      exact R__law_low.mk _ _ b3 (by omega) h
theorem p__law_is_let : RdOk 6 3 R__law_is_let (t__law_is_let R__law_reach R__law_below) := by
  intro ss n kk h hl
  cases h with
  | mk m u v s z hs ht h =>
    obtain ⟨⟨a1, a2, a3, a4⟩, ⟨c1, c2, c3, c4⟩⟩ := hs
    have bd : ∀ e : Te, e = m.x ∨ e = m.y → Sm (lwT (u * e.a - e.c * v) v) ∧ Sm (lwT (u * e.b + e.d * v) v) := fun e he => by
      have r := reach_b z (ht e he)
      have g1 := lw_b z.b1 (M := 2000000) (by decide) r.1.1 r.1.2
      have g2 := lw_b z.b1 (M := 2000000) (by decide) r.2.1 r.2.2
      exact ⟨⟨by omega, by omega⟩, ⟨by omega, by omega⟩⟩
    obtain ⟨bx1, bx2⟩ := bd m.x (.inl rfl)
    obtain ⟨by1, by2⟩ := bd m.y (.inr rfl)
    have leaf : ∀ b : Bool, letB m u v s = b → kk (.bl b) n := fun b e => by rw [← e]; exact h
    repeat (first | refine ⟨_, rfl, ?_⟩ | refine ⟨Nat.le_of_ble_eq_true rfl, ?_⟩ | refine ⟨_, _, rfl, rfl, ?_⟩ | refine ⟨_, _, _, rfl, rfl, rfl, ?_⟩ | refine ⟨rfl, ?_⟩ | refine ⟨_, _, rfl, ?_⟩ | refine ⟨_, _, _, rfl, ?_⟩ | refine ⟨.inl ⟨by omega, by omega⟩, ?_⟩ | refine ⟨.inr ⟨by omega, by omega⟩, ?_⟩)
    refine R__law_reach.mk m 0 u v (by decide) z ?_
    repeat (first | refine ⟨_, rfl, ?_⟩ | refine ⟨Nat.le_of_ble_eq_true rfl, ?_⟩ | refine ⟨_, _, rfl, rfl, ?_⟩ | refine ⟨_, _, _, rfl, rfl, rfl, ?_⟩ | refine ⟨rfl, ?_⟩ | refine ⟨_, _, rfl, ?_⟩ | refine ⟨_, _, _, rfl, ?_⟩ | refine ⟨.inl ⟨by omega, by omega⟩, ?_⟩ | refine ⟨.inr ⟨by omega, by omega⟩, ?_⟩)
    refine R__law_below.mk _ _ _ _ ⟨by omega, by omega⟩ bx1 ?_
    repeat (first | refine ⟨_, rfl, ?_⟩ | refine ⟨Nat.le_of_ble_eq_true rfl, ?_⟩ | refine ⟨_, _, rfl, rfl, ?_⟩ | refine ⟨_, _, _, rfl, rfl, rfl, ?_⟩ | refine ⟨rfl, ?_⟩ | refine ⟨_, _, rfl, ?_⟩ | refine ⟨_, _, _, rfl, ?_⟩ | refine ⟨.inl ⟨by omega, by omega⟩, ?_⟩ | refine ⟨.inr ⟨by omega, by omega⟩, ?_⟩)
    refine ite_b (fun e1 => ?_) (fun e1 => ?_) <;> simp only [ax0, ax1] at e1
    · exact leaf false (by unfold letB outB; rw [e1]; rfl)
    · repeat (first | refine ⟨_, rfl, ?_⟩ | refine ⟨Nat.le_of_ble_eq_true rfl, ?_⟩ | refine ⟨_, _, rfl, rfl, ?_⟩ | refine ⟨_, _, _, rfl, rfl, rfl, ?_⟩ | refine ⟨rfl, ?_⟩ | refine ⟨_, _, rfl, ?_⟩ | refine ⟨_, _, _, rfl, ?_⟩ | refine ⟨.inl ⟨by omega, by omega⟩, ?_⟩ | refine ⟨.inr ⟨by omega, by omega⟩, ?_⟩)
      refine R__law_below.mk _ _ _ _ bx2 ⟨by omega, by omega⟩ ?_
      repeat (first | refine ⟨_, rfl, ?_⟩ | refine ⟨Nat.le_of_ble_eq_true rfl, ?_⟩ | refine ⟨_, _, rfl, rfl, ?_⟩ | refine ⟨_, _, _, rfl, rfl, rfl, ?_⟩ | refine ⟨rfl, ?_⟩ | refine ⟨_, _, rfl, ?_⟩ | refine ⟨_, _, _, rfl, ?_⟩ | refine ⟨.inl ⟨by omega, by omega⟩, ?_⟩ | refine ⟨.inr ⟨by omega, by omega⟩, ?_⟩)
      refine ite_b (fun e2 => ?_) (fun e2 => ?_) <;> simp only [ax0, ax1] at e2
      · exact leaf false (by unfold letB outB; rw [e1, e2]; rfl)
      · repeat (first | refine ⟨_, rfl, ?_⟩ | refine ⟨Nat.le_of_ble_eq_true rfl, ?_⟩ | refine ⟨_, _, rfl, rfl, ?_⟩ | refine ⟨_, _, _, rfl, rfl, rfl, ?_⟩ | refine ⟨rfl, ?_⟩ | refine ⟨_, _, rfl, ?_⟩ | refine ⟨_, _, _, rfl, ?_⟩ | refine ⟨.inl ⟨by omega, by omega⟩, ?_⟩ | refine ⟨.inr ⟨by omega, by omega⟩, ?_⟩)
        refine R__law_reach.mk m 1 u v (by decide) z ?_
        repeat (first | refine ⟨_, rfl, ?_⟩ | refine ⟨Nat.le_of_ble_eq_true rfl, ?_⟩ | refine ⟨_, _, rfl, rfl, ?_⟩ | refine ⟨_, _, _, rfl, rfl, rfl, ?_⟩ | refine ⟨rfl, ?_⟩ | refine ⟨_, _, rfl, ?_⟩ | refine ⟨_, _, _, rfl, ?_⟩ | refine ⟨.inl ⟨by omega, by omega⟩, ?_⟩ | refine ⟨.inr ⟨by omega, by omega⟩, ?_⟩)
        refine R__law_below.mk _ _ _ _ ⟨by omega, by omega⟩ by1 ?_
        repeat (first | refine ⟨_, rfl, ?_⟩ | refine ⟨Nat.le_of_ble_eq_true rfl, ?_⟩ | refine ⟨_, _, rfl, rfl, ?_⟩ | refine ⟨_, _, _, rfl, rfl, rfl, ?_⟩ | refine ⟨rfl, ?_⟩ | refine ⟨_, _, rfl, ?_⟩ | refine ⟨_, _, _, rfl, ?_⟩ | refine ⟨.inl ⟨by omega, by omega⟩, ?_⟩ | refine ⟨.inr ⟨by omega, by omega⟩, ?_⟩)
        refine ite_b (fun e3 => ?_) (fun e3 => ?_) <;> simp only [ax0, ax1] at e3
        · exact leaf false (by unfold letB outB; rw [e1, e2, e3]; rfl)
        · repeat (first | refine ⟨_, rfl, ?_⟩ | refine ⟨Nat.le_of_ble_eq_true rfl, ?_⟩ | refine ⟨_, _, rfl, rfl, ?_⟩ | refine ⟨_, _, _, rfl, rfl, rfl, ?_⟩ | refine ⟨rfl, ?_⟩ | refine ⟨_, _, rfl, ?_⟩ | refine ⟨_, _, _, rfl, ?_⟩ | refine ⟨.inl ⟨by omega, by omega⟩, ?_⟩ | refine ⟨.inr ⟨by omega, by omega⟩, ?_⟩)
          refine R__law_below.mk _ _ _ _ by2 ⟨by omega, by omega⟩ ?_
          repeat (first | refine ⟨_, rfl, ?_⟩ | refine ⟨Nat.le_of_ble_eq_true rfl, ?_⟩ | refine ⟨_, _, rfl, rfl, ?_⟩ | refine ⟨_, _, _, rfl, rfl, rfl, ?_⟩ | refine ⟨rfl, ?_⟩ | refine ⟨_, _, rfl, ?_⟩ | refine ⟨_, _, _, rfl, ?_⟩ | refine ⟨.inl ⟨by omega, by omega⟩, ?_⟩ | refine ⟨.inr ⟨by omega, by omega⟩, ?_⟩)
          refine ite_b (fun e4 => ?_) (fun e4 => ?_) <;> simp only [ax0, ax1] at e4
          · exact leaf false (by unfold letB outB; rw [e1, e2, e3, e4]; rfl)
          · exact leaf true (by unfold letB outB; rw [e1, e2, e3, e4]; rfl)
theorem p__law_covers : RdOk 6 4 R__law_covers (t__law_covers R__law_sum R__law_below) := by
  intro ss n kk h hl
  cases h with
  | mk m o s r okm oko hs hr h =>
    have smm := okm.sm
    have smo := oko.sm
    obtain ⟨q1, q2, q3⟩ := place1 ⟨smm.1, okm.w⟩ hs.f0
    obtain ⟨q4, q5, q6⟩ := place1 ⟨smm.2, okm.h⟩ hs.f1
    obtain ⟨q7, q8, q9⟩ := place1 ⟨smo.1, oko.w⟩ hr.f0
    obtain ⟨q10, q11, q12⟩ := place1 ⟨smo.2, oko.h⟩ hr.f1
    have g1 := lw_b q1 (by decide) q2 q3
    have g2 := lw_b q4 (by decide) q5 q6
    have g3 := lw_b q7 (by decide) q8 q9
    have g4 := lw_b q10 (by decide) q11 q12
    obtain ⟨⟨a1, a2, a3, a4⟩, ⟨c1, c2, c3, c4⟩⟩ := hs
    obtain ⟨⟨d1, d2, d3, d4⟩, ⟨e1, e2, e3, e4⟩⟩ := hr
    have leaf : ∀ b : Bool, covB m s o r = b → kk (.bl b) n := fun b e => by rw [← e]; exact h
    repeat (first | refine ⟨_, rfl, ?_⟩ | refine ⟨Nat.le_of_ble_eq_true rfl, ?_⟩ | refine ⟨_, _, rfl, rfl, ?_⟩ | refine ⟨_, _, _, rfl, rfl, rfl, ?_⟩ | refine ⟨rfl, ?_⟩ | refine ⟨_, _, rfl, ?_⟩ | refine ⟨_, _, _, rfl, ?_⟩ | refine ⟨.inl ⟨by omega, by omega⟩, ?_⟩ | refine ⟨.inr ⟨by omega, by omega⟩, ?_⟩)
    refine R__law_sum.mk _ _ _ _ a3 (by decide) ⟨by omega, by omega⟩ ⟨by omega, by omega⟩ smm.1 ⟨by decide, by decide⟩ ?_
    repeat (first | refine ⟨_, rfl, ?_⟩ | refine ⟨Nat.le_of_ble_eq_true rfl, ?_⟩ | refine ⟨_, _, rfl, rfl, ?_⟩ | refine ⟨_, _, _, rfl, rfl, rfl, ?_⟩ | refine ⟨rfl, ?_⟩ | refine ⟨_, _, rfl, ?_⟩ | refine ⟨_, _, _, rfl, ?_⟩ | refine ⟨.inl ⟨by omega, by omega⟩, ?_⟩ | refine ⟨.inr ⟨by omega, by omega⟩, ?_⟩)
    refine R__law_sum.mk _ _ _ _ d3 (by decide) ⟨by omega, by omega⟩ ⟨by omega, by omega⟩ smo.1 ⟨by decide, by decide⟩ ?_
    repeat (first | refine ⟨_, rfl, ?_⟩ | refine ⟨Nat.le_of_ble_eq_true rfl, ?_⟩ | refine ⟨_, _, rfl, rfl, ?_⟩ | refine ⟨_, _, _, rfl, rfl, rfl, ?_⟩ | refine ⟨rfl, ?_⟩ | refine ⟨_, _, rfl, ?_⟩ | refine ⟨_, _, _, rfl, ?_⟩ | refine ⟨.inl ⟨by omega, by omega⟩, ?_⟩ | refine ⟨.inr ⟨by omega, by omega⟩, ?_⟩)
    refine R__law_below.mk _ _ _ _ ⟨by omega, by omega⟩ ⟨by omega, by omega⟩ ?_
    repeat (first | refine ⟨_, rfl, ?_⟩ | refine ⟨Nat.le_of_ble_eq_true rfl, ?_⟩ | refine ⟨_, _, rfl, rfl, ?_⟩ | refine ⟨_, _, _, rfl, rfl, rfl, ?_⟩ | refine ⟨rfl, ?_⟩ | refine ⟨_, _, rfl, ?_⟩ | refine ⟨_, _, _, rfl, ?_⟩ | refine ⟨.inl ⟨by omega, by omega⟩, ?_⟩ | refine ⟨.inr ⟨by omega, by omega⟩, ?_⟩)
    refine ite_b (fun z1 => ?_) (fun z1 => ?_)
    · exact leaf false (by unfold covB cov1; rw [notT z1]; rfl)
    · have z1 := notF z1
      repeat (first | refine ⟨_, rfl, ?_⟩ | refine ⟨Nat.le_of_ble_eq_true rfl, ?_⟩ | refine ⟨_, _, rfl, rfl, ?_⟩ | refine ⟨_, _, _, rfl, rfl, rfl, ?_⟩ | refine ⟨rfl, ?_⟩ | refine ⟨_, _, rfl, ?_⟩ | refine ⟨_, _, _, rfl, ?_⟩ | refine ⟨.inl ⟨by omega, by omega⟩, ?_⟩ | refine ⟨.inr ⟨by omega, by omega⟩, ?_⟩)
      refine R__law_below.mk _ _ _ _ ⟨by omega, by omega⟩ ⟨by omega, by omega⟩ ?_
      repeat (first | refine ⟨_, rfl, ?_⟩ | refine ⟨Nat.le_of_ble_eq_true rfl, ?_⟩ | refine ⟨_, _, rfl, rfl, ?_⟩ | refine ⟨_, _, _, rfl, rfl, rfl, ?_⟩ | refine ⟨rfl, ?_⟩ | refine ⟨_, _, rfl, ?_⟩ | refine ⟨_, _, _, rfl, ?_⟩ | refine ⟨.inl ⟨by omega, by omega⟩, ?_⟩ | refine ⟨.inr ⟨by omega, by omega⟩, ?_⟩)
      refine ite_b (fun z2 => ?_) (fun z2 => ?_)
      · exact leaf false (by unfold covB cov1; rw [z1, notT z2]; rfl)
      · have z2 := notF z2
        repeat (first | refine ⟨_, rfl, ?_⟩ | refine ⟨Nat.le_of_ble_eq_true rfl, ?_⟩ | refine ⟨_, _, rfl, rfl, ?_⟩ | refine ⟨_, _, _, rfl, rfl, rfl, ?_⟩ | refine ⟨rfl, ?_⟩ | refine ⟨_, _, rfl, ?_⟩ | refine ⟨_, _, _, rfl, ?_⟩ | refine ⟨.inl ⟨by omega, by omega⟩, ?_⟩ | refine ⟨.inr ⟨by omega, by omega⟩, ?_⟩)
        refine R__law_sum.mk _ _ _ _ c3 (by decide) ⟨by omega, by omega⟩ ⟨by omega, by omega⟩ smm.2 ⟨by decide, by decide⟩ ?_
        repeat (first | refine ⟨_, rfl, ?_⟩ | refine ⟨Nat.le_of_ble_eq_true rfl, ?_⟩ | refine ⟨_, _, rfl, rfl, ?_⟩ | refine ⟨_, _, _, rfl, rfl, rfl, ?_⟩ | refine ⟨rfl, ?_⟩ | refine ⟨_, _, rfl, ?_⟩ | refine ⟨_, _, _, rfl, ?_⟩ | refine ⟨.inl ⟨by omega, by omega⟩, ?_⟩ | refine ⟨.inr ⟨by omega, by omega⟩, ?_⟩)
        refine R__law_sum.mk _ _ _ _ e3 (by decide) ⟨by omega, by omega⟩ ⟨by omega, by omega⟩ smo.2 ⟨by decide, by decide⟩ ?_
        repeat (first | refine ⟨_, rfl, ?_⟩ | refine ⟨Nat.le_of_ble_eq_true rfl, ?_⟩ | refine ⟨_, _, rfl, rfl, ?_⟩ | refine ⟨_, _, _, rfl, rfl, rfl, ?_⟩ | refine ⟨rfl, ?_⟩ | refine ⟨_, _, rfl, ?_⟩ | refine ⟨_, _, _, rfl, ?_⟩ | refine ⟨.inl ⟨by omega, by omega⟩, ?_⟩ | refine ⟨.inr ⟨by omega, by omega⟩, ?_⟩)
        refine R__law_below.mk _ _ _ _ ⟨by omega, by omega⟩ ⟨by omega, by omega⟩ ?_
        repeat (first | refine ⟨_, rfl, ?_⟩ | refine ⟨Nat.le_of_ble_eq_true rfl, ?_⟩ | refine ⟨_, _, rfl, rfl, ?_⟩ | refine ⟨_, _, _, rfl, rfl, rfl, ?_⟩ | refine ⟨rfl, ?_⟩ | refine ⟨_, _, rfl, ?_⟩ | refine ⟨_, _, _, rfl, ?_⟩ | refine ⟨.inl ⟨by omega, by omega⟩, ?_⟩ | refine ⟨.inr ⟨by omega, by omega⟩, ?_⟩)
        refine ite_b (fun z3 => ?_) (fun z3 => ?_)
        · exact leaf false (by unfold covB cov1; rw [z1, z2, notT z3]; rfl)
        · have z3 := notF z3
          repeat (first | refine ⟨_, rfl, ?_⟩ | refine ⟨Nat.le_of_ble_eq_true rfl, ?_⟩ | refine ⟨_, _, rfl, rfl, ?_⟩ | refine ⟨_, _, _, rfl, rfl, rfl, ?_⟩ | refine ⟨rfl, ?_⟩ | refine ⟨_, _, rfl, ?_⟩ | refine ⟨_, _, _, rfl, ?_⟩ | refine ⟨.inl ⟨by omega, by omega⟩, ?_⟩ | refine ⟨.inr ⟨by omega, by omega⟩, ?_⟩)
          refine R__law_below.mk _ _ _ _ ⟨by omega, by omega⟩ ⟨by omega, by omega⟩ ?_
          repeat (first | refine ⟨_, rfl, ?_⟩ | refine ⟨Nat.le_of_ble_eq_true rfl, ?_⟩ | refine ⟨_, _, rfl, rfl, ?_⟩ | refine ⟨_, _, _, rfl, rfl, rfl, ?_⟩ | refine ⟨rfl, ?_⟩ | refine ⟨_, _, rfl, ?_⟩ | refine ⟨_, _, _, rfl, ?_⟩ | refine ⟨.inl ⟨by omega, by omega⟩, ?_⟩ | refine ⟨.inr ⟨by omega, by omega⟩, ?_⟩)
          refine ite_b (fun z4 => ?_) (fun z4 => ?_)
          · exact leaf false (by unfold covB cov1; rw [z1, z2, z3, notT z4]; rfl)
          · exact leaf true (by unfold covB cov1; rw [z1, z2, z3, notF z4]; rfl)
theorem p__law_looks : RdOk 4 1 R__law_looks (t__law_looks R__law_take R__law_of) := by
  intro ss n0 kk h hl
  cases h with
  | mk h3 h =>
    have loop : ∀ (js : List D) (acc : List Sy) (s2 s3 : Slot) (n : Nat) (G : DEnds), acc.length + js.length ≤ 3 → n + 6 * js.length ≤ n0 + 19 → (∀ m, m ∈ acc → m.Ok) →
        (∀ (p : List Sy) s2 s3 n', p.length = acc.length + js.length → (∀ m, m ∈ p → m.Ok) → n' ≤ n0 + 19 → G.nx [.tin, .own (p.map Sy.t), s2, s3] n') →
        forRun (g__law_looks_L1 R__law_take R__law_of) (t__law_looks_L1 R__law_take R__law_of) G js [.tin, .own (acc.map Sy.t), s2, s3] n := fun js => by
      induction js with
      | nil =>
        intro acc s2 s3 n G _ hn hs hG
        simp only [List.length_nil] at hn
        exact hG acc s2 s3 n rfl hs (by omega)
      | cons j js ih =>
        intro acc s2 s3 n G ha hn hs hG
        rw [List.length_cons] at ha hn
        refine ⟨rfl, R__law_of.mk (.lst (sixH.map D.str)) (sixH.map D.str) rfl (by decide) (by decide) (by omega) fun d hd => ?_⟩
        obtain ⟨hold, _, rfl⟩ := List.mem_map.mp hd
        refine ⟨_, rfl, by rw [List.length_map]; omega, rfl, R__law_take.mk _ (by decide) (by decide) (by omega) fun q0 q01 q02 => ?_⟩
        refine ⟨_, _, rfl, rfl, rfl, R__law_take.mk _ (by decide) (by decide) (by omega) fun q1 q11 q12 => ?_⟩
        refine ⟨_, _, rfl, rfl, rfl, R__law_take.mk _ (by decide) (by decide) (by omega) fun q2 q21 q22 => ?_⟩
        refine ⟨rfl, R__law_take.mk _ (by decide) (by decide) (by omega) fun q3 q31 q32 => ?_⟩
        refine ⟨_, _, rfl, rfl, _, rfl, rfl, R__law_take.mk _ (by decide) (by decide) (by omega) fun q7 q71 q72 => ?_⟩
        have e : [Slot.tin, Slot.own ((acc ++ [(⟨1 + q0, 1 + q1, q2, 1 + q3, hold, q7⟩ : Sy)]).map Sy.t), Slot.d j, Slot.d (.str hold)] = [Slot.tin, Slot.own (acc.map Sy.t ++ [Sy.t ⟨1 + q0, 1 + q1, q2, 1 + q3, hold, q7⟩]), Slot.d j, Slot.d (.str hold)] := by
          rw [List.map_append]
          rfl
        have go := ih (acc ++ [(⟨1 + q0, 1 + q1, q2, 1 + q3, hold, q7⟩ : Sy)]) (.d j) (.d (.str hold)) (n + 1 + 1 + 1 + 1 + 1 + 1) G (by rw [List.length_append]; show acc.length + 1 + _ ≤ 3; omega) (by omega) (fun m hm => by
          rcases List.mem_append.mp hm with hm | hm
          · exact hs m hm
          · rw [List.mem_singleton.mp hm]
            exact ⟨⟨by show (1 : Int) ≤ 1 + q0; omega, by show 1 + q0 ≤ 4; omega⟩, ⟨by show (1 : Int) ≤ 1 + q1; omega, by show 1 + q1 ≤ 3; omega⟩, ⟨by show (0 : Int) ≤ q2; omega, by show q2 ≤ 1; omega⟩, ⟨by show (1 : Int) ≤ 1 + q3; omega, by show 1 + q3 ≤ 5; omega⟩, ⟨by show (0 : Int) ≤ q7; omega, by show q7 ≤ 3; omega⟩⟩) fun p s2 s3 n' hp => hG p s2 s3 n' (by simp only [List.length_append, List.length_cons, List.length_nil] at hp ⊢; omega)
        rw [e] at go
        exact go
    refine ⟨rfl, R__law_take.mk _ (by decide) (by decide) (by omega) fun q q0 q1 => ?_⟩
    refine ⟨_, _, rfl, rfl, _, rfl, by omega, by omega, ?_⟩
    have el : (ups 0 (1 + q).toNat).length = (1 + q).toNat := by simp [ups]
    refine loop (ups 0 (1 + q).toNat) [] _ _ (n0 + 1) _ (by rw [el]; show 0 + _ ≤ 3; omega) (by rw [el]; omega) (fun m hm => by simp at hm) fun p s2 s3 n' hp hs hn => ?_
    rw [el] at hp
    refine ⟨_, rfl, _, rfl, _, rfl, ?_⟩
    exact h p ⟨by rw [hp]; show 0 < 0 + _; omega, by rw [hp]; show 0 + _ ≤ 3; omega, hs⟩ n' hn
end DL

namespace DL
open PySem PySem.Spec PyProof.Rows L2
theorem gc_dvd (t b : Int) : gc t b ∣ t ∧ gc t b ∣ b := by
  refine ⟨Int.natAbs_dvd_natAbs.mp ?_, Int.natAbs_dvd_natAbs.mp ?_⟩
  · unfold gc
    rw [Int.natAbs_natCast]
    exact Nat.gcd_dvd_left _ _
  · unfold gc
    rw [Int.natAbs_natCast]
    exact Nat.gcd_dvd_right _ _
theorem lw_eq {t b : Int} (hb : 0 < b) : t = gc t b * lwT t b ∧ b = gc t b * lwB t b ∧ 0 < gc t b ∧ 0 < lwB t b := by
  have g := gc_pos (t := t) hb
  obtain ⟨d1, d2⟩ := gc_dvd t b
  refine ⟨(Int.mul_ediv_cancel' d1).symm, (Int.mul_ediv_cancel' d2).symm, g.1, Int.ediv_pos_of_pos_of_dvd hb (by omega) d2⟩
theorem lw_cross {t b : Int} (hb : 0 < b) : lwT t b * b = t * lwB t b := by
  obtain ⟨e1, e2, g1, g2⟩ := lw_eq (t := t) hb
  generalize lwT t b = T at *
  generalize lwB t b = B at *
  generalize gc t b = g at *
  subst e1
  subst e2
  grind
theorem lw_cop {t b : Int} (hb : 0 < b) : Nat.gcd (lwT t b).natAbs (lwB t b).natAbs = 1 := by
  obtain ⟨e1, e2, g1, g2⟩ := lw_eq (t := t) hb
  have h : Nat.gcd t.natAbs b.natAbs = Nat.gcd t.natAbs b.natAbs * Nat.gcd (lwT t b).natAbs (lwB t b).natAbs := by
    have e3 : t.natAbs = Nat.gcd t.natAbs b.natAbs * (lwT t b).natAbs := by
      have := congrArg Int.natAbs e1
      rw [Int.natAbs_mul] at this
      unfold gc at this
      rw [Int.natAbs_natCast] at this
      exact this
    have e4 : b.natAbs = Nat.gcd t.natAbs b.natAbs * (lwB t b).natAbs := by
      have := congrArg Int.natAbs e2
      rw [Int.natAbs_mul] at this
      unfold gc at this
      rw [Int.natAbs_natCast] at this
      exact this
    have e5 : Nat.gcd (Nat.gcd t.natAbs b.natAbs * (lwT t b).natAbs) (Nat.gcd t.natAbs b.natAbs * (lwB t b).natAbs) = Nat.gcd t.natAbs b.natAbs * Nat.gcd (lwT t b).natAbs (lwB t b).natAbs := Nat.gcd_mul_left ..
    rw [← e3, ← e4] at e5
    exact e5
  have hp : 0 < Nat.gcd t.natAbs b.natAbs := Nat.gcd_pos_of_pos_right _ (by omega)
  exact Nat.eq_of_mul_eq_mul_left hp (by omega)
/-- two fractions of one value have the same lowest terms -/
theorem cop_eq {T B T' B' : Int} (hB : 0 < B) (hB' : 0 < B') (c : Nat.gcd T.natAbs B.natAbs = 1) (c' : Nat.gcd T'.natAbs B'.natAbs = 1) (h : T * B' = T' * B) : T = T' ∧ B = B' := by
  have d1 : B.natAbs ∣ B'.natAbs := by
    have : B.natAbs ∣ T.natAbs * B'.natAbs := by
      rw [← Int.natAbs_mul, h, Int.natAbs_mul]
      exact Nat.dvd_mul_left _ _
    exact Nat.Coprime.dvd_of_dvd_mul_left (k := B.natAbs) (m := T.natAbs) (by rw [Nat.coprime_iff_gcd_eq_one, Nat.gcd_comm]; exact c) this
  have d2 : B'.natAbs ∣ B.natAbs := by
    have : B'.natAbs ∣ T'.natAbs * B.natAbs := by
      rw [← Int.natAbs_mul, ← h, Int.natAbs_mul]
      exact Nat.dvd_mul_left _ _
    exact Nat.Coprime.dvd_of_dvd_mul_left (k := B'.natAbs) (m := T'.natAbs) (by rw [Nat.coprime_iff_gcd_eq_one, Nat.gcd_comm]; exact c') this
  have e := Nat.dvd_antisymm d1 d2
  have eB : B = B' := by omega
  subst eB
  exact ⟨Int.eq_of_mul_eq_mul_right (by omega) h, rfl⟩
theorem lw_same {t b t' b' : Int} (hb : 0 < b) (hb' : 0 < b') (h : t * b' = t' * b) : lwT t b = lwT t' b' ∧ lwB t b = lwB t' b' := by
  obtain ⟨e1, e2, g1, g2⟩ := lw_eq (t := t) hb
  obtain ⟨e3, e4, g3, g4⟩ := lw_eq (t := t') hb'
  refine cop_eq g2 g4 (lw_cop hb) (lw_cop hb') ?_
  have c1 := lw_cross (t := t) hb
  have c2 := lw_cross (t := t') hb'
  generalize lwT t b = T at *
  generalize lwB t b = B at *
  generalize lwT t' b' = T' at *
  generalize lwB t' b' = B' at *
  have h1 : (T * B') * (b * b') = (T' * B) * (b * b') := by grind
  exact Int.eq_of_mul_eq_mul_right (Int.ne_of_gt (Int.mul_pos hb hb')) h1
theorem lw_self {t b : Int} (hb : 0 < b) : lwT (lwT t b) (lwB t b) = lwT t b ∧ lwB (lwT t b) (lwB t b) = lwB t b := by
  obtain ⟨e3, e4, g3, g4⟩ := lw_eq (t := t) hb
  have := lw_same (t := lwT t b) (b := lwB t b) (t' := t) (b' := b) g4 hb (lw_cross hb)
  exact this
/-- a fraction that stands in lowest terms -/
structure Low (t b : Int) : Prop where
  pos : 0 < b
  tt : lwT t b = t
  ll : lwB t b = b
theorem low_of {t b : Int} (hb : 0 < b) : Low (lwT t b) (lwB t b) := ⟨(lw_eq hb).2.2.2, (lw_self hb).1, (lw_self hb).2⟩
theorem lw_low {t b s c : Int} (hb : 0 < b) (L : Low s c) (h : t * c = s * b) : lwT t b = s ∧ lwB t b = c := by
  have := lw_same hb L.pos h
  rw [L.tt, L.ll] at this
  exact this
/-- turned: the far corner's opposite -/
theorem turn1 {t w b : Int} (hb : 0 < b) : lw (0 * lwB (t * 1 + w * b) (b * 1) - lwT (t * 1 + w * b) (b * 1) * 1) (1 * lwB (t * 1 + w * b) (b * 1)) = lw (-t - w * b) b := by
  have hb1 : 0 < b * 1 := by omega
  have c := lw_cross (t := t * 1 + w * b) hb1
  have p := (lw_eq (t := t * 1 + w * b) hb1).2.2.2
  generalize lwT (t * 1 + w * b) (b * 1) = T at *
  generalize lwB (t * 1 + w * b) (b * 1) = B at *
  have := lw_same (t := 0 * B - T * 1) (b := 1 * B) (t' := -t - w * b) (b' := b) (by omega) hb (by grind)
  unfold lw
  rw [this.1, this.2]
theorem turn2 {s c w : Int} (L : Low s c) : lw (0 * lwB (lwT (-s - w * c) c * 1 + w * lwB (-s - w * c) c) (lwB (-s - w * c) c * 1) - lwT (lwT (-s - w * c) c * 1 + w * lwB (-s - w * c) c) (lwB (-s - w * c) c * 1) * 1) (1 * lwB (lwT (-s - w * c) c * 1 + w * lwB (-s - w * c) c) (lwB (-s - w * c) c * 1)) = fr s c := by
  have c1 := lw_cross (t := -s - w * c) L.pos
  have p1 := (lw_eq (t := -s - w * c) L.pos).2.2.2
  have hc := L.pos
  generalize lwT (-s - w * c) c = f at *
  generalize lwB (-s - w * c) c = b at *
  have hb1 : 0 < b * 1 := by omega
  have c2 := lw_cross (t := f * 1 + w * b) hb1
  have p2 := (lw_eq (t := f * 1 + w * b) hb1).2.2.2
  generalize lwT (f * 1 + w * b) (b * 1) = T at *
  generalize lwB (f * 1 + w * b) (b * 1) = B at *
  have key : (T * c) * b = (-s * B) * b := by grind
  have k2 := Int.eq_of_mul_eq_mul_right (show b ≠ 0 by omega) key
  have := lw_low (t := 0 * B - T * 1) (b := 1 * B) (by omega) L (by grind)
  unfold lw
  rw [this.1, this.2]
/-- less, by the values -/
theorem less_iff {t b x y T B X Y : Int} (hb : 0 < b) (hy : 0 < y) (hB : 0 < B) (hY : 0 < Y) (h1 : T * b = t * B) (h2 : X * y = x * Y) : lessQ T B X Y = lessQ t b x y := by
  unfold lessQ
  have : (T * Y < X * B) ↔ (t * y < x * b) := by
    have e1 : (T * Y) * (b * y) = (t * y) * (B * Y) := by grind
    have e2 : (X * B) * (b * y) = (x * b) * (B * Y) := by grind
    have p1 := Int.mul_pos hb hy
    have p2 := Int.mul_pos hB hY
    constructor
    · intro h
      have := Int.mul_lt_mul_of_pos_right h p1
      rw [e1, e2] at this
      exact Int.lt_of_mul_lt_mul_right this (by omega)
    · intro h
      have := Int.mul_lt_mul_of_pos_right h p2
      rw [← e1, ← e2] at this
      exact Int.lt_of_mul_lt_mul_right this (by omega)
  simp only [this]
theorem out_half {e : Te} {u v s c w : Int} (hv : 0 < v) (hc : 0 < c) : outB (e.half w) u v (lwT (-s - w * c) c) (lwB (-s - w * c) c) = outB e u v s c := by
  have a0 := lw_cross (t := -s - w * c) hc
  have b0 := (lw_eq (t := -s - w * c) hc).2.2.2
  have a1 := lw_cross (t := u * (e.half w).a - (e.half w).c * v) hv
  have b1 := (lw_eq (t := u * (e.half w).a - (e.half w).c * v) hv).2.2.2
  have a2 := lw_cross (t := u * (e.half w).b + (e.half w).d * v) hv
  have b2 := (lw_eq (t := u * (e.half w).b + (e.half w).d * v) hv).2.2.2
  have a3 := lw_cross (t := u * e.a - e.c * v) hv
  have b3 := (lw_eq (t := u * e.a - e.c * v) hv).2.2.2
  have a4 := lw_cross (t := u * e.b + e.d * v) hv
  have b4 := (lw_eq (t := u * e.b + e.d * v) hv).2.2.2
  unfold outB
  rw [less_iff hc hv b0 b1 a0 a1, less_iff hv hc b2 b0 a2 a0, less_iff hc hv hc b3 rfl a3, less_iff hv hc b4 hc a4 rfl, Bool.or_comm]
  unfold lessQ Te.half
  congr 1
  · have : ((u * -e.a + (e.c - w) * v) * c < (-s - w * c) * v) ↔ (s * v < (u * e.a - e.c * v) * c) := by
      have e1 : (u * -e.a + (e.c - w) * v) * c = -((u * e.a - e.c * v) * c) - w * v * c := by grind
      have e2 : (-s - w * c) * v = -(s * v) - w * v * c := by grind
      rw [e1, e2]
      omega
    simp only [this]
  · have : ((-s - w * c) * v < (u * -e.b - (e.d + w) * v) * c) ↔ ((u * e.b + e.d * v) * c < s * v) := by
      have e1 : (u * -e.b - (e.d + w) * v) * c = -((u * e.b + e.d * v) * c) - w * v * c := by grind
      have e2 : (-s - w * c) * v = -(s * v) - w * v * c := by grind
      rw [e1, e2]
      omega
    simp only [this]
end DL

namespace DL
open PySem PySem.Spec PyProof.Rows L2
theorem p__law_named : RdOk 14 3 R__law_named t__law_named := by
  intro ss n kk h hl
  cases h with
  | mk y w a b c d h1 h2 h =>
    obtain ⟨e1, e2, e3⟩ := four_len h2
    have q2 := h1.h2
    have c2 : ∀ i : Int, CDivW i 2 := fun i => ⟨by decide, by decide +kernel⟩
    unfold nmOf nmA nmB at h
    simp only [Int.zero_sub] at h
    refine ⟨_, rfl, _, rfl, ?_⟩
    refine ⟨by rw [show (signs w).length = w.cps.toList.length from by simp [signs], e1]; omega, ?_⟩
    refine lc_map (fun c => .str ⟨#[c]⟩) (fun c => .int (chW y ⟨#[c]⟩)) w.cps.toList (fun c hc n k' hk => ?_) ?_
    · refine ⟨_, rfl, rfl, _, rfl, ?_⟩
      unfold chW at hk
      refine ite_d (fun e => ?_) (fun e => ?_)
      · rw [if_pos e] at hk
        repeat (first | refine ⟨_, rfl, ?_⟩ | refine ⟨Nat.le_of_ble_eq_true rfl, ?_⟩ | refine ⟨_, _, rfl, rfl, ?_⟩ | refine ⟨_, _, _, rfl, rfl, rfl, ?_⟩ | refine ⟨rfl, ?_⟩ | refine ⟨_, _, rfl, ?_⟩ | refine ⟨_, _, _, rfl, ?_⟩ | refine ⟨.inl ⟨by omega, by omega⟩, ?_⟩ | refine ⟨.inr ⟨by omega, by omega⟩, ?_⟩)
        exact hk
      · rw [if_neg e] at hk
        repeat (first | refine ⟨_, rfl, ?_⟩ | refine ⟨Nat.le_of_ble_eq_true rfl, ?_⟩ | refine ⟨_, _, rfl, rfl, ?_⟩ | refine ⟨_, _, _, rfl, rfl, rfl, ?_⟩ | refine ⟨rfl, ?_⟩ | refine ⟨_, _, rfl, ?_⟩ | refine ⟨_, _, _, rfl, ?_⟩ | refine ⟨.inl ⟨by omega, by omega⟩, ?_⟩ | refine ⟨.inr ⟨by omega, by omega⟩, ?_⟩)
        exact hk
    · refine ⟨w.cps.toList.map fun c => chW y ⟨#[c]⟩, by rw [List.map_map]; rfl, ?_⟩
      refine ⟨_, rfl, _, _, _, rfl, rfl, rfl, _, rfl, _, rfl, by omega, _, _, rfl, rfl, _, _, rfl, rfl, .inl ⟨by omega, by omega⟩, _, _, rfl, rfl, ?_⟩
      have hW : (w.cps.toList.map fun c => chW y ⟨#[c]⟩).sum + y.s2 * ((w.length : Int) - 1) = wd y w := rfl
      generalize wd y w = W at h hW
      have go : ∀ X : D, X = .int W → dSeq (dPar [4, 5, 6] (kCons (dOp pIx (dVar 0) (dC (.int 3))) (kCons (dOp pIx (dVar 0) (dC (.int 6))) (kCons (dOp pIx (dVar 0) (dC (.int 7))) sNil)))) (dSeq (dAsg (dVar 2) (dgTup 4 (dgCons (dgName 7) (dgCons (dgName 8) (dgCons (dgName 9) (dgCons (dgName 10) dgNil)))))) (dSeq (dPar [11, 12] (kCons (dTup (dCons (dVar 7) (dCons (dOp pAdd (dOp pFdiv (dVar 3) (dC (.int 2))) (dVar 6)) (dCons (dVar 9) (dCons (dOp pSub (dVar 6) (dOp pFdiv (dVar 3) (dC (.int 2)))) dNil))))) (kCons (dTup (dCons (dVar 8) (dCons (dOp pAdd (dOp pFdiv (dVar 4) (dC (.int 2))) (dVar 6)) (dCons (dVar 10) (dCons (dOp pSub (dVar 6) (dOp pFdiv (dVar 4) (dC (.int 2)))) dNil))))) sNil))) (dSeq (dIfS (dTest (dOp pEq (dVar 5) (dC (.str "free")))) (dPar [11, 12] (kCons (dTup (dCons (dVar 7) (dCons (dOp pAdd (dVar 3) (dVar 6)) (dCons (dVar 9) (dCons (dVar 6) dNil))))) (kCons (dTup (dCons (dVar 8) (dCons (dOp pAdd (dVar 4) (dVar 6)) (dCons (dVar 10) (dCons (dVar 6) dNil))))) sNil))) (dIfS (dTest (dOp (pInT false) (dVar 5) (dTup (dCons (dC (.str "left")) (dCons (dC (.str "right")) dNil))))) (dSet 11 (dIf (dTest (dOp pEq (dVar 5) (dC (.str "left")))) (dTup (dCons (dVar 7) (dCons (dOp pAdd (dVar 3) (dVar 6)) (dCons (dVar 7) (dCons (dUn pNeg (dVar 3)) dNil))))) (dTup (dCons (dVar 9) (dCons (dC (.int 0)) (dCons (dVar 9) (dCons (dVar 6) dNil))))))) (dIfS (dTest (dOp (pInT false) (dVar 5) (dTup (dCons (dC (.str "over")) (dCons (dC (.str "under")) dNil))))) (dSet 12 (dIf (dTest (dOp pEq (dVar 5) (dC (.str "over")))) (dTup (dCons (dVar 8) (dCons (dOp pAdd (dVar 4) (dVar 6)) (dCons (dVar 8) (dCons (dUn pNeg (dVar 4)) dNil))))) (dTup (dCons (dVar 10) (dCons (dC (.int 0)) (dCons (dVar 10) (dCons (dVar 6) dNil))))))) dNext))) (dRet (dTup (dCons (dVar 3) (dCons (dVar 4) (dCons (dVar 11) (dCons (dVar 12) dNil))))))))) { nx := fun _ n => kk .non n, rt := kk } [.d y.t, .d (.str w), .d (box a b c d), .d X, .no, .no, .no, .no, .no, .no, .no, .no, .no, .no] n := fun X eX => by
        subst eX
        refine ⟨_, rfl, _, _, _, rfl, rfl, rfl, _, rfl, _, _, _, rfl, rfl, rfl, _, rfl, _, _, _, rfl, rfl, rfl, ?_⟩
        refine ⟨_, rfl, _, rfl, rfl, _, _, rfl, _, _, rfl, _, _, rfl, _, _, rfl, rfl, ?_⟩
        refine ⟨_, rfl, _, rfl, _, _, rfl, rfl, c2 _, _, rfl, _, _, rfl, rfl, _, rfl, _, rfl, _, rfl, _, _, rfl, rfl, c2 _, _, _, rfl, rfl, ?_⟩
        refine ⟨_, rfl, _, rfl, _, _, rfl, rfl, c2 _, _, rfl, _, _, rfl, rfl, _, rfl, _, rfl, _, rfl, _, _, rfl, rfl, c2 _, _, _, rfl, rfl, ?_⟩
        refine ⟨_, rfl, rfl, _, rfl, ?_⟩
        refine ite_d (fun e => ?_) (fun e1 => ?_)
        · rw [if_pos e, if_pos e] at h
          exact ⟨_, rfl, _, rfl, _, rfl, _, _, rfl, rfl, _, rfl, _, rfl, _, rfl, _, rfl, _, rfl, _, _, rfl, rfl, _, rfl, _, rfl, _, rfl, _, rfl, _, rfl, _, rfl, h⟩
        · rw [if_neg e1, if_neg e1] at h
          refine ⟨_, rfl, _, ["left", "right"], rfl, rfl, _, rfl, ?_⟩
          refine ite_d (fun e => ?_) (fun e2 => ?_)
          · refine ⟨_, rfl, rfl, _, rfl, ?_⟩
            refine ite_d (fun e3 => ?_) (fun e3 => ?_)
            · have e4 : y.hold ≠ "over" := by rw [e3]; decide +kernel
              have e5 : y.hold ≠ "under" := by rw [e3]; decide +kernel
              rw [if_pos e3, if_neg e4, if_neg e5] at h
              exact ⟨_, rfl, _, rfl, _, rfl, _, _, rfl, rfl, _, rfl, _, rfl, _, rfl, _, rfl, _, rfl, _, rfl, _, rfl, h⟩
            · have e6 : y.hold = "right" := by
                rcases List.mem_cons.mp e with q | q
                · exact absurd q e3
                · exact List.mem_singleton.mp q
              have e4 : y.hold ≠ "over" := by rw [e6]; decide +kernel
              have e5 : y.hold ≠ "under" := by rw [e6]; decide +kernel
              rw [if_neg e3, if_pos e6, if_neg e4, if_neg e5] at h
              exact ⟨_, rfl, _, rfl, _, rfl, _, rfl, _, rfl, _, rfl, _, rfl, h⟩
          · have n1 : y.hold ≠ "left" := fun q => e2 (by rw [q]; exact List.mem_cons_self ..)
            have n2 : y.hold ≠ "right" := fun q => e2 (by rw [q]; exact List.mem_cons_of_mem _ (List.mem_singleton.mpr rfl))
            rw [if_neg n1, if_neg n2] at h
            refine ⟨_, rfl, _, ["over", "under"], rfl, rfl, _, rfl, ?_⟩
            refine ite_d (fun e => ?_) (fun e2 => ?_)
            · refine ⟨_, rfl, rfl, _, rfl, ?_⟩
              refine ite_d (fun e3 => ?_) (fun e3 => ?_)
              · rw [if_pos e3] at h
                exact ⟨_, rfl, _, rfl, _, rfl, _, _, rfl, rfl, _, rfl, _, rfl, _, rfl, _, rfl, _, rfl, _, rfl, _, rfl, h⟩
              · have e6 : y.hold = "under" := by
                  rcases List.mem_cons.mp e with q | q
                  · exact absurd q e3
                  · exact List.mem_singleton.mp q
                rw [if_neg e3, if_pos e6] at h
                exact ⟨_, rfl, _, rfl, _, rfl, _, rfl, _, rfl, _, rfl, _, rfl, h⟩
            · have n3 : y.hold ≠ "over" := fun q => e2 (by rw [q]; exact List.mem_cons_self ..)
              have n4 : y.hold ≠ "under" := fun q => e2 (by rw [q]; exact List.mem_cons_of_mem _ (List.mem_singleton.mpr rfl))
              rw [if_neg n3, if_neg n4] at h
              exact ⟨_, rfl, _, rfl, _, rfl, _, rfl, h⟩
      exact go _ (congrArg D.int hW)
end DL

namespace DL
open PySem PySem.Spec PyProof.Rows L2
theorem fourD : (four.map D.str) = [.str "Fiji", .str "i", .str "mill", .str "Top-7"] := rfl
theorem p__law_leaf : RdOk 10 2 R__law_leaf (t__law_leaf R__law_take R__law_of) := by
  intro ss n0 kk h hl
  cases h with
  | mk m h0 h3 h =>
    refine ⟨rfl, R__law_take.mk _ (by decide) (by decide) (by omega) fun x x0 x1 => ?_⟩
    refine ⟨_, _, rfl, rfl, rfl, R__law_take.mk _ (by decide) (by decide) (by omega) fun y y0 y1 => ?_⟩
    refine ⟨_, _, rfl, rfl, rfl, R__law_take.mk _ (by decide) (by decide) (by omega) fun q q0 q1 => ?_⟩
    refine ⟨rfl, _, rfl, R__law_take.mk _ (by omega) (by omega) (by omega) fun c c0 c1 => ?_⟩
    refine ⟨rfl, R__law_of.mk (.lst (four.map D.str)) (four.map D.str) rfl (by decide) (by decide) (by omega) fun d hd => ?_⟩
    obtain ⟨w, hw, rfl⟩ := List.mem_map.mp hd
    refine ⟨_, rfl, rfl, _, rfl, ?_⟩
    refine ite_d (fun e => ?_) (fun e => ?_)
    · refine ⟨_, rfl, _, rfl, _, rfl, _, rfl, _, rfl, _, rfl, _, rfl, _, rfl, ?_⟩
      exact h ⟨c, w, .pt (x - 10) (y - 10)⟩ ⟨⟨c0, c1⟩, hw, trivial⟩ _ (by omega)
    · refine ⟨rfl, R__law_take.mk _ (by decide) (by decide) (by omega) fun o o0 o1 => ?_⟩
      refine ⟨rfl, R__law_take.mk _ (by decide) (by decide) (by omega) fun t t0 t1 => ?_⟩
      refine ⟨_, rfl, rfl, _, rfl, ?_⟩
      refine ite_d (fun e => ?_) (fun e => ?_)
      · have h' : kk (.tup [.tup [.int c, .str w, .int 1, .tup [.tup [fr (x - 10 - 1) (y - 10), fr (x - 10 - 1 + 10) (y - 10), fr (x - 10 + 9) (y - 10 + 9)], .int (o + 1), .int (o + t + 1)]], DL.box (x - 10 - 1 + (o + 1)) (y - 10) (x - 10 - 1 + (o + t + 1)) (y - 10)]) (n0 + 1 + 1 + 1 + 1 + 1 + 1 + 1) := h ⟨c, w, .rd (x - 10 - 1) (y - 10) (x - 10 + 9) (y - 10 + 9) o t⟩ ⟨⟨c0, c1⟩, hw, ⟨o0, by omega, t0, by omega⟩⟩ _ (by omega)
        rw [show x - 10 - 1 + 10 = x - 10 + 9 from by omega, show x - 10 - 1 + (o + 1) = x - 10 + o from by omega, show x - 10 - 1 + (o + t + 1) = x - 10 + o + t from by omega] at h'
        repeat (first | refine ⟨_, rfl, ?_⟩ | refine ⟨Nat.le_of_ble_eq_true rfl, ?_⟩ | refine ⟨_, _, rfl, rfl, ?_⟩ | refine ⟨_, _, _, rfl, rfl, rfl, ?_⟩ | refine ⟨rfl, ?_⟩ | refine ⟨_, _, rfl, ?_⟩ | refine ⟨_, _, _, rfl, ?_⟩ | refine ⟨.inl ⟨by omega, by omega⟩, ?_⟩ | refine ⟨.inr ⟨by omega, by omega⟩, ?_⟩)
        exact h'
      · repeat (first | refine ⟨_, rfl, ?_⟩ | refine ⟨Nat.le_of_ble_eq_true rfl, ?_⟩ | refine ⟨_, _, rfl, rfl, ?_⟩ | refine ⟨_, _, _, rfl, rfl, rfl, ?_⟩ | refine ⟨rfl, ?_⟩ | refine ⟨_, _, rfl, ?_⟩ | refine ⟨_, _, _, rfl, ?_⟩ | refine ⟨.inl ⟨by omega, by omega⟩, ?_⟩ | refine ⟨.inr ⟨by omega, by omega⟩, ?_⟩)
        exact h ⟨c, w, .bx (x - 10) (y - 10) (x - 10 + o) (y - 10 + t)⟩ ⟨⟨c0, c1⟩, hw, trivial⟩ _ (by omega)
theorem p__law_moved : RdOk 9 3 R__law_moved t__law_moved := by
  intro ss n kk h hl
  cases h with
  | mk e x y h =>
    obtain ⟨c, w, f⟩ := e
    cases f with
    | pt a b =>
      repeat (first | refine ⟨_, rfl, ?_⟩ | refine ⟨Nat.le_of_ble_eq_true rfl, ?_⟩ | refine ⟨_, _, rfl, rfl, ?_⟩ | refine ⟨_, _, _, rfl, rfl, rfl, ?_⟩ | refine ⟨rfl, ?_⟩ | refine ⟨_, _, rfl, ?_⟩ | refine ⟨_, _, _, rfl, ?_⟩ | refine ⟨.inl ⟨by omega, by omega⟩, ?_⟩ | refine ⟨.inr ⟨by omega, by omega⟩, ?_⟩)
      refine .inl ⟨_, rfl, ?_⟩
      repeat (first | refine ⟨_, rfl, ?_⟩ | refine ⟨Nat.le_of_ble_eq_true rfl, ?_⟩ | refine ⟨_, _, rfl, rfl, ?_⟩ | refine ⟨_, _, _, rfl, rfl, rfl, ?_⟩ | refine ⟨rfl, ?_⟩ | refine ⟨_, _, rfl, ?_⟩ | refine ⟨_, _, _, rfl, ?_⟩ | refine ⟨.inl ⟨by omega, by omega⟩, ?_⟩ | refine ⟨.inr ⟨by omega, by omega⟩, ?_⟩)
      refine ⟨(by decide : (0 : Int) < 2), ?_⟩
      repeat (first | refine ⟨_, rfl, ?_⟩ | refine ⟨Nat.le_of_ble_eq_true rfl, ?_⟩ | refine ⟨_, _, rfl, rfl, ?_⟩ | refine ⟨_, _, _, rfl, rfl, rfl, ?_⟩ | refine ⟨rfl, ?_⟩ | refine ⟨_, _, rfl, ?_⟩ | refine ⟨_, _, _, rfl, ?_⟩ | refine ⟨.inl ⟨by omega, by omega⟩, ?_⟩ | refine ⟨.inr ⟨by omega, by omega⟩, ?_⟩)
      refine .inl ⟨_, rfl, ?_⟩
      repeat (first | refine ⟨_, rfl, ?_⟩ | refine ⟨Nat.le_of_ble_eq_true rfl, ?_⟩ | refine ⟨_, _, rfl, rfl, ?_⟩ | refine ⟨_, _, _, rfl, rfl, rfl, ?_⟩ | refine ⟨rfl, ?_⟩ | refine ⟨_, _, rfl, ?_⟩ | refine ⟨_, _, _, rfl, ?_⟩ | refine ⟨.inl ⟨by omega, by omega⟩, ?_⟩ | refine ⟨.inr ⟨by omega, by omega⟩, ?_⟩)
      refine ⟨(by decide : (0 : Int) < 2), ?_⟩
      repeat (first | refine ⟨_, rfl, ?_⟩ | refine ⟨Nat.le_of_ble_eq_true rfl, ?_⟩ | refine ⟨_, _, rfl, rfl, ?_⟩ | refine ⟨_, _, _, rfl, rfl, rfl, ?_⟩ | refine ⟨rfl, ?_⟩ | refine ⟨_, _, rfl, ?_⟩ | refine ⟨_, _, _, rfl, ?_⟩ | refine ⟨.inl ⟨by omega, by omega⟩, ?_⟩ | refine ⟨.inr ⟨by omega, by omega⟩, ?_⟩)
      exact h
    | rd u b v' v o t =>
      have h' : kk (.tup [.int c, .str w, .int 1, .tup [.tup [fr (u + x) (b + y), fr (u + x + 10) (b + y), fr (v' + x) (v + y)], .int (o + 1), .int (o + t + 1)]]) n := h
      rw [show u + x + 10 = u + 10 + x from by omega] at h'
      repeat (first | refine ⟨_, rfl, ?_⟩ | refine ⟨Nat.le_of_ble_eq_true rfl, ?_⟩ | refine ⟨_, _, rfl, rfl, ?_⟩ | refine ⟨_, _, _, rfl, rfl, rfl, ?_⟩ | refine ⟨rfl, ?_⟩ | refine ⟨_, _, rfl, ?_⟩ | refine ⟨_, _, _, rfl, ?_⟩ | refine ⟨.inl ⟨by omega, by omega⟩, ?_⟩ | refine ⟨.inr ⟨by omega, by omega⟩, ?_⟩)
      exact h'
    | bx a b p q =>
      repeat (first | refine ⟨_, rfl, ?_⟩ | refine ⟨Nat.le_of_ble_eq_true rfl, ?_⟩ | refine ⟨_, _, rfl, rfl, ?_⟩ | refine ⟨_, _, _, rfl, rfl, rfl, ?_⟩ | refine ⟨rfl, ?_⟩ | refine ⟨_, _, rfl, ?_⟩ | refine ⟨_, _, _, rfl, ?_⟩ | refine ⟨.inl ⟨by omega, by omega⟩, ?_⟩ | refine ⟨.inr ⟨by omega, by omega⟩, ?_⟩)
      refine .inl ⟨_, rfl, ?_⟩
      repeat (first | refine ⟨_, rfl, ?_⟩ | refine ⟨Nat.le_of_ble_eq_true rfl, ?_⟩ | refine ⟨_, _, rfl, rfl, ?_⟩ | refine ⟨_, _, _, rfl, rfl, rfl, ?_⟩ | refine ⟨rfl, ?_⟩ | refine ⟨_, _, rfl, ?_⟩ | refine ⟨_, _, _, rfl, ?_⟩ | refine ⟨.inl ⟨by omega, by omega⟩, ?_⟩ | refine ⟨.inr ⟨by omega, by omega⟩, ?_⟩)
      refine ⟨(by decide : (0 : Int) < 2), ?_⟩
      repeat (first | refine ⟨_, rfl, ?_⟩ | refine ⟨Nat.le_of_ble_eq_true rfl, ?_⟩ | refine ⟨_, _, rfl, rfl, ?_⟩ | refine ⟨_, _, _, rfl, rfl, rfl, ?_⟩ | refine ⟨rfl, ?_⟩ | refine ⟨_, _, rfl, ?_⟩ | refine ⟨_, _, _, rfl, ?_⟩ | refine ⟨.inl ⟨by omega, by omega⟩, ?_⟩ | refine ⟨.inr ⟨by omega, by omega⟩, ?_⟩)
      refine .inl ⟨_, rfl, ?_⟩
      repeat (first | refine ⟨_, rfl, ?_⟩ | refine ⟨Nat.le_of_ble_eq_true rfl, ?_⟩ | refine ⟨_, _, rfl, rfl, ?_⟩ | refine ⟨_, _, _, rfl, rfl, rfl, ?_⟩ | refine ⟨rfl, ?_⟩ | refine ⟨_, _, rfl, ?_⟩ | refine ⟨_, _, _, rfl, ?_⟩ | refine ⟨.inl ⟨by omega, by omega⟩, ?_⟩ | refine ⟨.inr ⟨by omega, by omega⟩, ?_⟩)
      refine ⟨(by decide : (0 : Int) < 2), ?_⟩
      repeat (first | refine ⟨_, rfl, ?_⟩ | refine ⟨Nat.le_of_ble_eq_true rfl, ?_⟩ | refine ⟨_, _, rfl, rfl, ?_⟩ | refine ⟨_, _, _, rfl, rfl, rfl, ?_⟩ | refine ⟨rfl, ?_⟩ | refine ⟨_, _, rfl, ?_⟩ | refine ⟨_, _, _, rfl, ?_⟩ | refine ⟨.inl ⟨by omega, by omega⟩, ?_⟩ | refine ⟨.inr ⟨by omega, by omega⟩, ?_⟩)
      refine .inl ⟨_, rfl, ?_⟩
      repeat (first | refine ⟨_, rfl, ?_⟩ | refine ⟨Nat.le_of_ble_eq_true rfl, ?_⟩ | refine ⟨_, _, rfl, rfl, ?_⟩ | refine ⟨_, _, _, rfl, rfl, rfl, ?_⟩ | refine ⟨rfl, ?_⟩ | refine ⟨_, _, rfl, ?_⟩ | refine ⟨_, _, _, rfl, ?_⟩ | refine ⟨.inl ⟨by omega, by omega⟩, ?_⟩ | refine ⟨.inr ⟨by omega, by omega⟩, ?_⟩)
      refine ⟨(by decide : (0 : Int) < 2), ?_⟩
      refine ⟨_, _, _, rfl, rfl, (show atI [D.int x, D.int y] (((2 : Nat) : Int) % 2) = some (D.int x) from rfl), ?_⟩
      repeat (first | refine ⟨_, rfl, ?_⟩ | refine ⟨Nat.le_of_ble_eq_true rfl, ?_⟩ | refine ⟨_, _, rfl, rfl, ?_⟩ | refine ⟨_, _, _, rfl, rfl, rfl, ?_⟩ | refine ⟨rfl, ?_⟩ | refine ⟨_, _, rfl, ?_⟩ | refine ⟨_, _, _, rfl, ?_⟩ | refine ⟨.inl ⟨by omega, by omega⟩, ?_⟩ | refine ⟨.inr ⟨by omega, by omega⟩, ?_⟩)
      refine .inl ⟨_, rfl, ?_⟩
      repeat (first | refine ⟨_, rfl, ?_⟩ | refine ⟨Nat.le_of_ble_eq_true rfl, ?_⟩ | refine ⟨_, _, rfl, rfl, ?_⟩ | refine ⟨_, _, _, rfl, rfl, rfl, ?_⟩ | refine ⟨rfl, ?_⟩ | refine ⟨_, _, rfl, ?_⟩ | refine ⟨_, _, _, rfl, ?_⟩ | refine ⟨.inl ⟨by omega, by omega⟩, ?_⟩ | refine ⟨.inr ⟨by omega, by omega⟩, ?_⟩)
      refine ⟨(by decide : (0 : Int) < 2), ?_⟩
      refine ⟨_, _, _, rfl, rfl, (show atI [D.int x, D.int y] (((3 : Nat) : Int) % 2) = some (D.int y) from rfl), ?_⟩
      repeat (first | refine ⟨_, rfl, ?_⟩ | refine ⟨Nat.le_of_ble_eq_true rfl, ?_⟩ | refine ⟨_, _, rfl, rfl, ?_⟩ | refine ⟨_, _, _, rfl, rfl, rfl, ?_⟩ | refine ⟨rfl, ?_⟩ | refine ⟨_, _, rfl, ?_⟩ | refine ⟨_, _, _, rfl, ?_⟩ | refine ⟨.inl ⟨by omega, by omega⟩, ?_⟩ | refine ⟨.inr ⟨by omega, by omega⟩, ?_⟩)
      exact h
end DL

namespace DL
open PySem PySem.Spec PyProof.Rows L2
def Lf.p : Lf → PyData
  | .pt x y => .tuple [.int x, .int y]
  | .rd u y w v o t => .tuple [.tuple [.tuple [.int u, .int y], .tuple [.int (u + 10), .int y], .tuple [.int w, .int v]], .int (o + 1), .int (o + t + 1)]
  | .bx x y p q => .tuple [.int x, .int y, .int p, .int q]
def Ft.p (e : Ft) : PyData := .tuple [.int e.c, .str e.w, .int e.f.kind, e.f.p]
theorem py2 {a b : D} {p q : PyData} (h1 : Py a p) (h2 : Py b q) : Py (.tup [a, b]) (.tuple [p, q]) := .tup rfl fun i d r e1 e2 => by
  match i with
  | 0 => cases Option.some.inj e1; cases Option.some.inj e2; exact h1
  | 1 => cases Option.some.inj e1; cases Option.some.inj e2; exact h2
  | i + 2 => simp at e1
theorem py3 {a b c : D} {p q r : PyData} (h1 : Py a p) (h2 : Py b q) (h3 : Py c r) : Py (.tup [a, b, c]) (.tuple [p, q, r]) := .tup rfl fun i d r e1 e2 => by
  match i with
  | 0 => cases Option.some.inj e1; cases Option.some.inj e2; exact h1
  | 1 => cases Option.some.inj e1; cases Option.some.inj e2; exact h2
  | 2 => cases Option.some.inj e1; cases Option.some.inj e2; exact h3
  | i + 3 => simp at e1
theorem py4 {a b c d : D} {p q r s : PyData} (h1 : Py a p) (h2 : Py b q) (h3 : Py c r) (h4 : Py d s) : Py (.tup [a, b, c, d]) (.tuple [p, q, r, s]) := .tup rfl fun i d r e1 e2 => by
  match i with
  | 0 => cases Option.some.inj e1; cases Option.some.inj e2; exact h1
  | 1 => cases Option.some.inj e1; cases Option.some.inj e2; exact h2
  | 2 => cases Option.some.inj e1; cases Option.some.inj e2; exact h3
  | 3 => cases Option.some.inj e1; cases Option.some.inj e2; exact h4
  | i + 4 => simp at e1
theorem Ft.py (e : Ft) : Py e.t e.p := by
  obtain ⟨c, w, f⟩ := e
  cases f with
  | pt x y => exact py4 (.int _) (.str _) (.int _) (py2 (.int _) (.int _))
  | rd u y w v o t => exact py4 (.int _) (.str _) (.int _) (py3 (py3 (py2 (.int _) (.int _)) (py2 (.int _) (.int _)) (py2 (.int _) (.int _))) (.int _) (.int _))
  | bx x y p q => exact py4 (.int _) (.str _) (.int _) (py4 (.int _) (.int _) (.int _) (.int _))
theorem Ft.lay (e : Ft) (h : e.w ∈ four) : PyData.canLay0 e.p = true ∧ PyData.depth e.p ≤ 4 := by
  have hs : ∀ w ∈ four, PyData.canLay0 (.str w) = true := by decide +kernel
  have h1 := hs e.w h
  obtain ⟨c, w, f⟩ := e
  have h2 : PyData.canLay0 (.str w) = true := h1
  cases f with
  | pt x y =>
    refine ⟨?_, Nat.le_of_ble_eq_true rfl⟩
    show (true && (PyData.canLay0 (.str w) && _)) = true
    rw [h2]
    rfl
  | rd u y w' v o t =>
    refine ⟨?_, Nat.le_of_ble_eq_true rfl⟩
    show (true && (PyData.canLay0 (.str w) && _)) = true
    rw [h2]
    rfl
  | bx x y p q =>
    refine ⟨?_, Nat.le_of_ble_eq_true rfl⟩
    show (true && (PyData.canLay0 (.str w) && _)) = true
    rw [h2]
    rfl
theorem fts_lay : ∀ l : List Ft, (∀ e, e ∈ l → e.w ∈ four) → PyData.canLayAll0 (l.map Ft.p) = true ∧ PyData.depthAll (l.map Ft.p) ≤ 4
  | [], _ => ⟨rfl, by decide⟩
  | e :: l, h => by
    have h1 := Ft.lay e (h e (List.mem_cons_self ..))
    have h2 := fts_lay l fun e' he => h e' (List.mem_cons_of_mem _ he)
    refine ⟨?_, ?_⟩
    · show (PyData.canLay0 e.p && PyData.canLayAll0 _) = true
      rw [h1.1, h2.1]
      rfl
    · show max (PyData.depth e.p) (PyData.depthAll _) ≤ 4
      omega
theorem i2L (a b : Int) : Tm 2 (.lst [.int a, .int b]) (.tup [.int a, .int b]) := frl_tm a b
theorem Tm.up2 {m : Nat} {x y : D} (h : Tm m x y) : Tm (m + 2) x y := Tm.up (Tm.up h)
theorem Ft.tmT (e : Ft) : Tm 5 e.t e.t := by
  obtain ⟨c, w, f⟩ := e
  have hf : Tm 4 f.wh f.wh := by
    cases f with
    | pt x y => exact Tm.up2 (fr_tm x y)
    | rd u y w v o t => exact .seq rfl (by show 3 ≤ 1000; decide) (.cons (.seq rfl (by show 3 ≤ 1000; decide) (.cons (fr_tm _ _) (.cons (fr_tm _ _) (.cons (fr_tm _ _) .nil)))) (.cons (.flat rfl) (.cons (.flat rfl) .nil)))
    | bx x y p q => exact Tm.up2 (.seq rfl (by show 4 ≤ 1000; decide) (.cons (.flat rfl) (.cons (.flat rfl) (.cons (.flat rfl) (.cons (.flat rfl) .nil)))))
  exact .seq rfl (by show 4 ≤ 1000; decide) (.cons (.flat rfl) (.cons (.flat rfl) (.cons (.flat rfl) (.cons hf .nil))))
theorem Ft.tmL (e : Ft) : Tm 5 e.l e.t := by
  obtain ⟨c, w, f⟩ := e
  have hf : Tm 4 f.whl f.wh := by
    cases f with
    | pt x y => exact Tm.up2 (frl_tm x y)
    | rd u y w v o t => exact .seq rfl (by show 3 ≤ 1000; decide) (.cons (.seq rfl (by show 3 ≤ 1000; decide) (.cons (frl_tm _ _) (.cons (frl_tm _ _) (.cons (frl_tm _ _) .nil)))) (.cons (.flat rfl) (.cons (.flat rfl) .nil)))
    | bx x y p q => exact Tm.up2 (.seq rfl (by show 4 ≤ 1000; decide) (.cons (.flat rfl) (.cons (.flat rfl) (.cons (.flat rfl) (.cons (.flat rfl) .nil)))))
  exact .seq rfl (by show 4 ≤ 1000; decide) (.cons (.flat rfl) (.cons (.flat rfl) (.cons (.flat rfl) (.cons hf .nil))))
theorem Sy.tmT (y : Sy) : Tm 5 y.t y.z :=
  Tm.up (.seq rfl (by show 9 ≤ 1000; decide) (.cons (.flat rfl) (.cons (.seqz rfl (by show 1 ≤ 1000; decide) (.cons (.seq rfl (by show 2 ≤ 1000; decide) (.cons (.flat rfl) (.cons (.flat rfl) .nil))) .nil)) (.cons (.flat rfl) (.cons (.flat rfl) (.cons (.flat rfl) (.cons (.flat rfl) (.cons (.flat rfl) (.cons (.flat rfl) (.cons (.flat rfl) .nil))))))))))
theorem Sy.tmL (y : Sy) : Tm 5 y.l y.z :=
  Tm.up (.seq rfl (by show 9 ≤ 1000; decide) (.cons (.flat rfl) (.cons (.seqz rfl (by show 1 ≤ 1000; decide) (.cons (.seq rfl (by show 2 ≤ 1000; decide) (.cons (.flat rfl) (.cons (.flat rfl) .nil))) .nil)) (.cons (.flat rfl) (.cons (.flat rfl) (.cons (.flat rfl) (.cons (.flat rfl) (.cons (.flat rfl) (.cons (.flat rfl) (.cons (.flat rfl) .nil))))))))))
theorem p_map_of : RdOk 8 2 R_map_of (t_map_of (R_tuple_of 6) R_size_of R_tethers_of R_tie_in) := by
  intro ss n kk h hl
  cases h with
  | mk x y l s r hs hl' hf hx hy hr h =>
    subst hr
    have s1 := hs.pos
    have s2 := hs.le
    have tx : Tm 6 x (.tup (l.map Ft.t)) := by
      rcases hx with rfl | rfl
      · exact .seq rfl (by rw [List.length_map]; omega) (All2.maps fun e _ => e.tmT)
      · exact .seq rfl (by rw [List.length_map]; omega) (All2.maps fun e _ => e.tmL)
    have ty : Tm 6 y (.tup (s.map Sy.z)) := by
      rcases hy with rfl | rfl
      · exact .seq rfl (by rw [List.length_map]; omega) (All2.maps fun e _ => e.tmT)
      · exact .seq rfl (by rw [List.length_map]; omega) (All2.maps fun e _ => e.tmL)
    have lay := fts_lay l fun e he => (hf e he).w
    have pp : Py (.tup (l.map Ft.t)) (.tuple (l.map Ft.p)) := .tup (by simp) fun i d q e1 e2 => by
      rw [List.getElem?_map] at e1 e2
      cases hm : l[i]? with
      | none => rw [hm] at e1; cases e1
      | some m =>
        rw [hm] at e1 e2
        cases Option.some.inj e1
        cases Option.some.inj e2
        exact m.py
    have sh2 : SeqAt.shaped (.tuple (l.map Ft.p)) = true := by
      unfold SeqAt.shaped
      rw [Bool.and_eq_true]
      refine ⟨lay.1, decide_eq_true ?_⟩
      show PyData.depthAll _ + 1 ≤ 64
      have := lay.2
      omega
    have ne : PyData.eqv (.tuple (l.map Ft.p)) (.tuple []) = false := by
      cases l with
      | nil => simp at hl'
      | cons m l => rfl
    have loop : ∀ (r : List Ft) (acc : List D) (s5 s6 s7 : Slot) (n : Nat) (G : DEnds), acc.length + r.length ≤ 16 → (∀ e, e ∈ r → e.Ok s.length) → (∀ s5 s6 s7, G.nx [.d x, .d y, .d (.tup (l.map Ft.t)), .d (.tup (s.map Sy.z)), .own (acc ++ r.map fun e => ((s[e.c.toNat]?).map fun z => (nmOf z e.w e.f.t1 e.f.t2 e.f.t3 e.f.t4).t).getD .non), s5, s6, s7] n) →
        forRun (g_map_of_L1 (R_tuple_of 6) R_size_of R_tethers_of R_tie_in) (t_map_of_L1 (R_tuple_of 6) R_size_of R_tethers_of R_tie_in) G (r.map Ft.t) [.d x, .d y, .d (.tup (l.map Ft.t)), .d (.tup (s.map Sy.z)), .own acc, s5, s6, s7] n := fun r => by
      induction r with
      | nil =>
        intro acc s3 s4 s5 n G _ _ hG
        have := hG s3 s4 s5
        rw [List.map_nil, List.append_nil] at this
        exact this
      | cons e r ih =>
        intro acc s3 s4 s5 n G ha hr hG
        rw [List.length_cons] at ha
        have ok := hr e (List.mem_cons_self ..)
        obtain ⟨o1, o2⟩ := ok.c
        obtain ⟨z, hz⟩ : ∃ z, s[e.c.toNat]? = some z := ⟨_, List.getElem?_eq_getElem (by omega)⟩
        have az : atI (s.map Sy.z) e.c = some z.z := by
          have := atL (p := s.map Sy.z) (i := e.c.toNat) (m := z.z) (by rw [List.getElem?_map, hz]; rfl)
          rw [show ((e.c.toNat : Nat) : Int) = e.c from by omega] at this
          exact this
        have okz := hs.ok z (List.mem_of_getElem? hz)
        refine ⟨_, rfl, _, rfl, _, _, _, rfl, rfl, rfl, _, _, _, rfl, rfl, az, ?_⟩
        refine ⟨_, rfl, _, rfl, _, _, _, rfl, rfl, rfl, R_size_of.mk z e.w okz ok.w ?_⟩
        refine ⟨_, rfl, by omega, _, rfl, _, rfl, _, rfl, _, rfl, R_tie_in.mk e ok.f ?_⟩
        refine R_tethers_of.mk z _ _ _ _ _ _ ?_
        refine ⟨_, _, rfl, rfl, Nat.le_of_ble_eq_true rfl, Nat.le_of_ble_eq_true rfl, ?_⟩
        refine ih (acc ++ [_]) _ _ _ n G (by rw [List.length_append]; show acc.length + 1 + _ ≤ 16; omega) (fun e' he => hr e' (List.mem_cons_of_mem _ he)) fun s3 s4 s5 => ?_
        have := hG s3 s4 s5
        rw [List.map_cons, app_cons, hz] at this
        exact this
    refine ⟨_, rfl, R_tuple_of.mk _ _ tx ⟨_, rfl, R_tuple_of.mk _ _ ty ?_⟩⟩
    refine ⟨_, rfl, _, _, rfl, rfl, _, _, rfl, rfl, _, rfl, ?_⟩
    refine ite_d (fun e => ?_) (fun _ => ?_)
    · exfalso
      rw [List.length_map] at e
      omega
    · refine ⟨_, rfl, _, _, pp, .tup rfl py0, sh2, rfl, _, rfl, ?_⟩
      rw [ne]
      refine ⟨_, rfl, _, rfl, by rw [List.length_map]; omega, ?_⟩
      refine lc_map Ft.t (fun _ => D.bl true) l (fun e he n k' hk => ?_) ?_
      · refine ⟨_, rfl, _, _, _, rfl, rfl, rfl, _, rfl, _, _, rfl, rfl, _, _, rfl, rfl, ?_⟩
        have ok := (hf e he).c
        have : decide (e.c < (((s.map Sy.z).length : Nat) : Int)) = true := decide_eq_true (by rw [List.length_map]; exact ok.2)
        exact cast (by rw [← this] <;> rfl) hk
      · refine ⟨l.map fun _ => true, by rw [List.map_map]; rfl, ?_⟩
        have e : (l.map fun _ => true).all id = true := by simp
        rw [e]
        refine ⟨_, rfl, ?_⟩
        refine ⟨_, rfl, _, rfl, ?_⟩
        refine loop l [] _ _ _ n _ (by show 0 + _ ≤ 16; omega) hf fun s5 s6 s7 => ?_
        exact ⟨_, rfl, _, rfl, _, rfl, h⟩
end DL

namespace DL
open PySem PySem.Spec PyProof.Rows L2
theorem Te.Sml.ok {e : Te} (h : e.Sml) : e.Ok := by
  obtain ⟨⟨a1, a2⟩, ⟨b1, b2⟩, ⟨c1, c2⟩, ⟨d1, d2⟩, q1, q2⟩ := h
  exact ⟨⟨by omega, by omega⟩, ⟨by omega, by omega⟩, ⟨by omega, by omega⟩, ⟨by omega, by omega⟩, q1, q2⟩
theorem Nm.Sml.ok {m : Nm} (h : m.Sml) : m.Ok := by
  obtain ⟨⟨a1, a2⟩, ⟨b1, b2⟩, hx, hy⟩ := h
  exact ⟨⟨a1, by omega⟩, ⟨b1, by omega⟩, hx.ok, hy.ok⟩
theorem Te.Sml.half {e : Te} {w : Int} (h : e.Sml) (hw : 1 ≤ w ∧ w ≤ 100) : (e.half w).Ok := by
  obtain ⟨⟨a1, a2⟩, ⟨b1, b2⟩, ⟨c1, c2⟩, ⟨d1, d2⟩, q1, q2⟩ := h
  unfold Te.half
  exact ⟨⟨by show _ ≤ -e.b; omega, by show -e.b ≤ _; omega⟩, ⟨by show _ ≤ e.d + w; omega, by show e.d + w ≤ _; omega⟩, ⟨by show _ ≤ -e.a; omega, by show -e.a ≤ _; omega⟩, ⟨by show _ ≤ e.c - w; omega, by show e.c - w ≤ _; omega⟩, by show -e.b ≤ -e.a; omega, by show 0 ≤ e.d + w + (e.c - w); omega⟩
theorem Nm.Sml.half {m : Nm} (h : m.Sml) : m.half.Ok := by
  obtain ⟨⟨a1, a2⟩, ⟨b1, b2⟩, hx, hy⟩ := h
  exact ⟨⟨a1, by show m.w ≤ 10000; omega⟩, ⟨b1, by show m.h ≤ 10000; omega⟩, hx.half ⟨a1, a2⟩, hy.half ⟨b1, b2⟩⟩
theorem PSml.ok' {p : List Nm} (h : PSml p) : POk p := ⟨h.pos, by have := h.le; omega, fun m hm => (h.ok m hm).ok⟩
theorem PSml.half {p : List Nm} (h : PSml p) : POk (p.reverse.map Nm.half) := ⟨by rw [List.length_map, List.length_reverse]; exact h.pos, by rw [List.length_map, List.length_reverse]; have := h.le; omega, fun m hm => by
  obtain ⟨m', hm', rfl⟩ := List.mem_map.mp hm
  exact (h.ok m' (List.mem_reverse.mp hm')).half⟩
theorem same_of {m : Nat} {X Y : D} {n : Nat} {k : DK} (e : X = Y) (hf : Fit m X) (h : k (.bl true) n) : R__law_same m [.d X, .d Y] n k := by
  subst e
  exact .mk X hf h
theorem Te.lm (e : Te) : Lm 2 e.t e.l := .seq rfl (by show 4 ≤ 1000; decide) (.cons (.flat rfl) (.cons (.flat rfl) (.cons (.flat rfl) (.cons (.flat rfl) .nil))))
theorem Nm.lm (m : Nm) : Lm 3 m.t m.l := .seq rfl (by show 4 ≤ 1000; decide) (.cons (.flat rfl) (.cons (.flat rfl) (.cons m.x.lm (.cons m.y.lm .nil))))
theorem Lm.up {m : Nat} : ∀ {x y : D}, Lm m x y → Lm (m + 1) x y := by
  induction m with
  | zero => exact fun h => h.elim
  | succ m ih =>
    intro x y h
    rcases h with h | ⟨xs, ys, h1, h2, h3, h4⟩
    · exact .inl h
    · exact .inr ⟨xs, ys, h1, h2, h3, h4.imp fun a b q => ih q⟩
theorem pT_lm {p : List Nm} (h : p.length ≤ 16) : Lm 6 (pT p) (pL p) := Lm.up (Lm.up (.seq rfl (by rw [List.length_map]; omega) (All2.maps fun m _ => m.lm)))
theorem fr_lm (t b : Int) : Lm 2 (fr t b) (.lst [.int t, .int b]) := .seq rfl (by show 2 ≤ 1000; decide) (.cons (.flat rfl) (.cons (.flat rfl) .nil))
theorem Sp.lm (s : Sp) : Lm 6 s.t s.l := Lm.up (Lm.up (Lm.up (.seq rfl (by show 2 ≤ 1000; decide) (.cons (fr_lm _ _) (.cons (fr_lm _ _) .nil)))))
theorem Fit.flat {m : Nat} {x : D} (h : flatD x = true) : Fit (m + 1) x := .inl h
theorem Fit.tup {m : Nat} {l : List D} (h : l.length ≤ 1000) (f : ∀ d, d ∈ l → Fit m d) : Fit (m + 1) (.tup l) := .inr ⟨l, .inl rfl, h, f⟩
theorem Fit.lst {m : Nat} {l : List D} (h : l.length ≤ 1000) (f : ∀ d, d ∈ l → Fit m d) : Fit (m + 1) (.lst l) := .inr ⟨l, .inr rfl, h, f⟩
theorem mem1 {P : D → Prop} {a : D} {l : List D} (h : P a) (t : ∀ d, d ∈ l → P d) : ∀ d, d ∈ a :: l → P d := fun d hd => by
  rcases List.mem_cons.mp hd with rfl | hd
  · exact h
  · exact t d hd
theorem mem0 {P : D → Prop} : ∀ d, d ∈ ([] : List D) → P d := fun d hd => by simp at hd
theorem fr_fit {m : Nat} (t b : Int) : Fit (m + 2) (fr t b) := .tup (by show 2 ≤ 1000; decide) (mem1 (.flat rfl) (mem1 (.flat rfl) mem0))
theorem at_half {p : List Nm} {i : Nat} {m : Nm} (h : p[i]? = some m) : (p.reverse.map Nm.half)[p.length - 1 - i]? = some m.half := by
  have hi : i < p.length := (List.getElem?_eq_some_iff.mp h).1
  rw [List.getElem?_map, List.getElem?_reverse (by omega), show p.length - 1 - (p.length - 1 - i) = i from by omega, h]
  rfl
theorem tup2 {a b c d : D} (h1 : a = b) (h2 : c = d) : D.tup [a, c] = D.tup [b, d] := by rw [h1, h2]
theorem p__law_one_right : RdOk 15 4 R__law_one_right (t__law_one_right R__law_plan_half R__law_sum R__law_of R__law_reach R__law_take R__law_low (R__law_lists 6) R__law_is_let R_stretch_at R_lets R_place_turned (R__law_same 6) R_box_at) := by
  intro ss n0 kk h hl
  cases h with
  | mk p iz i u v hp hz hi z h3 h =>
    subst hz
    obtain ⟨m, hm⟩ : ∃ m, p[i]? = some m := ⟨_, List.getElem?_eq_getElem hi⟩
    have hpl := hp.le
    have sml := hp.ok m (List.mem_of_getElem? hm)
    have okm := sml.ok
    have smm := okm.sm
    have pok := hp.ok'
    have pok' := hp.half
    obtain ⟨z1, z2, z3, z4⟩ := z
    have zq : Zq u v := ⟨z1, z2, z3, by omega⟩
    have st : ∀ e, e = m.x ∨ e = m.y → Sn e.a ∧ Sn e.b ∧ Sn e.c ∧ Sn e.d := fun e he => by
      rcases he with rfl | rfl
      · exact ⟨okm.x.a, okm.x.b, okm.x.c, okm.x.d⟩
      · exact ⟨okm.y.a, okm.y.b, okm.y.c, okm.y.d⟩
    have sth : ∀ e, e = m.half.x ∨ e = m.half.y → Sn e.a ∧ Sn e.b ∧ Sn e.c ∧ Sn e.d := fun e he => by
      have := sml.half
      rcases he with rfl | rfl
      · exact ⟨this.x.a, this.x.b, this.x.c, this.x.d⟩
      · exact ⟨this.y.a, this.y.b, this.y.c, this.y.d⟩
    have smx : ∀ j, j < 2 → (m.ax j).Sml := fun j hj => by
      have : j = 0 ∨ j = 1 := by omega
      rcases this with rfl | rfl
      · exact sml.2.2.1
      · exact sml.2.2.2
    have ax : ∀ (j : Nat), j < 2 → ∀ (ρ : List Slot) (n : Nat) (k : DK), ρ[4]? = some (.d m.t) → ρ[14]? = some (.d (.int (j : Nat))) → ρ[3]? = some (.d (fr u v)) → ρ[0]? = some .tin → n ≤ 990 → (∀ t b, Low t b → -100000 ≤ t → t ≤ 100000 → 0 < b → b ≤ 18 → k (fr t b) (n + 2)) →
        e__law_one_right_1 R__law_plan_half R__law_sum R__law_of R__law_reach R__law_take R__law_low (R__law_lists 6) R__law_is_let R_stretch_at R_lets R_place_turned (R__law_same 6) R_box_at ρ n k := fun j hj ρ n k r4 r14 r3 r0 hn hk => by
      obtain ⟨⟨a1, a2⟩, ⟨c1, c2⟩, ⟨b1, b2⟩, ⟨d1, d2⟩, _, _⟩ := smx j hj
      have m1 := mul_b (x := u) (y := (m.ax j).a) (A := 100) (B := 100) z1 z2 a1 a2 (by decide)
      have m2 := mul_b (x := (m.ax j).c) (y := v) (A := 100) (B := 6) c1 c2 (by omega) z4 (by decide)
      have m3 := mul_b (x := u) (y := (m.ax j).b) (A := 100) (B := 100) z1 z2 b1 b2 (by decide)
      have m4 := mul_b (x := (m.ax j).d) (y := v) (A := 100) (B := 6) d1 d2 (by omega) z4 (by decide)
      have g1 := lw_b (t := u * (m.ax j).a - (m.ax j).c * v) z3 (M := 20000) (by decide) (by omega) (by omega)
      have g2 := lw_b (t := u * (m.ax j).b + (m.ax j).d * v) z3 (M := 20000) (by decide) (by omega) (by omega)
      have pick : ∀ (t b : Int) (n' : Nat), n' = n + 1 → -20000 ≤ t → t ≤ 20000 → 0 < b → b ≤ 6 → dFn R__law_of (sTin 0 (sCons (dLst (dCons (dTup (dCons (dC (.int 0)) (dCons (dC (.int 1)) dNil))) (dCons (dTup (dCons (dC (.int 0)) (dCons (dC (.int 1)) dNil))) (dCons (dTup (dCons (dC (.int 1)) (dCons (dC (.int 3)) dNil))) (dCons (dTup (dCons (dUn pNeg (dC (.int 1))) (dCons (dC (.int 2)) dNil))) dNil))))) sNil)) ρ n' fun x n1 => R__law_sum [.d (fr t b), .d x] n1 k := fun t b n' hn' t1 t2 b1 b2 => by
        subst hn'
        refine ⟨r0, _, rfl, ?_⟩
        have fin : ∀ c d : Int, -1 ≤ c → c ≤ 1 → 0 < d → d ≤ 3 → R__law_sum [.d (fr t b), .d (fr c d)] (n + 1 + 1) k := fun c d hc1 hc2 hd1 hd2 => by
          have q1 := mul_b (x := t) (y := d) (A := 20000) (B := 3) t1 t2 (by omega) hd2 (by decide)
          have q2 := mul_b (x := c) (y := b) (A := 1) (B := 6) hc1 hc2 (by omega) b2 (by decide)
          have q3 := mul_b (x := b) (y := d) (A := 6) (B := 3) (by omega) b2 (by omega) hd2 (by decide)
          have hb : 0 < b * d := Int.mul_pos b1 hd1
          refine R__law_sum.mk t b c d b1 hd1 ⟨by omega, by omega⟩ ⟨by omega, by omega⟩ ⟨by omega, by omega⟩ ⟨by omega, by omega⟩ ?_
          have g := lw_b (t := t * d + c * b) hb (M := 100000) (by decide) (by omega) (by omega)
          have g4 : lwB (t * d + c * b) (b * d) ≤ 18 := Int.le_trans g.2.2.2 (Int.le_trans q3.2 (by decide))
          exact hk _ _ (low_of hb) g.1 g.2.1 g.2.2.1 g4
        refine R__law_of.mk (n := n + 1) (.lst [fr 0 1, fr 0 1, fr 1 3, fr (-1) 2]) [fr 0 1, fr 0 1, fr 1 3, fr (-1) 2] rfl (by show 0 < 4; decide) (by show 4 ≤ 100; decide) (by omega) fun d hd => ?_
        have hd' : d = fr 0 1 ∨ d = fr 1 3 ∨ d = fr (-1) 2 := by simpa using hd
        rcases hd' with rfl | rfl | rfl
        · exact fin 0 1 (by decide) (by decide) (by decide) (by decide)
        · exact fin 1 3 (by decide) (by decide) (by decide) (by decide)
        · exact fin (-1) 2 (by decide) (by decide) (by decide) (by decide)
      refine ⟨_, r4, _, r14, _, r3, R__law_reach.mk m j u v hj zq ⟨r0, R__law_take.mk _ (by decide) (by decide) (by omega) fun q q0 q1 => ?_⟩⟩
      have hq : q = 0 ∨ q = 1 := by omega
      rcases hq with rfl | rfl
      · exact ⟨_, _, _, rfl, rfl, rfl, pick _ _ _ rfl g1.1 g1.2.1 g1.2.2.1 (by omega)⟩
      · exact ⟨_, _, _, rfl, rfl, rfl, pick _ _ _ rfl g2.1 g2.2.1 g2.2.2.1 (by omega)⟩
    refine ⟨_, rfl, _, rfl, _, _, _, rfl, rfl, atT hm, _, rfl, R__law_plan_half.mk p (by omega) ?_⟩
    refine ⟨_, rfl, _, _, rfl, rfl, _, _, rfl, rfl, _, rfl, _, _, rfl, rfl, ?_⟩
    refine ⟨_, rfl, Nat.le_of_ble_eq_true rfl, ?_⟩
    refine lc_one (ax 0 (by decide) _ _ _ rfl rfl rfl rfl (by omega) fun t0 b0 L0 f1 f2 f3 f4 => ?_)
    refine lc_one (ax 1 (by decide) _ _ _ rfl rfl rfl rfl (by omega) fun t1 b1 L1 f5 f6 f7 f8 => ?_)
    have hs : (⟨t0, b0, t1, b1⟩ : Sp).Ok := ⟨⟨by show (-1000000 : Int) ≤ t0; omega, by show t0 ≤ 1000000; omega, f3, by show b0 ≤ 1000; omega⟩, ⟨by show (-1000000 : Int) ≤ t1; omega, by show t1 ≤ 1000000; omega, f7, by show b1 ≤ 1000; omega⟩⟩
    obtain ⟨w1, w2⟩ := sml.1
    obtain ⟨v1, v2⟩ := sml.2.1
    have y1 := mul_b (x := m.w) (y := b0) (A := 100) (B := 18) (by omega) w2 (by omega) f4 (by decide)
    have y2 := mul_b (x := m.h) (y := b1) (A := 100) (B := 18) (by omega) v2 (by omega) f8 (by decide)
    refine ⟨_, rfl, _, rfl, Nat.le_of_ble_eq_true rfl, ?_⟩
    have neg : ∀ (ρ : List Slot) (n : Nat) (k : DK) (j : Nat) (w t b : Int), ρ[7]? = some (.d (.tup [fr t0 b0, fr t1 b1])) → ρ[14]? = some (.d (.int (j : Nat))) → ρ[4]? = some (.d m.t) → (j = 0 ∧ w = m.w ∧ t = t0 ∧ b = b0 ∨ j = 1 ∧ w = m.h ∧ t = t1 ∧ b = b1) → k (lw (-t - w * b) b) n →
        e__law_one_right_2 R__law_plan_half R__law_sum R__law_of R__law_reach R__law_take R__law_low (R__law_lists 6) R__law_is_let R_stretch_at R_lets R_place_turned (R__law_same 6) R_box_at ρ n k := fun ρ n k j w t b r7 r14 r4 hj hk => by
      rcases hj with ⟨rfl, rfl, rfl, rfl⟩ | ⟨rfl, rfl, rfl, rfl⟩
      · exact ⟨_, r7, _, r14, _, _, _, rfl, rfl, rfl, _, _, _, rfl, rfl, rfl, _, rfl, _, r4, _, r14, _, _, _, rfl, rfl, rfl, _, r7, _, r14, _, _, _, rfl, rfl, rfl, _, _, _, rfl, rfl, rfl, _, _, rfl, rfl, .inl ⟨by omega, by omega⟩, _, _, rfl, rfl, _, r7, _, r14, _, _, _, rfl, rfl, rfl, _, _, _, rfl, rfl, rfl, R__law_low.mk _ _ f3 (by omega) hk⟩
      · exact ⟨_, r7, _, r14, _, _, _, rfl, rfl, rfl, _, _, _, rfl, rfl, rfl, _, rfl, _, r4, _, r14, _, _, _, rfl, rfl, rfl, _, r7, _, r14, _, _, _, rfl, rfl, rfl, _, _, _, rfl, rfl, rfl, _, _, rfl, rfl, .inl ⟨by omega, by omega⟩, _, _, rfl, rfl, _, r7, _, r14, _, _, _, rfl, rfl, rfl, _, _, _, rfl, rfl, rfl, R__law_low.mk _ _ f7 (by omega) hk⟩
    refine lc_one (neg _ _ _ 0 m.w t0 b0 rfl rfl rfl (.inl ⟨rfl, rfl, rfl, rfl⟩) ?_)
    refine lc_one (neg _ _ _ 1 m.h t1 b1 rfl rfl rfl (.inr ⟨rfl, rfl, rfl, rfl⟩) ?_)
    have gf0 := lw_b (t := -t0 - m.w * b0) f3 (M := 1000000) (by decide) (by omega) (by omega)
    have gf1 := lw_b (t := -t1 - m.h * b1) f7 (M := 1000000) (by decide) (by omega) (by omega)
    have hf : (⟨lwT (-t0 - m.w * b0) b0, lwB (-t0 - m.w * b0) b0, lwT (-t1 - m.h * b1) b1, lwB (-t1 - m.h * b1) b1⟩ : Sp).Ok := ⟨⟨gf0.1, gf0.2.1, gf0.2.2.1, Int.le_trans gf0.2.2.2 (by omega)⟩, ⟨gf1.1, gf1.2.1, gf1.2.2.1, Int.le_trans gf1.2.2.2 (by omega)⟩⟩
    have hb : letB m.half u v ⟨lwT (-t0 - m.w * b0) b0, lwB (-t0 - m.w * b0) b0, lwT (-t1 - m.h * b1) b1, lwB (-t1 - m.h * b1) b1⟩ = letB m u v ⟨t0, b0, t1, b1⟩ := by
      show (!outB (m.x.half m.w) u v (lwT (-t0 - m.w * b0) b0) (lwB (-t0 - m.w * b0) b0) && !outB (m.y.half m.h) u v (lwT (-t1 - m.h * b1) b1) (lwB (-t1 - m.h * b1) b1)) = (!outB m.x u v t0 b0 && !outB m.y u v t1 b1)
      rw [out_half z3 f3, out_half z3 f7]
    have su : Sm u := ⟨by omega, by omega⟩
    have sv : Sm v := ⟨by omega, by omega⟩
    refine ⟨_, rfl, _, rfl, R__law_lists.mk _ _ (pT_lm (by omega)) ⟨_, rfl, _, rfl, _, rfl, R__law_is_let.mk m u v ⟨t0, b0, t1, b1⟩ zq hs st ?_⟩⟩
    refine ⟨_, rfl, Nat.le_of_ble_eq_true rfl, ?_⟩
    refine lc_one ⟨_, rfl, _, rfl, _, rfl, _, rfl, _, _, rfl, rfl, R_stretch_at.mk _ _ p _ i m 0 u v pok (.inr rfl) rfl hm (by decide) (.inr rfl) z3 su sv ?_⟩
    refine lc_one ⟨_, rfl, _, rfl, _, rfl, _, rfl, _, _, rfl, rfl, R_stretch_at.mk _ _ p _ i m 1 u v pok (.inr rfl) rfl hm (by decide) (.inr rfl) z3 su sv ?_⟩
    refine ⟨_, rfl, _, rfl, _, rfl, _, rfl, R__law_lists.mk _ _ (Sp.lm ⟨t0, b0, t1, b1⟩) (R_lets.mk _ _ _ p _ i m u v ⟨t0, b0, t1, b1⟩ _ pok (.inr rfl) rfl hm (.inl rfl) zq hs (.inr rfl) st rfl ?_)⟩
    have el : ((p.map Nm.t).length : Int) - 1 - (i : Int) = ((p.length - 1 - i : Nat) : Int) := by rw [List.length_map]; omega
    refine ⟨_, rfl, _, rfl, _, rfl, _, rfl, _, rfl, R_lets.mk _ _ _ _ _ (p.length - 1 - i) m.half u v ⟨lwT (-t0 - m.w * b0) b0, lwB (-t0 - m.w * b0) b0, lwT (-t1 - m.h * b1) b1, lwB (-t1 - m.h * b1) b1⟩ _ pok' (.inl rfl) el (at_half hm) (.inl rfl) zq hf (.inl rfl) sth hb ?_⟩
    refine ⟨_, rfl, _, rfl, _, rfl, R__law_lists.mk _ _ (Sp.lm ⟨t0, b0, t1, b1⟩) (R_place_turned.mk _ _ p _ i m ⟨t0, b0, t1, b1⟩ _ pok (.inr rfl) rfl hm hs (.inr rfl) (tup2 (turn1 f3) (turn1 f7)) ?_)⟩
    refine ⟨_, rfl, _, rfl, _, rfl, R_place_turned.mk _ _ _ _ (p.length - 1 - i) m.half ⟨lwT (-t0 - m.w * b0) b0, lwB (-t0 - m.w * b0) b0, lwT (-t1 - m.h * b1) b1, lwB (-t1 - m.h * b1) b1⟩ _ pok' (.inl rfl) el (at_half hm) hf (.inl rfl) (tup2 (turn2 L0) (turn2 L1)) ?_⟩
    refine ⟨_, _, rfl, rfl, Nat.le_of_ble_eq_true rfl, Nat.le_of_ble_eq_true rfl, ?_⟩
    refine ⟨_, rfl, Nat.le_of_ble_eq_true rfl, ?_⟩
    refine lc_one ⟨_, rfl, _, rfl, _, rfl, R__law_reach.mk m 0 u v (by decide) zq ?_⟩
    refine lc_one ⟨_, rfl, _, rfl, _, rfl, R__law_reach.mk m 1 u v (by decide) zq ?_⟩
    refine ⟨_, rfl, _, rfl, _, rfl, _, rfl, ?_⟩
    refine ⟨_, rfl, _, rfl, _, _, _, rfl, rfl, rfl, _, rfl, _, _, _, rfl, rfl, rfl, R__law_sum.mk t0 b0 m.w 1 f3 (by decide) ⟨by omega, by omega⟩ ⟨by omega, by omega⟩ smm.1 ⟨by decide, by decide⟩ ?_⟩
    refine ⟨_, rfl, _, _, _, rfl, rfl, rfl, _, rfl, _, _, _, rfl, rfl, rfl, R__law_sum.mk t1 b1 m.h 1 f7 (by decide) ⟨by omega, by omega⟩ ⟨by omega, by omega⟩ smm.2 ⟨by decide, by decide⟩ ?_⟩
    refine ⟨_, _, rfl, rfl, Nat.le_of_ble_eq_true rfl, Nat.le_of_ble_eq_true rfl, ?_⟩
    refine ⟨_, rfl, _, rfl, _, rfl, _, rfl, R__law_lists.mk _ _ (Sp.lm ⟨t0, b0, t1, b1⟩) (R_box_at.mk _ _ p _ i m ⟨t0, b0, t1, b1⟩ pok (.inr rfl) rfl hm hs (.inr rfl) ?_)⟩
    refine ⟨_, _, rfl, rfl, Nat.le_of_ble_eq_true rfl, Nat.le_of_ble_eq_true rfl, ?_⟩
    refine ⟨_, rfl, _, rfl, _, _, rfl, rfl, Nat.le_of_ble_eq_true rfl, Nat.le_of_ble_eq_true rfl, ?_⟩
    refine same_of rfl ?_ (h _ (by omega))
    have on : ∀ e : Te, Fit 4 (onD e u v) := fun e => .tup (by show 2 ≤ 1000; decide) (mem1 (fr_fit _ _) (mem1 (fr_fit _ _) mem0))
    have two : ∀ a b c d : Int, Fit 5 (.tup [fr a b, fr c d]) := fun a b c d => .tup (by show 2 ≤ 1000; decide) (mem1 (fr_fit _ _) (mem1 (fr_fit _ _) mem0))
    exact .lst (by show 6 ≤ 1000; decide) (mem1 (.lst (by show 2 ≤ 1000; decide) (mem1 (on _) (mem1 (on _) mem0))) (mem1 (.flat rfl) (mem1 (.flat rfl) (mem1 (two _ _ _ _) (mem1 (two _ _ _ _) (mem1 (.tup (by show 4 ≤ 1000; decide) (mem1 (fr_fit _ _) (mem1 (fr_fit _ _) (mem1 (fr_fit _ _) (mem1 (fr_fit _ _) mem0))))) mem0))))))
end DL

namespace DL
open PySem PySem.Spec PyProof.Rows L2
theorem lc_mapE {α : Type} {g : DG} {te : DE} {ρ : List Slot} (f e : α → D) (l : List α) (ys : List D) {n : Nat} {k : List D → Nat → Prop}
    (hy : l.map e = ys) (h : ∀ x, x ∈ l → ∀ n (k' : DK), k' (e x) n → g (f x) ρ fun ρ2 => te ρ2 n k') (hk : k ys n) : lcRun g dYes te ρ (l.map f) [] n k := by
  subst hy
  exact lc_map f e l h (by rw [List.nil_append]; exact hk)
def nameOf (s : List Sy) (e : Ft) : Nm := match s[e.c.toNat]? with
  | some z => nmOf z e.w e.f.t1 e.f.t2 e.f.t3 e.f.t4
  | none => ⟨0, 0, ⟨0, 0, 0, 0⟩, ⟨0, 0, 0, 0⟩⟩
theorem nmOf_mv (z : Sy) (w : Str) (a b c d x y : Int) : nmOf z w (a + x) (b + y) (c + x) (d + y) = (nmOf z w a b c d).by 1 x y 1 := by
  unfold nmOf Nm.by Te.by nmA nmB
  simp only [Int.one_mul]
  congr 1
  · split
    · rfl
    · split
      · rfl
      · split <;> rfl
  · split
    · rfl
    · split
      · rfl
      · split <;> rfl
theorem nameOf_mv {s : List Sy} {m : Nat} {e : Ft} (h : e.Ok s.length) (x y : Int) : nameOf s (e.mv x y) = (nameOf s e).by 1 x y 1 := by
  obtain ⟨c1, c2⟩ := h.c
  obtain ⟨z, hz⟩ : ∃ z, s[e.c.toNat]? = some z := ⟨_, List.getElem?_eq_getElem (by omega)⟩
  have e1 : nameOf s e = nmOf z e.w e.f.t1 e.f.t2 e.f.t3 e.f.t4 := by
    unfold nameOf
    rw [hz]
  have e2 : nameOf s (e.mv x y) = nmOf z e.w (e.mv x y).f.t1 (e.mv x y).f.t2 (e.mv x y).f.t3 (e.mv x y).f.t4 := by
    unfold nameOf
    rw [show (e.mv x y).c = e.c from rfl, hz]
    rfl
  rw [e1, e2, ← nmOf_mv]
  obtain ⟨c, w, f⟩ := e
  cases f with
  | pt a b => rfl
  | rd u b w' v o t =>
    show nmOf z w (u + x + (o + 1)) (b + y) (u + x + (o + t + 1)) (b + y) = nmOf z w (u + (o + 1) + x) (b + y) (u + (o + t + 1) + x) (b + y)
    rw [show u + x + (o + 1) = u + (o + 1) + x from by omega, show u + x + (o + t + 1) = u + (o + t + 1) + x from by omega]
  | bx a b p q => rfl
theorem nameOf_get {s : List Sy} {e : Ft} (h : e.Ok s.length) : ((s[e.c.toNat]?).map fun z => (nmOf z e.w e.f.t1 e.f.t2 e.f.t3 e.f.t4).t).getD .non = (nameOf s e).t := by
  obtain ⟨c1, c2⟩ := h.c
  obtain ⟨z, hz⟩ : ∃ z, s[e.c.toNat]? = some z := ⟨_, List.getElem?_eq_getElem (by omega)⟩
  unfold nameOf
  rw [hz]
  rfl
theorem Ft.Ok.mv {e : Ft} {m : Nat} (h : e.Ok m) (x y : Int) : (e.mv x y).Ok m := by
  obtain ⟨c, w, f⟩ := e
  obtain ⟨h1, h2, h3⟩ := h
  cases f with
  | pt a b => exact ⟨h1, h2, trivial⟩
  | rd u b w' v o t => exact ⟨h1, h2, h3⟩
  | bx a b p q => exact ⟨h1, h2, trivial⟩
theorem Ft.lm (e : Ft) : Lm 5 e.t e.l := by
  obtain ⟨c, w, f⟩ := e
  have hf : Lm 4 f.wh f.whl := by
    cases f with
    | pt x y => exact Lm.up (Lm.up (fr_lm x y))
    | rd u y w v o t => exact .seq rfl (by show 3 ≤ 1000; decide) (.cons (.seq rfl (by show 3 ≤ 1000; decide) (.cons (fr_lm _ _) (.cons (fr_lm _ _) (.cons (fr_lm _ _) .nil)))) (.cons (.flat rfl) (.cons (.flat rfl) .nil)))
    | bx x y p q => exact Lm.up (Lm.up (.seq rfl (by show 4 ≤ 1000; decide) (.cons (.flat rfl) (.cons (.flat rfl) (.cons (.flat rfl) (.cons (.flat rfl) .nil))))))
  exact .seq rfl (by show 4 ≤ 1000; decide) (.cons (.flat rfl) (.cons (.flat rfl) (.cons (.flat rfl) (.cons hf .nil))))
theorem Sy.lm (y : Sy) : Lm 5 y.t y.l :=
  Lm.up (.seq rfl (by show 9 ≤ 1000; decide) (.cons (.flat rfl) (.cons (.seq rfl (by show 1 ≤ 1000; decide) (.cons (.seq rfl (by show 2 ≤ 1000; decide) (.cons (.flat rfl) (.cons (.flat rfl) .nil))) .nil)) (.cons (.flat rfl) (.cons (.flat rfl) (.cons (.flat rfl) (.cons (.flat rfl) (.cons (.flat rfl) (.cons (.flat rfl) (.cons (.flat rfl) .nil))))))))))
theorem te_fit {m : Nat} (e : Te) : Fit (m + 2) e.t := .tup (by show 4 ≤ 1000; decide) (mem1 (.flat rfl) (mem1 (.flat rfl) (mem1 (.flat rfl) (mem1 (.flat rfl) mem0))))
theorem nm_fit {m : Nat} (a : Nm) : Fit (m + 3) a.t := .tup (by show 4 ≤ 1000; decide) (mem1 (.flat rfl) (mem1 (.flat rfl) (mem1 (te_fit _) (mem1 (te_fit _) mem0))))
theorem pT_fit {m : Nat} {p : List Nm} (h : p.length ≤ 1000) : Fit (m + 4) (pT p) := .tup (by rw [List.length_map]; exact h) fun d hd => by
  obtain ⟨a, _, rfl⟩ := List.mem_map.mp hd
  exact nm_fit a
theorem p__law_by_hand_right : RdOk 2 0 R__law_by_hand_right (t__law_by_hand_right R_sides_turned R_lets R_turned (R__law_same 6)) := by
  intro ss n kk h hl
  cases h with
  | mk h =>
    have ok0 : (⟨0, 0, 0, 0⟩ : Te).Ok := ⟨⟨by decide, by decide⟩, ⟨by decide, by decide⟩, ⟨by decide, by decide⟩, ⟨by decide, by decide⟩, by decide, by decide⟩
    have ok1 : (⟨0, 2, 0, 2⟩ : Te).Ok := ⟨⟨by decide, by decide⟩, ⟨by decide, by decide⟩, ⟨by decide, by decide⟩, ⟨by decide, by decide⟩, by decide, by decide⟩
    have ok2 : (⟨3, 2, 3, 2⟩ : Te).Ok := ⟨⟨by decide, by decide⟩, ⟨by decide, by decide⟩, ⟨by decide, by decide⟩, ⟨by decide, by decide⟩, by decide, by decide⟩
    have pok : POk [⟨4, 1, ⟨0, 2, 0, 2⟩, ⟨0, 0, 0, 0⟩⟩, ⟨4, 1, ⟨3, 2, 3, 2⟩, ⟨0, 0, 0, 0⟩⟩] := ⟨by decide, by decide, fun m hm => by
      rcases List.mem_cons.mp hm with rfl | hm
      · exact ⟨⟨by decide, by decide⟩, ⟨by decide, by decide⟩, ok1, ok0⟩
      · rw [List.mem_singleton.mp hm]
        exact ⟨⟨by decide, by decide⟩, ⟨by decide, by decide⟩, ok2, ok0⟩⟩
    have st : ∀ e : Te, e = ⟨3, 2, 3, 2⟩ ∨ e = ⟨0, 0, 0, 0⟩ → Sn e.a ∧ Sn e.b ∧ Sn e.c ∧ Sn e.d := fun e he => by
      rcases he with rfl | rfl
      · exact ⟨ok2.a, ok2.b, ok2.c, ok2.d⟩
      · exact ⟨ok0.a, ok0.b, ok0.c, ok0.d⟩
    have tri : TriOk [[], [2], [0, 1]] := ⟨by decide, fun j r hr => by
      match j with
      | 0 => cases Option.some.inj hr; rfl
      | 1 => cases Option.some.inj hr; rfl
      | 2 => cases Option.some.inj hr; rfl
      | j + 3 => simp at hr⟩
    refine R_sides_turned.mk _ [[], [2], [0, 1]] [[], [1], [0, 2]] tri (.inl rfl) (by decide) ?_
    refine ⟨_, rfl, R_lets.mk _ _ _ [⟨4, 1, ⟨0, 2, 0, 2⟩, ⟨0, 0, 0, 0⟩⟩, ⟨4, 1, ⟨3, 2, 3, 2⟩, ⟨0, 0, 0, 0⟩⟩] _ 1 ⟨4, 1, ⟨3, 2, 3, 2⟩, ⟨0, 0, 0, 0⟩⟩ 2 3 ⟨9, 2, 0, 1⟩ false pok (.inl rfl) rfl rfl (.inl rfl) ⟨by decide, by decide, by decide, by decide⟩ ⟨⟨by decide, by decide, by decide, by decide⟩, ⟨by decide, by decide, by decide, by decide⟩⟩ (.inl rfl) st (by decide +kernel) ?_⟩
    refine ⟨_, rfl, R_lets.mk _ _ _ [⟨4, 1, ⟨0, 2, 0, 2⟩, ⟨0, 0, 0, 0⟩⟩, ⟨4, 1, ⟨3, 2, 3, 2⟩, ⟨0, 0, 0, 0⟩⟩] _ 1 ⟨4, 1, ⟨3, 2, 3, 2⟩, ⟨0, 0, 0, 0⟩⟩ 2 3 ⟨4, 1, 0, 1⟩ true pok (.inl rfl) rfl rfl (.inl rfl) ⟨by decide, by decide, by decide, by decide⟩ ⟨⟨by decide, by decide, by decide, by decide⟩, ⟨by decide, by decide, by decide, by decide⟩⟩ (.inl rfl) st (by decide +kernel) ?_⟩
    refine ⟨_, rfl, R_turned.mk _ [⟨4, 1, ⟨0, 2, 0, 2⟩, ⟨0, 0, 0, 0⟩⟩, ⟨4, 1, ⟨3, 2, 3, 2⟩, ⟨0, 0, 0, 0⟩⟩] _ pok (.inl rfl) rfl ?_⟩
    refine ⟨_, _, _, rfl, rfl, rfl, ?_⟩
    refine ⟨_, rfl, _, rfl, _, rfl, _, rfl, _, rfl, ?_⟩
    refine same_of rfl ?_ h
    exact .lst (by show 4 ≤ 1000; decide) (mem1 (.tup (by show 3 ≤ 1000; decide) (mem1 (.tup (by show 0 ≤ 1000; decide) mem0) (mem1 (.tup (by show 1 ≤ 1000; decide) (mem1 (.flat rfl) mem0)) (mem1 (fr_fit _ _) mem0)))) (mem1 (.flat rfl) (mem1 (.flat rfl) (mem1 (nm_fit ⟨4, 1, ⟨-3, 6, -3, -2⟩, ⟨0, 1, 0, -1⟩⟩) mem0))))
theorem p__law_pages_right : RdOk 10 1 R__law_pages_right (t__law_pages_right R__law_looks R__law_take R__law_leaf R__law_named R_map_of (R__law_lists 6) R__law_moved (R__law_same 6) R__law_plan_by) := by
  intro ss n0 kk h hl
  cases h with
  | mk h3 h =>
    refine ⟨rfl, R__law_looks.mk (by omega) fun s hs n1 hn1 => ?_⟩
    have sp := hs.pos
    have sl := hs.le
    refine ⟨rfl, R__law_take.mk _ (by decide) (by decide) (by omega) fun q q0 q1 => ?_⟩
    refine ⟨_, _, rfl, rfl, _, rfl, by omega, by omega, ?_⟩
    have el : (ups 0 (1 + q).toNat).length = (1 + q).toNat := by simp [ups]
    refine ⟨by rw [el]; omega, ?_⟩
    have rows : ∀ (js : List D) (acc : List Ft) (n : Nat) (k' : List D → Nat → Prop) (ρ : List Slot), ρ = [.tin, .d (.tup (s.map Sy.t)), .no, .no, .no, .no, .no, .no, .no, .no] → n + 7 * js.length ≤ 200 → (∀ e, e ∈ acc → e.Ok s.length) →
        (∀ (l : List Ft) n', l.length = acc.length + js.length → (∀ e, e ∈ l → e.Ok s.length) → n' ≤ 200 → k' (l.map fun e => D.tup [e.t, e.f.box]) n') →
        lcRun (g__law_pages_right_1 R__law_looks R__law_take R__law_leaf R__law_named R_map_of (R__law_lists 6) R__law_moved (R__law_same 6) R__law_plan_by) dYes (e__law_pages_right_1 R__law_looks R__law_take R__law_leaf R__law_named R_map_of (R__law_lists 6) R__law_moved (R__law_same 6) R__law_plan_by) ρ js (acc.map fun e => D.tup [e.t, e.f.box]) n k' := fun js => by
      induction js with
      | nil =>
        intro acc n k' ρ _ hn ha hk
        exact hk acc n rfl ha (by simp only [List.length_nil] at hn; omega)
      | cons j js ih =>
        intro acc n k' ρ hρ hn ha hk
        subst hρ
        rw [List.length_cons] at hn
        refine lc_one ⟨rfl, _, rfl, _, _, rfl, rfl, R__law_leaf.mk (s.map Sy.t).length (by rw [List.length_map]; omega) (by omega) fun e he n' hn' => ?_⟩
        rw [List.length_map] at he
        have e2 : (acc.map fun e => D.tup [e.t, e.f.box]) ++ [D.tup [e.t, e.f.box]] = (acc ++ [e]).map fun e => D.tup [e.t, e.f.box] := by rw [List.map_append]; rfl
        rw [e2]
        refine ih (acc ++ [e]) n' k' _ rfl (by omega) (fun e' he' => ?_) fun l n'' hl' => hk l n'' (by simp only [List.length_append, List.length_cons, List.length_nil] at hl' ⊢; omega)
        rcases List.mem_append.mp he' with he' | he'
        · exact ha e' he'
        · rw [List.mem_singleton.mp he']
          exact he
    refine rows _ [] _ _ _ rfl (by rw [el]; omega) (fun e he => by simp at he) fun l n2 hl2 hok hn2 => ?_
    rw [el] at hl2
    simp only [List.length_nil] at hl2
    refine ⟨_, rfl, ?_⟩
    refine ⟨rfl, R__law_take.mk _ (by decide) (by decide) (by omega) fun x x0 x1 => ?_⟩
    refine ⟨_, _, rfl, rfl, rfl, R__law_take.mk _ (by decide) (by decide) (by omega) fun y y0 y1 => ?_⟩
    refine ⟨_, _, rfl, rfl, ?_⟩
    refine ⟨_, rfl, _, rfl, by rw [List.length_map]; omega, ?_⟩
    refine lc_mapE (fun e : Ft => D.tup [e.t, e.f.box]) (fun e => e.t) l (l.map Ft.t) rfl (fun e he n k' hk => ⟨_, rfl, _, _, _, rfl, rfl, rfl, hk⟩) ⟨_, rfl, ?_⟩
    refine ⟨_, rfl, _, rfl, by rw [List.length_map]; omega, ?_⟩
    refine lc_mapE (fun e : Ft => D.tup [e.t, e.f.box]) (fun e => (nameOf s e).t) l ((l.map (nameOf s)).map Nm.t) (by rw [List.map_map]; rfl) (fun e he n k' hk => ?_) ⟨_, rfl, ?_⟩
    · have ok := hok e he
      obtain ⟨c1, c2⟩ := ok.c
      obtain ⟨z, hz⟩ : ∃ z, s[e.c.toNat]? = some z := ⟨_, List.getElem?_eq_getElem (by omega)⟩
      have az : atI (s.map Sy.t) e.c = some z.t := by
        have := atL (p := s.map Sy.t) (i := e.c.toNat) (m := z.t) (by rw [List.getElem?_map, hz]; rfl)
        rw [show ((e.c.toNat : Nat) : Int) = e.c from by omega] at this
        exact this
      have en : nameOf s e = nmOf z e.w e.f.t1 e.f.t2 e.f.t3 e.f.t4 := by
        unfold nameOf
        rw [hz]
      rw [en] at hk
      exact ⟨_, rfl, _, rfl, _, _, _, rfl, rfl, rfl, _, _, _, rfl, rfl, rfl, _, _, _, rfl, rfl, az, _, rfl, _, _, _, rfl, rfl, rfl, _, _, _, rfl, rfl, rfl, _, rfl, _, _, _, rfl, rfl, rfl, R__law_named.mk z e.w _ _ _ _ (hs.ok z (List.mem_of_getElem? hz)) ok.w hk⟩
    · have lmx : Lm 6 (.tup (l.map Ft.t)) (.lst (l.map Ft.l)) := .seq rfl (by rw [List.length_map]; omega) (All2.maps fun e _ => e.lm)
      have lmy : Lm 6 (.tup (s.map Sy.t)) (.lst (s.map Sy.l)) := .seq rfl (by rw [List.length_map]; omega) (All2.maps fun e _ => e.lm)
      have r1 : D.tup (l.map fun e => ((s[e.c.toNat]?).map fun z => (nmOf z e.w e.f.t1 e.f.t2 e.f.t3 e.f.t4).t).getD .non) = pT (l.map (nameOf s)) := by
        unfold pT
        rw [List.map_map]
        congr 1
        exact List.map_congr_left fun e he => nameOf_get (hok e he)
      have r2 : D.tup ((l.map (Ft.mv (x - 20) (y - 20))).map fun e => ((s[e.c.toNat]?).map fun z => (nmOf z e.w e.f.t1 e.f.t2 e.f.t3 e.f.t4).t).getD .non) = pT ((l.map (nameOf s)).map fun m => m.by 1 (x - 20) (y - 20) 1) := by
        unfold pT
        rw [List.map_map, List.map_map, List.map_map]
        congr 1
        refine List.map_congr_left fun e he => ?_
        have := nameOf_get ((hok e he).mv (x - 20) (y - 20))
        rw [nameOf_mv (m := 0) (hok e he)] at this
        exact this
      refine ⟨_, rfl, R__law_lists.mk _ _ lmx ⟨_, rfl, R__law_lists.mk _ _ lmy (R_map_of.mk _ _ l s _ hs (by omega) hok (.inr rfl) (.inr rfl) r1 ?_)⟩⟩
      refine ⟨_, rfl, _, rfl, by rw [List.length_map]; omega, ?_⟩
      refine lc_mapE Ft.t (fun e => (e.mv (x - 20) (y - 20)).t) l ((l.map (Ft.mv (x - 20) (y - 20))).map Ft.t) (by rw [List.map_map]; rfl) (fun e he n k' hk => ⟨_, rfl, _, rfl, _, rfl, R__law_moved.mk e _ _ hk⟩) ⟨_, rfl, ?_⟩
      refine ⟨_, rfl, R_map_of.mk _ _ (l.map (Ft.mv (x - 20) (y - 20))) s _ hs (by rw [List.length_map]; omega) (fun e he => ?_) (.inl rfl) (.inl rfl) r2 ?_⟩
      · obtain ⟨e', he', rfl⟩ := List.mem_map.mp he
        exact (hok e' he').mv _ _
      · refine ⟨_, rfl, _, rfl, _, rfl, _, rfl, _, rfl, R__law_plan_by.mk (l.map (nameOf s)) 1 _ _ 1 (by rw [List.length_map]; omega) ⟨by decide, by decide⟩ ⟨by decide, by decide⟩ ?_⟩
        refine same_of rfl ?_ (h _)
        exact .lst (by show 2 ≤ 1000; decide) (mem1 (pT_fit (by rw [List.length_map]; omega)) (mem1 (pT_fit (by rw [List.length_map, List.length_map]; omega)) mem0))
end DL

namespace DL
open PySem PySem.Spec PyProof.Rows L2
theorem half_half (m : Nm) : m.half.half = m := by
  obtain ⟨w, h, ⟨a, c, b, d⟩, ⟨a', c', b', d'⟩⟩ := m
  show (⟨w, h, ⟨- -a, c - w + w, - -b, d + w - w⟩, ⟨- -a', c' - h + h, - -b', d' + h - h⟩⟩ : Nm) = _
  simp only [Int.neg_neg, Int.sub_add_cancel, Int.add_sub_cancel]
theorem half_back (p : List Nm) : (p.reverse.map Nm.half).reverse.map Nm.half = p := by
  rw [← List.map_reverse, List.reverse_reverse, List.map_map]
  have : (Nm.half ∘ Nm.half) = id := funext half_half
  rw [this, List.map_id]
theorem half_len (T : List (List Int)) : (tabHalf T).length = T.length := by simp [tabHalf]
theorem half_row {T : List (List Int)} {j : Nat} (h : j < T.length) : (tabHalf T)[j]? = some ((List.range j).map fun i => cell T (T.length - 1 - i) (T.length - 1 - j)) := by
  unfold tabHalf
  rw [List.getElem?_map, List.getElem?_range h]
  rfl
theorem half_tri {T : List (List Int)} (h : TriOk T) : TriOk (tabHalf T) := ⟨by rw [half_len]; exact h.le, fun j r hr => by
  have hj : j < T.length := by rw [← half_len]; exact (List.getElem?_eq_some_iff.mp hr).1
  rw [half_row hj] at hr
  rw [← Option.some.inj hr]
  simp⟩
theorem half_cell {T : List (List Int)} {a b : Nat} (ha : a < T.length) (hb : b < a) : cell (tabHalf T) a b = cell T (T.length - 1 - b) (T.length - 1 - a) := by
  have e : (tabHalf T).getD a [] = (List.range a).map fun i => cell T (T.length - 1 - i) (T.length - 1 - a) := getD_at (half_row ha)
  show ((tabHalf T).getD a []).getD b 0 = _
  rw [e]
  refine getD_at ?_
  rw [List.getElem?_map, List.getElem?_range hb]
  rfl
theorem tri_row {T : List (List Int)} (h : TriOk T) {j : Nat} (hj : j < T.length) : T[j]? = some ((List.range j).map fun i => cell T j i) := by
  obtain ⟨r, hr⟩ : ∃ r, T[j]? = some r := ⟨_, List.getElem?_eq_getElem hj⟩
  have hl := h.row j r hr
  rw [hr]
  congr 1
  apply List.ext_getElem?
  intro i
  by_cases hi : i < j
  · obtain ⟨v, hv⟩ : ∃ v, r[i]? = some v := ⟨_, List.getElem?_eq_getElem (by omega)⟩
    rw [hv, List.getElem?_map, List.getElem?_range hi]
    show some v = some (cell T j i)
    unfold cell
    rw [getD_at hr, getD_at hv]
  · rw [List.getElem?_eq_none (by omega), List.getElem?_eq_none (by simp; omega)]
theorem tab_back {T : List (List Int)} (h : TriOk T) : tabHalf (tabHalf T) = T := by
  apply List.ext_getElem?
  intro j
  by_cases hj : j < T.length
  · rw [half_row (by rw [half_len]; exact hj), tri_row h hj, half_len]
    congr 1
    refine List.map_congr_left fun i hi => ?_
    have hi' := List.mem_range.mp hi
    rw [half_cell (by omega) (by omega), show T.length - 1 - (T.length - 1 - j) = j from by omega, show T.length - 1 - (T.length - 1 - i) = i from by omega]
  · rw [List.getElem?_eq_none (by rw [half_len, half_len]; omega), List.getElem?_eq_none (by omega)]
theorem row_lm (r : List Int) (h : r.length ≤ 1000) : Lm 2 (rowT r) (rowL r) := .seq rfl (by simpa using h) (All2.maps fun i _ => .flat rfl)
theorem tab_lm {T : List (List Int)} (h : TriOk T) : Lm 6 (tabT T) (tabL T) := Lm.up (Lm.up (Lm.up (.seq rfl (by rw [List.length_map]; have := h.le; omega) (All2.maps fun r hr => row_lm r (h.len r hr)))))
theorem tab_fit {m : Nat} {T : List (List Int)} (h : TriOk T) : Fit (m + 3) (tabT T) := .tup (by rw [List.length_map]; have := h.le; omega) fun d hd => by
  obtain ⟨r, hr, rfl⟩ := List.mem_map.mp hd
  exact .tup (by rw [List.length_map]; exact h.len r hr) fun d hd => by
    obtain ⟨i, _, rfl⟩ := List.mem_map.mp hd
    exact .flat rfl
section
abbrev RLs : RD := R__law_lists 6
abbrev RSm : RD := R__law_same 6
/-- the lot: the first place and some others -/
theorem lot_run {L : Nat} {s1 s2 s3 s4 s5 s6 s7 s8 s9 s10 s11 s12 s13 s14 s15 s16 s17 : Slot} : ∀ (r acc : List Nat) (n : Nat) (k : List D → Nat → Prop), n + r.length ≤ 500 → (0 < acc.length ∨ ∃ r', r = 0 :: r') → (∀ j, j ∈ acc → j < L) → (∀ j, j ∈ r → j < L) → acc.length + r.length ≤ 16 →
    (∀ (js : List Nat) n', 0 < js.length → js.length ≤ 16 → (∀ j, j ∈ js → j < L) → n' ≤ n + r.length → k (js.map fun j => D.int (j : Nat)) n') →
    lcRun (g__law_plans_right_1 R__law_drawn_plan R__law_number R__law_take R_is_map R_turned RLs R__law_plan_half R_part_of R_joined R_map_moved R_spread R_sized R__law_plan_by R_sides_turned R_do_cover R__law_covers RSm R__law_one_right) (f__law_plans_right_1 R__law_drawn_plan R__law_number R__law_take R_is_map R_turned RLs R__law_plan_half R_part_of R_joined R_map_moved R_spread R_sized R__law_plan_by R_sides_turned R_do_cover R__law_covers RSm R__law_one_right) (e__law_plans_right_1 R__law_drawn_plan R__law_number R__law_take R_is_map R_turned RLs R__law_plan_half R_part_of R_joined R_map_moved R_spread R_sized R__law_plan_by R_sides_turned R_do_cover R__law_covers RSm R__law_one_right)
      [.tin, s1, s2, s3, s4, s5, s6, s7, s8, s9, s10, s11, s12, s13, s14, s15, s16, s17] (r.map fun i : Nat => D.int (0 + (i : Int))) (acc.map fun j : Nat => D.int (j : Nat)) n k := fun r => by
  induction r with
  | nil =>
    intro acc n k hn h0 ha hr hl hk
    rcases h0 with h0 | ⟨r', h0⟩
    · exact hk acc n h0 (by simpa using hl) ha (by simp)
    · cases h0
  | cons j r ih =>
    intro acc n k hn h0 ha hr hl hk
    rw [List.length_cons] at hn hl
    have take : ∀ n', n ≤ n' → n' ≤ n + 1 → lcRun (g__law_plans_right_1 R__law_drawn_plan R__law_number R__law_take R_is_map R_turned RLs R__law_plan_half R_part_of R_joined R_map_moved R_spread R_sized R__law_plan_by R_sides_turned R_do_cover R__law_covers RSm R__law_one_right) (f__law_plans_right_1 R__law_drawn_plan R__law_number R__law_take R_is_map R_turned RLs R__law_plan_half R_part_of R_joined R_map_moved R_spread R_sized R__law_plan_by R_sides_turned R_do_cover R__law_covers RSm R__law_one_right) (e__law_plans_right_1 R__law_drawn_plan R__law_number R__law_take R_is_map R_turned RLs R__law_plan_half R_part_of R_joined R_map_moved R_spread R_sized R__law_plan_by R_sides_turned R_do_cover R__law_covers RSm R__law_one_right)
        [.tin, s1, s2, s3, s4, s5, s6, s7, s8, s9, s10, s11, s12, s13, s14, s15, s16, s17] (r.map fun i : Nat => D.int (0 + (i : Int))) ((acc.map fun j : Nat => D.int (j : Nat)) ++ [D.int (0 + (j : Int))]) n' k := fun n' h1 h2 => by
      have e : (acc.map fun j : Nat => D.int (j : Nat)) ++ [D.int (0 + (j : Int))] = (acc ++ [j]).map fun j : Nat => D.int (j : Nat) := by
        rw [List.map_append, Int.zero_add]
        rfl
      rw [e]
      refine ih (acc ++ [j]) n' k (by omega) (.inl (by simp)) (fun i hi => ?_) (fun i hi => hr i (List.mem_cons_of_mem _ hi)) (by rw [List.length_append]; show acc.length + 1 + _ ≤ 16; omega) fun js n'' q1 q2 q3 q4 => hk js n'' q1 q2 q3 (by rw [List.length_cons]; omega)
      rcases List.mem_append.mp hi with hi | hi
      · exact ha i hi
      · rw [List.mem_singleton.mp hi]
        exact hr j (List.mem_cons_self ..)
    refine ⟨_, rfl, rfl, _, rfl, ?_⟩
    refine ite_d (fun e => ⟨_, rfl, take n (Nat.le_refl _) (by omega)⟩) (fun e => ?_)
    refine ⟨rfl, R__law_take.mk _ (by decide) (by decide) (by omega) fun q q0 q1 => ⟨rfl, _, rfl, ?_⟩⟩
    have hne : 0 < acc.length := by
      rcases h0 with h0 | ⟨r', h0⟩
      · exact h0
      · exfalso
        injection h0 with h0 _
        exact e (by omega)
    refine ite_d (fun e => ⟨_, rfl, take (n + 1) (by omega) (Nat.le_refl _)⟩) (fun e => ?_)
    exact ih acc (n + 1) k (by omega) (.inl hne) ha (fun i hi => hr i (List.mem_cons_of_mem _ hi)) (by omega) fun js n'' q1 q2 q3 q4 => hk js n'' q1 q2 q3 (by rw [List.length_cons]; omega)
/-- a drawn row -/
theorem row_run {s1 s2 s3 s4 s5 s6 s7 s8 s9 s10 s11 s12 s13 s14 s15 s16 s17 : Slot} : ∀ (r : List D) (acc : List Int) (n : Nat) (k : List D → Nat → Prop), n + r.length ≤ 900 →
    (∀ (l : List Int) n', l.length = acc.length + r.length → n' ≤ n + r.length → k (l.map D.int) n') →
    lcRun (g__law_plans_right_4 R__law_drawn_plan R__law_number R__law_take R_is_map R_turned RLs R__law_plan_half R_part_of R_joined R_map_moved R_spread R_sized R__law_plan_by R_sides_turned R_do_cover R__law_covers RSm R__law_one_right) dYes (e__law_plans_right_4 R__law_drawn_plan R__law_number R__law_take R_is_map R_turned RLs R__law_plan_half R_part_of R_joined R_map_moved R_spread R_sized R__law_plan_by R_sides_turned R_do_cover R__law_covers RSm R__law_one_right)
      [.tin, s1, s2, s3, s4, s5, s6, s7, s8, s9, s10, s11, s12, s13, s14, s15, s16, s17] r (acc.map D.int) n k := fun r => by
  induction r with
  | nil =>
    intro acc n k hn hk
    exact hk acc n rfl (by simp)
  | cons j r ih =>
    intro acc n k hn hk
    rw [List.length_cons] at hn
    refine lc_one ⟨rfl, R__law_take.mk _ (by decide) (by decide) (by omega) fun q q0 q1 => ?_⟩
    have e : acc.map D.int ++ [D.int q] = (acc ++ [q]).map D.int := by
      rw [List.map_append]
      rfl
    rw [e]
    exact ih (acc ++ [q]) (n + 1) k (by omega) fun l n' q1 q2 => hk l n' (by simp only [List.length_append, List.length_cons, List.length_nil] at q1 ⊢; omega) (by rw [List.length_cons]; omega)
/-- the drawn table -/
theorem tab_run {s1 s2 s3 s4 s5 s6 s7 s8 s9 s10 s11 s12 s13 s14 s15 s16 s17 : Slot} : ∀ (c : Nat) (acc : List (List Int)) (n : Nat) (k : List D → Nat → Prop), n + 6 * c ≤ 800 → acc.length + c ≤ 6 → TriOk acc →
    (∀ (T : List (List Int)) n', T.length = acc.length + c → TriOk T → n' ≤ n + 6 * c → k (T.map rowT) n') →
    lcRun (g__law_plans_right_3 R__law_drawn_plan R__law_number R__law_take R_is_map R_turned RLs R__law_plan_half R_part_of R_joined R_map_moved R_spread R_sized R__law_plan_by R_sides_turned R_do_cover R__law_covers RSm R__law_one_right) dYes (e__law_plans_right_3 R__law_drawn_plan R__law_number R__law_take R_is_map R_turned RLs R__law_plan_half R_part_of R_joined R_map_moved R_spread R_sized R__law_plan_by R_sides_turned R_do_cover R__law_covers RSm R__law_one_right)
      [.tin, s1, s2, s3, s4, s5, s6, s7, s8, s9, s10, s11, s12, s13, s14, s15, s16, s17] ((List.range' acc.length c).map fun i : Nat => D.int (0 + (i : Int))) (acc.map rowT) n k := fun c => by
  induction c with
  | zero =>
    intro acc n k hn hl ht hk
    exact hk acc n rfl ht (by omega)
  | succ c ih =>
    intro acc n k hn hl ht hk
    refine lc_one ⟨_, rfl, _, rfl, by omega, by omega, ?_⟩
    have e0 : (0 + (acc.length : Int)).toNat = acc.length := by omega
    rw [e0]
    have el : (ups 0 acc.length).length = acc.length := by simp [ups]
    refine ⟨by rw [el]; omega, row_run (ups 0 acc.length) [] _ _ (by rw [el]; omega) fun l n' h1 h2 => ⟨_, rfl, ?_⟩⟩
    rw [el] at h1 h2
    simp only [List.length_nil, Nat.zero_add] at h1
    have e1 : acc.map rowT ++ [D.tup (l.map D.int)] = (acc ++ [l]).map rowT := by
      rw [List.map_append]
      rfl
    have e2 : acc.length + 1 = (acc ++ [l]).length := by simp
    rw [e1, e2]
    refine ih (acc ++ [l]) n' k (by omega) (by rw [← e2]; omega) ⟨by rw [← e2]; omega, fun j r hr => ?_⟩ fun T n'' q1 q2 q3 => hk T n'' (by rw [← e2] at q1; omega) q2 (by omega)
    by_cases hj : j < acc.length
    · rw [List.getElem?_append_left hj] at hr
      exact ht.row j r hr
    · rw [List.getElem?_append_right (by omega)] at hr
      by_cases hz : j - acc.length = 0
      · rw [hz] at hr
        cases Option.some.inj hr
        omega
      · rw [List.getElem?_eq_none (by simp; omega)] at hr
        cases hr
end
end DL

namespace DL
open PySem PySem.Spec PyProof.Rows L2
theorem half_run {T : List (List Int)} {lz : Int} {s0 s1 s2 s3 s4 s5 s6 s7 s8 s9 s14 s15 s16 s17 : Slot} (h1 : TriOk T) (hz : lz = (T.length : Int) - 1) : ∀ (js : List Nat) (acc L : List D) (s13 : Slot) (n : Nat) (G : DEnds), acc.length + js.length ≤ 16 → (∀ j, j ∈ js → j < T.length) →
    (acc ++ js.map fun j => rowT ((List.range j).map fun i => cell T (T.length - 1 - i) (T.length - 1 - j))) = L → (∀ s13, G.nx [s0, s1, s2, s3, s4, s5, s6, s7, s8, s9, .d (tabT T), .d (.int lz), .own L, s13, s14, s15, s16, s17] n) →
    forRun (g__law_plans_right_L1 R__law_drawn_plan R__law_number R__law_take R_is_map R_turned RLs R__law_plan_half R_part_of R_joined R_map_moved R_spread R_sized R__law_plan_by R_sides_turned R_do_cover R__law_covers RSm R__law_one_right) (t__law_plans_right_L1 R__law_drawn_plan R__law_number R__law_take R_is_map R_turned RLs R__law_plan_half R_part_of R_joined R_map_moved R_spread R_sized R__law_plan_by R_sides_turned R_do_cover R__law_covers RSm R__law_one_right)
      G (js.map fun i : Nat => D.int (0 + (i : Int))) [s0, s1, s2, s3, s4, s5, s6, s7, s8, s9, .d (tabT T), .d (.int lz), .own acc, s13, s14, s15, s16, s17] n := fun js => by
  have l1 := h1.le
  subst hz
  induction js with
  | nil =>
    intro acc L s13 n G _ _ hL hG
    rw [List.map_nil, List.append_nil] at hL
    subst hL
    exact hG s13
  | cons j js ih =>
    intro acc L s13 n G ha hj hL hG
    rw [List.length_cons] at ha
    have hj0 := hj j (List.mem_cons_self ..)
    refine ⟨_, rfl, by omega, _, rfl, _, rfl, by omega, by omega, ?_⟩
    have e0 : (0 + (j : Int)).toNat = j := by omega
    rw [e0]
    refine ⟨by rw [show (ups 0 j).length = j from by simp [ups]]; omega, ?_⟩
    refine lc_map (fun i : Nat => D.int (0 + (i : Int))) (fun i => D.int (cell T (T.length - 1 - i) (T.length - 1 - j))) (List.range j) (fun i hi n k' hk => ?_) ⟨_, rfl, ?_⟩
    · have hi' := List.mem_range.mp hi
      obtain ⟨r, hr⟩ : ∃ r, T[T.length - 1 - i]? = some r := ⟨_, List.getElem?_eq_getElem (by omega)⟩
      have hrl := h1.row _ _ hr
      obtain ⟨v, hv⟩ : ∃ v, r[T.length - 1 - j]? = some v := ⟨_, List.getElem?_eq_getElem (by omega)⟩
      have ec : cell T (T.length - 1 - i) (T.length - 1 - j) = v := by
        unfold cell
        rw [getD_at hr, getD_at hv]
      rw [ec] at hk
      have a1 : atI (T.map rowT) ((T.length : Int) - 1 - (0 + (i : Int))) = some (rowT r) := by
        rw [show (T.length : Int) - 1 - (0 + (i : Int)) = ((T.length - 1 - i : Nat) : Int) from by omega]
        exact atL (by rw [List.getElem?_map, hr]; rfl)
      have a2 : atI (r.map D.int) ((T.length : Int) - 1 - (0 + (j : Int))) = some (.int v) := by
        rw [show (T.length : Int) - 1 - (0 + (j : Int)) = ((T.length - 1 - j : Nat) : Int) from by omega]
        exact atL (by rw [List.getElem?_map, hv]; rfl)
      exact ⟨_, rfl, _, rfl, _, rfl, _, _, rfl, rfl, _, _, _, rfl, rfl, a1, _, rfl, _, rfl, _, _, rfl, rfl, _, _, _, rfl, rfl, a2, hk⟩
    · refine ih (acc ++ [_]) L _ n G (by rw [List.length_append]; show acc.length + 1 + _ ≤ 16; omega) (fun j hj' => hj j (List.mem_cons_of_mem _ hj')) ?_ hG
      rw [List.map_cons, app_cons] at hL
      rw [← hL]
      unfold rowT
      rw [List.map_map]
      rfl
theorem Lq.fq {t b : Int} (h : Lq t b) : Fq t b := ⟨by have := h.t1; omega, by have := h.t2; omega, h.b1, by have := h.b2; omega⟩
theorem at_int {p : List Nm} {i : Int} (h0 : 0 ≤ i) (h1 : i < (p.length : Int)) : ∃ m, p[i.toNat]? = some m ∧ atI (p.map Nm.t) i = some m.t := by
  obtain ⟨m, hm⟩ : ∃ m, p[i.toNat]? = some m := ⟨_, List.getElem?_eq_getElem (by omega)⟩
  have := atT hm
  rw [show ((i.toNat : Nat) : Int) = i from by omega] at this
  exact ⟨m, hm, this⟩
theorem p__law_plans_right : RdOk 18 1 R__law_plans_right (t__law_plans_right R__law_drawn_plan R__law_number R__law_take R_is_map R_turned RLs R__law_plan_half R_part_of R_joined R_map_moved R_spread R_sized R__law_plan_by R_sides_turned R_do_cover R__law_covers RSm R__law_one_right) := by
  intro ss n0 kk h hl
  cases h with
  | mk h3 h =>
    refine ⟨rfl, R__law_drawn_plan.mk (by omega) fun p hp n1 hn1 => ⟨rfl, R__law_drawn_plan.mk (by omega) fun o ho n2 hn2 => ⟨rfl, R__law_number.mk 2 1 (by decide) (by decide) (by omega) fun u v z n3 hn3 => ?_⟩⟩⟩
    refine ⟨rfl, R__law_take.mk _ (by decide) (by decide) (by omega) fun x x0 x1 => ⟨_, _, rfl, rfl, rfl, R__law_take.mk _ (by decide) (by decide) (by omega) fun y y0 y1 => ⟨_, _, rfl, rfl, rfl, R__law_take.mk _ (by decide) (by decide) (by omega) fun a a0 a1 => ⟨_, _, rfl, rfl, ?_⟩⟩⟩⟩
    have pl := hp.le
    have pp := hp.pos
    have ol := ho.le
    have pok := hp.ok'
    have pokh := hp.half
    have ook := ho.ok'
    have sma : Sm (1 + a) := ⟨by omega, by omega⟩
    have sm1 : Sm 1 := ⟨by decide, by decide⟩
    have lmp : Lm 6 (pT p) (pL p) := pT_lm (by omega)
    have lmo : Lm 6 (pT o) (pL o) := pT_lm (by omega)
    refine ⟨_, rfl, _, _, rfl, rfl, _, rfl, by omega, by rw [List.length_map]; omega, ?_⟩
    rw [List.length_map, Int.toNat_natCast]
    refine ⟨by rw [show (ups 0 p.length).length = p.length from by simp [ups]]; omega, ?_⟩
    refine lot_run (L := p.length) (List.range p.length) [] _ _ (by rw [List.length_range]; omega) (.inr ?_) (fun j hj => by simp at hj) (fun j hj => List.mem_range.mp hj) (by rw [List.length_range]; show 0 + _ ≤ 16; omega) fun js n4 j1 j2 j3 hn4 => ⟨_, rfl, ?_⟩
    · obtain ⟨m, hm⟩ : ∃ m, p.length = m + 1 := ⟨p.length - 1, by omega⟩
      rw [hm, List.range_succ_eq_map]
      exact ⟨_, rfl⟩
    rw [List.length_range] at hn4
    refine ⟨_, rfl, R_is_map.mk p pok ⟨_, rfl, R__law_lists.mk _ _ lmp (R_turned.mk _ p _ pok (.inr rfl) rfl ?_)⟩⟩
    refine ⟨_, rfl, R__law_plan_half.mk p (by omega) (R_turned.mk _ _ _ pokh (.inl rfl) (half_back p) ?_)⟩
    refine ⟨_, rfl, R__law_lists.mk _ _ lmp ⟨_, rfl, _, _, rfl, rfl, R_part_of.mk _ p js pok (.inr rfl) ⟨j1, j2⟩ j3 ?_⟩⟩
    refine ⟨_, rfl, _, rfl, R__law_lists.mk _ _ lmo (R_joined.mk _ _ p o (.tup (p.map Nm.t ++ o.map Nm.t)) pok ook (.inl rfl) (.inr rfl) (by unfold pT; rw [List.map_append]) ?_)⟩
    refine ⟨_, rfl, R__law_plan_half.mk p (by omega) ⟨_, rfl, _, rfl, _, rfl, by rw [List.length_map]; omega, ?_⟩⟩
    refine lc_mapE (fun j : Nat => D.int (j : Int)) (fun j => ((p[j]?).map Nm.t).getD .non) js _ rfl (fun j hj n k' hk => ?_) ⟨_, rfl, ?_⟩
    · obtain ⟨m, hm⟩ : ∃ m, p[j]? = some m := ⟨_, List.getElem?_eq_getElem (j3 j hj)⟩
      rw [hm] at hk
      exact ⟨_, rfl, _, rfl, _, _, _, rfl, rfl, atT hm, hk⟩
    refine ⟨_, rfl, _, rfl, _, _, rfl, rfl, by rw [List.length_map]; omega, by rw [List.length_map]; omega, ?_⟩
    refine ⟨_, rfl, _, rfl, _, rfl, R__law_lists.mk _ _ lmp ⟨_, rfl, _, rfl, R_map_moved.mk _ p _ _ pok (.inr rfl) ?_⟩⟩
    refine ⟨_, rfl, _, rfl, R_spread.mk _ p _ pok (.inl rfl) sma ⟨_, rfl, R__law_lists.mk _ _ lmp ⟨_, rfl, R_sized.mk _ p _ pok (.inr rfl) sma ?_⟩⟩⟩
    refine ⟨_, _, rfl, rfl, Nat.le_of_ble_eq_true rfl, Nat.le_of_ble_eq_true rfl, ?_⟩
    refine ⟨_, rfl, _, rfl, _, rfl, _, rfl, _, rfl, R__law_plan_by.mk p 1 _ _ 1 (by omega) sm1 sm1 ?_⟩
    refine ⟨_, rfl, _, rfl, R__law_plan_by.mk p _ 0 0 1 (by omega) sma sm1 ?_⟩
    refine ⟨_, rfl, _, rfl, R__law_plan_by.mk p 1 0 0 _ (by omega) sm1 sma ?_⟩
    refine ⟨_, _, rfl, rfl, Nat.le_of_ble_eq_true rfl, Nat.le_of_ble_eq_true rfl, ?_⟩
    refine ⟨_, rfl, _, _, rfl, rfl, _, rfl, by omega, by rw [List.length_map]; omega, ?_⟩
    rw [List.length_map, Int.toNat_natCast]
    refine ⟨by rw [show (ups 0 p.length).length = p.length from by simp [ups]]; omega, ?_⟩
    unfold ups
    rw [List.range_eq_range']
    refine tab_run p.length [] _ _ (by omega) (by show 0 + _ ≤ 6; omega) ⟨by decide, fun j r hr => by simp at hr⟩ fun T n5 hT tri hn5 => ⟨_, rfl, ?_⟩
    simp only [List.length_nil, Nat.zero_add] at hT
    refine ⟨_, rfl, _, _, rfl, rfl, _, _, rfl, rfl, ?_⟩
    refine ⟨_, rfl, _, _, rfl, rfl, _, rfl, by omega, by rw [List.length_map]; omega, ?_⟩
    rw [List.length_map, Int.toNat_natCast]
    refine half_run tri (by omega) (List.range p.length) [] ((tabHalf T).map rowT) _ _ _ (by rw [List.length_range]; show 0 + _ ≤ 16; omega) (fun j hj => by have := List.mem_range.mp hj; omega) (by rw [← hT]; unfold tabHalf; rw [List.map_map]; rfl) fun s13 => ?_
    refine ⟨_, rfl, _, rfl, _, rfl, ?_⟩
    refine ⟨_, rfl, _, rfl, R__law_lists.mk _ _ (tab_lm tri) (R_sides_turned.mk _ T _ tri (.inr rfl) rfl ⟨_, rfl, _, rfl, R_sides_turned.mk _ (tabHalf T) T (half_tri tri) (.inl rfl) (tab_back tri) ⟨_, _, rfl, rfl, Nat.le_of_ble_eq_true rfl, Nat.le_of_ble_eq_true rfl, ?_⟩⟩)⟩
    refine ⟨_, rfl, _, rfl, _, rfl, _, rfl, _, _, rfl, rfl, Nat.le_of_ble_eq_true rfl, Nat.le_of_ble_eq_true rfl, ?_⟩
    refine ⟨rfl, _, rfl, _, _, rfl, rfl, R__law_take.mk _ (by rw [List.length_map]; omega) (by rw [List.length_map]; omega) (by omega) fun i i0 i1 => ⟨rfl, _, rfl, _, _, rfl, rfl, R__law_take.mk _ (by rw [List.length_map]; omega) (by rw [List.length_map]; omega) (by omega) fun j j0 j1' => ?_⟩⟩
    rw [List.length_map] at i1 j1'
    refine ⟨rfl, R__law_number.mk 1 0 (by decide) (by decide) (by omega) fun t0 b0 z0 n6 hn6 => ⟨rfl, R__law_number.mk 1 0 (by decide) (by decide) (by omega) fun t1 b1 z1 n7 hn7 => ⟨rfl, R__law_number.mk 1 0 (by decide) (by decide) (by omega) fun t2 b2 z2 n8 hn8 => ⟨rfl, R__law_number.mk 1 0 (by decide) (by decide) (by omega) fun t3 b3 z3 n9 hn9 => ?_⟩⟩⟩⟩
    obtain ⟨mi, hmi, ai⟩ := at_int i0 i1
    obtain ⟨mj, hmj, aj⟩ := at_int j0 j1'
    have oki := pok.ok mi (List.mem_of_getElem? hmi)
    have okj := pok.ok mj (List.mem_of_getElem? hmj)
    have hs : (⟨t0, b0, t1, b1⟩ : Sp).Ok := ⟨z0.fq, z1.fq⟩
    have hr : (⟨t2, b2, t3, b3⟩ : Sp).Ok := ⟨z2.fq, z3.fq⟩
    refine ⟨_, rfl, Nat.le_of_ble_eq_true rfl, _, rfl, _, rfl, _, rfl, _, rfl, _, rfl, R__law_lists.mk _ _ (Sp.lm ⟨t2, b2, t3, b3⟩) (R_do_cover.mk _ _ _ p _ _ i.toNat j.toNat mi mj ⟨t0, b0, t1, b1⟩ ⟨t2, b2, t3, b3⟩ pok (.inl rfl) (by omega) (by omega) hmi hmj hs hr (.inl rfl) (.inr rfl) ?_)⟩
    refine ⟨_, rfl, Nat.le_of_ble_eq_true rfl, _, rfl, _, rfl, _, _, _, rfl, rfl, ai, _, rfl, _, rfl, _, rfl, _, _, _, rfl, rfl, aj, _, rfl, R__law_covers.mk mi mj ⟨t0, b0, t1, b1⟩ ⟨t2, b2, t3, b3⟩ oki okj hs hr ?_⟩
    refine ⟨_, rfl, _, rfl, ?_⟩
    refine ⟨_, rfl, _, rfl, same_of rfl ?_ ⟨_, rfl, ?_⟩⟩
    · have fj : Fit 5 (.tup (js.map fun j => ((p[j]?).map Nm.t).getD .non)) := .tup (by rw [List.length_map]; omega) fun d hd => by
        obtain ⟨j, hj, rfl⟩ := List.mem_map.mp hd
        obtain ⟨m, hm⟩ : ∃ m, p[j]? = some m := ⟨_, List.getElem?_eq_getElem (j3 j hj)⟩
        rw [hm]
        exact nm_fit m
      have fo : Fit 5 (.tup (p.map Nm.t ++ o.map Nm.t)) := by
        rw [← List.map_append]
        exact pT_fit (by rw [List.length_append]; omega)
      have fp : ∀ f : Nm → Nm, Fit 5 (pT (p.map f)) := fun f => pT_fit (by rw [List.length_map]; omega)
      have fr' : Fit 5 (pT (p.reverse.map Nm.half)) := pT_fit (by rw [List.length_map, List.length_reverse]; omega)
      exact .lst (Nat.le_of_ble_eq_true rfl) (mem1 (.flat rfl) (mem1 fr' (mem1 (pT_fit (by omega)) (mem1 fj (mem1 fo (mem1 (fp _) (mem1 (fp _) (mem1 (fp _) (mem1 (tab_fit (half_tri tri)) (mem1 (tab_fit tri) (mem1 (.flat rfl) mem0)))))))))))
    · refine ⟨_, rfl, _, _, rfl, rfl, _, _, rfl, rfl, _, rfl, Nat.le_of_ble_eq_true rfl, ?_⟩
      refine lc_one ⟨rfl, _, rfl, _, rfl, _, rfl, R__law_one_right.mk p _ 0 u v hp rfl pp z (by omega) fun n10 hn10 => ?_⟩
      refine lc_one ⟨rfl, _, rfl, _, rfl, _, rfl, R__law_one_right.mk p _ (p.length - 1) u v hp (by rw [List.length_map]; omega) (by omega) z (by omega) fun n11 hn11 => ?_⟩
      exact ⟨[true, true], rfl, h _⟩
end DL

namespace DL
open PySem PySem.Spec PyProof.Rows L2
theorem p__law_take : RdOk 6 2 R__law_take t__law_take := by
  intro ss n kk h hl
  cases h with
  | mk b h1 h2 h3 h =>
    have fin : ∀ x : Int, kk (.int (x % b)) (n + 1) := fun x => h _ (Int.emod_nonneg x (by omega)) (Int.emod_lt_of_pos x h1)
    refine ⟨rfl, fun v => ⟨_, _, rfl, rfl, _, rfl, ite_d (fun _ => ?_) (fun _ => ?_)⟩⟩
    · refine ⟨rfl, fun v2 => .inl ⟨_, rfl, _, rfl, _, _, rfl, rfl, h1, ?_⟩⟩
      refine ⟨rfl, fun v3 => ⟨_, rfl, _, _, rfl, rfl, cdivw h1 (by omega), _, rfl, rfl, ?_⟩⟩
      exact ⟨_, rfl, fin v2⟩
    · refine ⟨rfl, fun v v0 v1 => ⟨_, _, rfl, rfl, _, rfl, rfl, by omega, by omega, ?_⟩⟩
      refine ⟨rfl, fun y y0 y1 => ⟨rfl, fun z z0 z1 => ⟨_, _, rfl, rfl, .inl ⟨by decide, by decide⟩, _, _, rfl, rfl, rfl, fun z' z0' z1' => ⟨_, _, rfl, rfl, _, _, rfl, rfl, .inr ⟨by omega, by omega⟩, .inl ⟨_, rfl, _, _, rfl, rfl, (by decide : (0 : Int) < 2147483647), ?_⟩⟩⟩⟩⟩
      refine ⟨_, rfl, .inl ⟨_, rfl, _, _, rfl, rfl, (by decide : (0 : Int) < 40009), _, _, rfl, rfl, ?_⟩⟩
      refine ⟨_, rfl, rfl, fun z2 _ _ => ⟨_, _, rfl, rfl, rfl, fun y2 _ _ => ⟨_, _, rfl, rfl, cdivw (by decide) (by decide), _, _, rfl, rfl, _, rfl, _, _, rfl, rfl, .inr ?_, .inl ⟨_, rfl, _, _, rfl, rfl, (by decide : (0 : Int) < 2147483629), ?_⟩⟩⟩⟩
      · have a1 := Int.emod_nonneg ((y + 48271 * z) * (39373 + z') % 2147483647) (show (40009 : Int) ≠ 0 by decide)
        have a2 := Int.emod_lt_of_pos ((y + 48271 * z) * (39373 + z') % 2147483647) (show (0 : Int) < 40009 by decide)
        exact ⟨by omega, by omega⟩
      · exact ⟨_, rfl, _, _, rfl, rfl, .inr ⟨by decide, by decide⟩, _, rfl, _, _, rfl, rfl, .inl ⟨_, rfl, _, _, rfl, rfl, (by decide : (0 : Int) < 2147483587), _, _, rfl, rfl, cdivw (by decide) (by decide), .inl ⟨_, rfl, _, rfl, _, _, rfl, rfl, h1, fin _⟩⟩⟩
inductive R__law_cells : RD
  | mk (l : List Int) {n : Nat} {k : DK} (hl : l.length ≤ 63) (h : ∀ c : List Int, 0 < c.length → c.length ≤ 2 → k (.lst (c.map D.int)) n) : R__law_cells [.d (.scr (l.map D.int)), .d (.int 2)] n k
theorem cut_map {α β : Type} (f : α → β) (l : List α) (lo hi : Option Int) : cutD (l.map f) lo hi = (cutD l lo hi).map f := by
  unfold cutD
  rw [List.length_map, List.map_take, List.map_drop]
theorem enums_in {c : List Int} : ∀ d, d ∈ enums (c.map D.int) → ∃ (i : Nat) (v : Int), d = .tup [.int (i : Nat), .int v] ∧ i < c.length := fun d hd => by
  obtain ⟨i, hi, e⟩ := List.mem_iff_getElem.mp hd
  have h : (enums (c.map D.int))[i]? = some d := by rw [List.getElem?_eq_getElem hi, e]
  obtain ⟨x, hx, rfl⟩ := enums_at h
  have hl : i < c.length := by have := (List.getElem?_eq_some_iff.mp hx).1; simpa using this
  rw [List.getElem?_map, List.getElem?_eq_getElem hl] at hx
  exact ⟨i, c[i], by rw [← Option.some.inj hx], hl⟩
theorem p__law_cells : RdOk 6 2 R__law_cells t__law_cells := by
  intro ss n kk h hl
  cases h with
  | mk l hl' h =>
    have loop : ∀ (js : List D) (c0 c1 : Int) (s3 s4 s5 : Slot) (n : Nat) (G : DEnds), (∀ d, d ∈ js → ∃ (i : Nat) (v : Int), d = .tup [.int (i : Nat), .int v] ∧ i < 100) → (∀ (c0 c1 : Int) s3 s4 s5, G.nx [.d (.scr (l.map D.int)), .d (.int 2), .own [.int c0, .int c1], s3, s4, s5] n) →
        forRun g__law_cells_L1 t__law_cells_L1 G js [.d (.scr (l.map D.int)), .d (.int 2), .own [.int c0, .int c1], s3, s4, s5] n := fun js => by
      induction js with
      | nil => exact fun c0 c1 s3 s4 s5 n G _ hG => hG c0 c1 s3 s4 s5
      | cons d js ih =>
        intro c0 c1 s3 s4 s5 n G hj hG
        obtain ⟨i, v, rfl, hi⟩ := hj d (List.mem_cons_self ..)
        have hr : (i : Int) % 2 = 0 ∨ (i : Int) % 2 = 1 := by omega
        have go := fun c0 c1 s3 s4 s5 => ih c0 c1 s3 s4 s5 n G (fun d hd => hj d (List.mem_cons_of_mem _ hd)) hG
        refine ⟨_, rfl, rfl, _, _, rfl, _, _, rfl, rfl, ?_⟩
        refine ⟨_, rfl, .inl ⟨_, rfl, _, rfl, _, _, rfl, rfl, (by decide : (0 : Int) < 2), ?_⟩⟩
        rcases hr with hr | hr
        · have ha : atI [D.int c0, D.int c1] ((i : Int) % 2) = some (.int c0) := by rw [hr]; rfl
          have hx : ixN 2 ((i : Int) % 2) = some 0 := by rw [hr]; rfl
          exact ⟨_, rfl, _, rfl, _, _, rfl, ha, _, rfl, _, rfl, _, _, rfl, rfl, _, _, rfl, rfl, .inr ⟨by omega, by omega⟩, _, _, rfl, rfl, _, rfl, _, rfl, _, _, rfl, hx, go _ _ _ _ _⟩
        · have ha : atI [D.int c0, D.int c1] ((i : Int) % 2) = some (.int c1) := by rw [hr]; rfl
          have hx : ixN 2 ((i : Int) % 2) = some 1 := by rw [hr]; rfl
          exact ⟨_, rfl, _, rfl, _, _, rfl, ha, _, rfl, _, rfl, _, _, rfl, rfl, _, _, rfl, rfl, .inr ⟨by omega, by omega⟩, _, _, rfl, rfl, _, rfl, _, rfl, _, _, rfl, hx, go _ _ _ _ _⟩
    have hlen : ∀ a b : Option Int, (cutD l a b).length ≤ 63 := fun a b => by
      unfold cutD
      rw [List.length_take, List.length_drop]
      omega
    have key : ∀ (c : List Int), 0 < c.length → c.length ≤ 2 → (c.length = 2 ∨ l.length ≤ 2) → dFor (iEnumDL (dCons (dSlS (dVar 0) (dPart (dVar 1)) (dPart (dC (.int 63)))) dNil)) g__law_cells_L1 t__law_cells_L1 { nx := fun ρ n => (dFrz 2 (dRet (dVar 2))) { nx := fun _ n => kk .non n, rt := kk } ρ n, rt := kk } [.d (.scr (l.map D.int)), .d (.int 2), .own (c.map D.int), .no, .no, .no] n := fun c c0 c2 hc => by
      refine ⟨_, rfl, _, rfl, _, rfl, _, rfl, _, rfl, _, rfl, ?_⟩
      rw [cut_map]
      rcases hc with hc | hc
      · match c, hc with
        | [a, b], _ =>
          refine loop _ a b _ _ _ n _ (fun d hd => ?_) (fun a b s3 s4 s5 => ⟨_, rfl, _, rfl, h [a, b] (by show 0 < 2; decide) (by show 2 ≤ 2; decide)⟩)
          obtain ⟨i, v, e, hi⟩ := enums_in d hd
          exact ⟨i, v, e, by have := hlen (some 2) (some 63); omega⟩
      · have e : cutD l (some 2) (some 63) = [] := by
          apply List.eq_nil_of_length_eq_zero
          unfold cutD HT.sIx
          simp
          omega
        rw [e]
        exact ⟨_, rfl, _, rfl, h c c0 c2⟩
    have hc : (cutD l none (some 2)).length = min 2 l.length := by
      unfold cutD HT.sIx
      simp
    refine ⟨_, rfl, _, rfl, _, rfl, _, rfl, _, _, rfl, rfl, ?_⟩
    rw [cut_map]
    by_cases z : ((cutD l none (some 2)).map D.int).length = 0
    · rw [if_pos z]
      rw [List.length_map] at z
      exact key [0] (by decide) (by decide) (.inr (by omega))
    · rw [if_neg z]
      rw [List.length_map] at z
      exact key _ (by omega) (by omega) (by omega)
theorem p_wide_in : RdOk 5 2 R_wide_in (t_wide_in R_width_in) := by
  intro ss n kk h hl
  cases h with
  | mk y w h1 h2 h =>
    have ej : Txt.join " " [w] = w := by
      have : ∀ w ∈ four, Txt.join " " [w] = w := by decide +kernel
      exact this w h2
    obtain ⟨c1, c2, c3⟩ := four_len h2
    have h' : kk (.dt [([0, 1], .int (wd y (Txt.join " " [w])))]) n := by rw [ej]; exact h
    refine ⟨_, rfl, _, _, rfl, rfl, _, rfl, by show -2 ^ 62 ≤ (1 : Int); decide, by show (1 : Int) < 2 ^ 62; decide, ?_⟩
    refine ⟨_, rfl, _, _, rfl, rfl, _, rfl, _, _, rfl, rfl, _, _, rfl, rfl, _, _, rfl, ⟨by decide, by decide, by show -2 ^ 62 ≤ (2 : Int); decide, by show (2 : Int) < 2 ^ 62; decide⟩, ?_⟩
    have only : ∀ (a b c d : Slot) (u : List (List Int × D)), (∀ l, a ≠ .ownD l) → (∀ l, b ≠ .ownD l) → (∀ l, c ≠ .ownD l) → (∀ l, d ≠ .ownD l) → ∀ (j : Nat) (l : List (List Int × D)), j ≠ 2 → [a, b, .ownD u, c, d][j]? ≠ some (.ownD l) := fun a b c d u ha hb hc hd j l hj e => by
      match j with
      | 0 => exact ha l (Option.some.inj e)
      | 1 => exact hb l (Option.some.inj e)
      | 2 => exact hj rfl
      | 3 => exact hc l (Option.some.inj e)
      | 4 => exact hd l (Option.some.inj e)
      | j + 5 => simp at e
    refine ⟨_, rfl, _, rfl, _, rfl, _, rfl, _, rfl, _, rfl, _, rfl, [w], rfl, ?_, R_width_in.mk y _ h1 (by rw [ej]; exact h2) ⟨rfl, only _ _ _ _ _ (fun l z => nomatch z) (fun l z => nomatch z) (fun l z => nomatch z) (fun l z => nomatch z), _, rfl, _, rfl, _, _, rfl, _, rfl, only _ _ _ _ _ (fun l z => nomatch z) (fun l z => nomatch z) (fun l z => nomatch z) (fun l z => nomatch z), _, rfl, h'⟩⟩
    have e5 : (([w] : List Str).map (·.length)).sum = w.length := by simp
    have e6 : (" " : Str).length = 1 := by decide +kernel
    rw [e5, e6]
    show w.length + 1 * 1 ≤ 1000
    omega
inductive R_law : RD
  | mk (l : List Int) {n : Nat} {k : DK} (hl : l.length ≤ 63) (h : ∀ n', k (.bl true) n') : R_law [.d (.scr (l.map D.int))] n k
theorem p_law : RdOk 2 1 R_law (t_law R__law_by_hand_right R__law_cells R__law_plans_right R__law_pages_right) := by
  intro ss n kk h hl
  cases h with
  | mk l hl' h =>
    refine R__law_by_hand_right.mk ⟨_, rfl, ?_⟩
    refine ⟨_, rfl, R__law_cells.mk l hl' fun c c0 c2 => ?_⟩
    refine ⟨_, rfl, c, 0, rfl, by decide, by omega, by omega, R__law_plans_right.mk (by omega) fun n' => ⟨_, rfl, ?_⟩⟩
    refine ⟨_, rfl, _, rfl, _, _, rfl, rfl, _, _, rfl, rfl, c, _, rfl, by rw [List.length_map]; omega, by rw [List.length_map]; omega, by omega, R__law_pages_right.mk (by omega) fun n'' => h _⟩
theorem cm01 (x : Int) (b : Bool) : CMul x (if b = true then 1 else 0) := by
  cases b <;> exact .inr ⟨by decide, by decide⟩
theorem p__law_box (l : List Int) (j : Int) (G : DEnds) (h0 : 0 ≤ j) (h1 : j < (l.length : Int)) (hl : l.length ≤ 1000) (hG : G.nx = fun ρ n => l__law_box ρ n fun l' _ => ∃ x y : Int, l' = [.int x, .int y, .int 0] ∧ 0 ≤ y ∧ y < 2 ^ 62) : t__law_box G ([.d (.lst (l.map D.int)), .d (.int j)] ++ List.replicate (3 - 2) .no) 0 := by
  obtain ⟨v, hv⟩ : ∃ v, l[j.toNat]? = some v := ⟨_, List.getElem?_eq_getElem (by omega)⟩
  have av : atI (l.map D.int) j = some (.int v) := by
    have := atL (p := l.map D.int) (i := j.toNat) (m := .int v) (by rw [List.getElem?_map, hv]; rfl)
    rw [show ((j.toNat : Nat) : Int) = j from by omega] at this
    exact this
  refine ⟨_, rfl, _, rfl, _, _, rfl, rfl, _, _, rfl, rfl, _, rfl, ?_⟩
  refine ite_d (fun _ => ?_) (fun e => absurd (by rw [List.length_map]; exact h1) e)
  refine ⟨_, rfl, _, rfl, _, _, _, rfl, rfl, av, ?_⟩
  rw [hG]
  have m1 := Int.emod_nonneg v (show (2305843009213693951 : Int) ≠ 0 by decide)
  have m2 := Int.emod_lt_of_pos v (show (0 : Int) < 2305843009213693951 by decide)
  refine ⟨_, rfl, _, rfl, _, rfl, _, rfl, _, _, rfl, rfl, ⟨by decide, by decide, by decide⟩, _, _, rfl, rfl, .inr ⟨_, rfl, _, _, rfl, rfl, cm01 _ _, ?_⟩⟩
  refine ⟨_, rfl, .inl ⟨_, rfl, _, _, rfl, rfl, (by decide : (0 : Int) < 2305843009213693951), ?_⟩⟩
  refine ⟨_, rfl, _, _, rfl, rfl, .inl ⟨by decide, by decide⟩, _, _, rfl, rfl, _, _, rfl, rfl, ?_⟩
  exact ⟨_, _, rfl, by omega, by omega⟩
end DL

namespace DL
open PySem PySem.Spec PyProof.Rows L2
open Gn
theorem c_tuple_of {w : World} {K : PySem.W.Frag} {mg : Str → Option Value} {base : Heap} (z : Fx K mg) : ∀ m : Nat, CA w K mg base (m + 1) "tuple_of" ["thing"] (R_tuple_of m)
  | 0 => (calNone z "tuple_of" 1 8 rfl rfl (fun _ _ _ _ _ _ _ us hl => match us, hl with | [_], _ => rfl)).imp fun ss n k h => by
    cases h with
    | mk => rename_i q _ ; exact q.elim
  | m + 1 => mkCal z "tuple_of" 1 8 rfl rfl sc_tuple_of (fun _ _ _ _ _ _ _ us hl => match us, hl with | [_], _ => rfl) fun f cdv A outer s H E hr => (a_tuple_of z (c_tuple_of z m) f cdv A outer s H E hr).elim fun ts hb => ⟨ts, _, hb, p_tuple_of m⟩
theorem c_sides_turned {w : World} {K : PySem.W.Frag} {mg : Str → Option Value} {base : Heap} (z : Fx K mg) : CA w K mg base 8 "sides_turned" ["sides"] R_sides_turned :=
  mkCal (k := 7) z "sides_turned" 31 44 rfl rfl sc_sides_turned (fun _ _ _ _ _ _ _ us hl => match us, hl with | [_], _ => rfl) fun f cdv A outer s H E hr => (a_sides_turned z ((c_tuple_of z 4).up (by decide)) f cdv A outer s H E hr).elim fun ts hb => ⟨ts, _, hb, p_sides_turned⟩
theorem c_is_number {w : World} {K : PySem.W.Frag} {mg : Str → Option Value} {base : Heap} (z : Fx K mg) : CA w K mg base 1 "is_number" ["thing"] R_is_number :=
  mkCal (k := 0) z "is_number" 0 7 rfl rfl sc_is_number (fun _ _ _ _ _ _ _ us hl => match us, hl with | [_], _ => rfl) fun f cdv A outer s H E hr => (a_is_number z  f cdv A outer s H E hr).elim fun ts hb => ⟨ts, _, hb, p_is_number⟩
theorem c_sure_name {w : World} {K : PySem.W.Frag} {mg : Str → Option Value} {base : Heap} (z : Fx K mg) : CA w K mg base 2 "sure_name" ["chart", "name"] R_sure_name :=
  mkCal (k := 1) z "sure_name" 25 38 rfl rfl sc_sure_name (fun _ _ _ _ _ _ _ us hl => match us, hl with | [_, _], _ => rfl) fun f cdv A outer s H E hr => (a_sure_name z ((c_is_number z).up (by decide)) f cdv A outer s H E hr).elim fun ts hb => ⟨ts, _, hb, p_sure_name⟩
theorem c_fraction {w : World} {K : PySem.W.Frag} {mg : Str → Option Value} {base : Heap} (z : Fx K mg) : CA w K mg base 1 "fraction" ["top", "below"] R_fraction :=
  mkCal (k := 0) z "fraction" 3 11 rfl rfl sc_fraction (fun _ _ _ _ _ _ _ us hl => match us, hl with | [_, _], _ => rfl) fun f cdv A outer s H E hr => (a_fraction z  f cdv A outer s H E hr).elim fun ts hb => ⟨ts, _, hb, p_fraction⟩
theorem c_on {w : World} {K : PySem.W.Frag} {mg : Str → Option Value} {base : Heap} (z : Fx K mg) : CA w K mg base 2 "on" ["tether", "scale"] R_on :=
  mkCal (k := 1) z "on" 7 15 rfl rfl sc_on (fun _ _ _ _ _ _ _ us hl => match us, hl with | [_, _], _ => rfl) fun f cdv A outer s H E hr => (a_on z ((c_fraction z).up (by decide)) f cdv A outer s H E hr).elim fun ts hb => ⟨ts, _, hb, p_on⟩
theorem c_is_less {w : World} {K : PySem.W.Frag} {mg : Str → Option Value} {base : Heap} (z : Fx K mg) : CA w K mg base 1 "is_less" ["one", "other"] R_is_less :=
  mkCal (k := 0) z "is_less" 6 14 rfl rfl sc_is_less (fun _ _ _ _ _ _ _ us hl => match us, hl with | [_, _], _ => rfl) fun f cdv A outer s H E hr => (a_is_less z  f cdv A outer s H E hr).elim fun ts hb => ⟨ts, _, hb, p_is_less⟩
theorem c_lets {w : World} {K : PySem.W.Frag} {mg : Str → Option Value} {base : Heap} (z : Fx K mg) : CA w K mg base 8 "lets" ["chart", "name", "scale", "place"] R_lets :=
  mkCal (k := 7) z "lets" 39 52 rfl rfl sc_lets (fun _ _ _ _ _ _ _ us hl => match us, hl with | [_, _, _, _], _ => rfl) fun f cdv A outer s H E hr => (a_lets z ((c_sure_name z).up (by decide)) ((c_tuple_of z 4).up (by decide)) ((c_on z).up (by decide)) ((c_is_less z).up (by decide)) f cdv A outer s H E hr).elim fun ts hb => ⟨ts, _, hb, p_lets⟩
theorem c_tether_turned {w : World} {K : PySem.W.Frag} {mg : Str → Option Value} {base : Heap} (z : Fx K mg) : CA w K mg base 1 "tether_turned" ["tether", "size"] R_tether_turned :=
  mkCal (k := 0) z "tether_turned" 29 42 rfl rfl sc_tether_turned (fun _ _ _ _ _ _ _ us hl => match us, hl with | [_, _], _ => rfl) fun f cdv A outer s H E hr => (a_tether_turned z  f cdv A outer s H E hr).elim fun ts hb => ⟨ts, _, hb, p_tether_turned⟩
theorem c_turned {w : World} {K : PySem.W.Frag} {mg : Str → Option Value} {base : Heap} (z : Fx K mg) : CA w K mg base 8 "turned" ["chart"] R_turned :=
  mkCal (k := 7) z "turned" 30 43 rfl rfl sc_turned (fun _ _ _ _ _ _ _ us hl => match us, hl with | [_], _ => rfl) fun f cdv A outer s H E hr => (a_turned z ((c_tuple_of z 4).up (by decide)) ((c_tether_turned z).up (by decide)) f cdv A outer s H E hr).elim fun ts hb => ⟨ts, _, hb, p_turned⟩
theorem c__law_same {w : World} {K : PySem.W.Frag} {mg : Str → Option Value} {base : Heap} (z : Fx K mg) : ∀ m : Nat, CA w K mg base (m + 1) "_law_same" ["_law_got", "_law_due"] (R__law_same m)
  | 0 => (calNone z "_law_same" 48 62 rfl rfl (fun _ _ _ _ _ _ _ us hl => match us, hl with | [_, _], _ => rfl)).imp fun ss n k h => by
    cases h with
    | mk => rename_i q _ ; exact q.elim
  | m + 1 => mkCal z "_law_same" 48 62 rfl rfl sc__law_same (fun _ _ _ _ _ _ _ us hl => match us, hl with | [_, _], _ => rfl) fun f cdv A outer s H E hr => (a__law_same z (c__law_same z m) f cdv A outer s H E hr).elim fun ts hb => ⟨ts, _, hb, p__law_same m⟩
theorem c__law_by_hand_right {w : World} {K : PySem.W.Frag} {mg : Str → Option Value} {base : Heap} (z : Fx K mg) : CA w K mg base 9 "_law_by_hand_right" [] R__law_by_hand_right :=
  mkCal (k := 8) z "_law_by_hand_right" 69 83 rfl rfl sc__law_by_hand_right (fun _ _ _ _ _ _ _ us hl => match us, hl with | [], _ => rfl) fun f cdv A outer s H E hr => (a__law_by_hand_right z ((c_sides_turned z).up (by decide)) ((c_lets z).up (by decide)) ((c_turned z).up (by decide)) ((c__law_same z 6).up (by decide)) f cdv A outer s H E hr).elim fun ts hb => ⟨ts, _, hb, p__law_by_hand_right⟩
theorem c__law_cells {w : World} {K : PySem.W.Frag} {mg : Str → Option Value} {base : Heap} (z : Fx K mg) : CA w K mg base 1 "_law_cells" ["_law_script", "_law_most_so"] R__law_cells :=
  mkCal (k := 0) z "_law_cells" 45 59 rfl rfl sc__law_cells (fun _ _ _ _ _ _ _ us hl => match us, hl with | [_, _], _ => rfl) fun f cdv A outer s H E hr => (a__law_cells z  f cdv A outer s H E hr).elim fun ts hb => ⟨ts, _, hb, p__law_cells⟩
theorem c__law_take {w : World} {K : PySem.W.Frag} {mg : Str → Option Value} {base : Heap} (z : Fx K mg) : CA w K mg base 1 "_law_take" ["_law_tin", "_law_below_so"] R__law_take :=
  mkCal (k := 0) z "_law_take" 44 58 rfl rfl sc__law_take (fun _ _ _ _ _ _ _ us hl => match us, hl with | [_, _], _ => rfl) fun f cdv A outer s H E hr => (a__law_take z  f cdv A outer s H E hr).elim fun ts hb => ⟨ts, _, hb, p__law_take⟩
theorem c__law_drawn_tether {w : World} {K : PySem.W.Frag} {mg : Str → Option Value} {base : Heap} (z : Fx K mg) : CA w K mg base 2 "_law_drawn_tether" ["_law_tin"] R__law_drawn_tether :=
  mkCal (k := 1) z "_law_drawn_tether" 52 66 rfl rfl sc__law_drawn_tether (fun _ _ _ _ _ _ _ us hl => match us, hl with | [_], _ => rfl) fun f cdv A outer s H E hr => (a__law_drawn_tether z ((c__law_take z).up (by decide)) f cdv A outer s H E hr).elim fun ts hb => ⟨ts, _, hb, p__law_drawn_tether⟩
theorem c__law_drawn_plan {w : World} {K : PySem.W.Frag} {mg : Str → Option Value} {base : Heap} (z : Fx K mg) : CA w K mg base 3 "_law_drawn_plan" ["_law_tin"] R__law_drawn_plan :=
  mkCal (k := 2) z "_law_drawn_plan" 53 67 rfl rfl sc__law_drawn_plan (fun _ _ _ _ _ _ _ us hl => match us, hl with | [_], _ => rfl) fun f cdv A outer s H E hr => (a__law_drawn_plan z ((c__law_take z).up (by decide)) ((c__law_drawn_tether z).up (by decide)) f cdv A outer s H E hr).elim fun ts hb => ⟨ts, _, hb, p__law_drawn_plan⟩
theorem c__law_low {w : World} {K : PySem.W.Frag} {mg : Str → Option Value} {base : Heap} (z : Fx K mg) : CA w K mg base 1 "_law_low" ["_law_top_so", "_law_below_so"] R__law_low :=
  mkCal (k := 0) z "_law_low" 49 63 rfl rfl sc__law_low (fun _ _ _ _ _ _ _ us hl => match us, hl with | [_, _], _ => rfl) fun f cdv A outer s H E hr => (a__law_low z  f cdv A outer s H E hr).elim fun ts hb => ⟨ts, _, hb, p__law_low⟩
theorem c__law_number {w : World} {K : PySem.W.Frag} {mg : Str → Option Value} {base : Heap} (z : Fx K mg) : CA w K mg base 2 "_law_number" ["_law_tin", "_law_most_so", "_law_least_so"] R__law_number :=
  mkCal (k := 1) z "_law_number" 54 68 rfl rfl sc__law_number (fun _ _ _ _ _ _ _ us hl => match us, hl with | [_, _, _], _ => rfl) fun f cdv A outer s H E hr => (a__law_number z ((c__law_low z).up (by decide)) ((c__law_take z).up (by decide)) f cdv A outer s H E hr).elim fun ts hb => ⟨ts, _, hb, p__law_number⟩
theorem c_is_tuple_of {w : World} {K : PySem.W.Frag} {mg : Str → Option Value} {base : Heap} (z : Fx K mg) : CA w K mg base 1 "is_tuple_of" ["thing", "many"] R_is_tuple_of :=
  mkCal (k := 0) z "is_tuple_of" 2 9 rfl rfl sc_is_tuple_of (fun _ _ _ _ _ _ _ us hl => match us, hl with | [_, _], _ => rfl) fun f cdv A outer s H E hr => (a_is_tuple_of z  f cdv A outer s H E hr).elim fun ts hb => ⟨ts, _, hb, p_is_tuple_of⟩
theorem c_is_tether {w : World} {K : PySem.W.Frag} {mg : Str → Option Value} {base : Heap} (z : Fx K mg) : CA w K mg base 2 "is_tether" ["thing"] R_is_tether :=
  mkCal (k := 1) z "is_tether" 22 35 rfl rfl sc_is_tether (fun _ _ _ _ _ _ _ us hl => match us, hl with | [_], _ => rfl) fun f cdv A outer s H E hr => (a_is_tether z ((c_is_tuple_of z).up (by decide)) ((c_is_number z).up (by decide)) f cdv A outer s H E hr).elim fun ts hb => ⟨ts, _, hb, p_is_tether⟩
theorem c_is_name {w : World} {K : PySem.W.Frag} {mg : Str → Option Value} {base : Heap} (z : Fx K mg) : CA w K mg base 3 "is_name" ["thing"] R_is_name :=
  mkCal (k := 2) z "is_name" 23 36 rfl rfl sc_is_name (fun _ _ _ _ _ _ _ us hl => match us, hl with | [_], _ => rfl) fun f cdv A outer s H E hr => (a_is_name z ((c_is_tuple_of z).up (by decide)) ((c_is_number z).up (by decide)) ((c_is_tether z).up (by decide)) f cdv A outer s H E hr).elim fun ts hb => ⟨ts, _, hb, p_is_name⟩
theorem c_is_map {w : World} {K : PySem.W.Frag} {mg : Str → Option Value} {base : Heap} (z : Fx K mg) : CA w K mg base 4 "is_map" ["thing"] R_is_map :=
  mkCal (k := 3) z "is_map" 24 37 rfl rfl sc_is_map (fun _ _ _ _ _ _ _ us hl => match us, hl with | [_], _ => rfl) fun f cdv A outer s H E hr => (a_is_map z ((c_is_name z).up (by decide)) f cdv A outer s H E hr).elim fun ts hb => ⟨ts, _, hb, p_is_map⟩
theorem c__law_lists {w : World} {K : PySem.W.Frag} {mg : Str → Option Value} {base : Heap} (z : Fx K mg) : ∀ m : Nat, CA w K mg base (m + 1) "_law_lists" ["_law_matter"] (R__law_lists m)
  | 0 => (calNone z "_law_lists" 47 61 rfl rfl (fun _ _ _ _ _ _ _ us hl => match us, hl with | [_], _ => rfl)).imp fun ss n k h => by
    cases h with
    | mk => rename_i q _ ; exact q.elim
  | m + 1 => mkCal z "_law_lists" 47 61 rfl rfl sc__law_lists (fun _ _ _ _ _ _ _ us hl => match us, hl with | [_], _ => rfl) fun f cdv A outer s H E hr => (a__law_lists z (c__law_lists z m) f cdv A outer s H E hr).elim fun ts hb => ⟨ts, _, hb, p__law_lists m⟩
theorem c__law_half {w : World} {K : PySem.W.Frag} {mg : Str → Option Value} {base : Heap} (z : Fx K mg) : CA w K mg base 1 "_law_half" ["_law_one", "_law_axis"] R__law_half :=
  mkCal (k := 0) z "_law_half" 55 69 rfl rfl sc__law_half (fun _ _ _ _ _ _ _ us hl => match us, hl with | [_, _], _ => rfl) fun f cdv A outer s H E hr => (a__law_half z  f cdv A outer s H E hr).elim fun ts hb => ⟨ts, _, hb, p__law_half⟩
theorem c__law_plan_half {w : World} {K : PySem.W.Frag} {mg : Str → Option Value} {base : Heap} (z : Fx K mg) : CA w K mg base 2 "_law_plan_half" ["_law_plan"] R__law_plan_half :=
  mkCal (k := 1) z "_law_plan_half" 56 70 rfl rfl sc__law_plan_half (fun _ _ _ _ _ _ _ us hl => match us, hl with | [_], _ => rfl) fun f cdv A outer s H E hr => (a__law_plan_half z ((c__law_half z).up (by decide)) f cdv A outer s H E hr).elim fun ts hb => ⟨ts, _, hb, p__law_plan_half⟩
theorem c_part_of {w : World} {K : PySem.W.Frag} {mg : Str → Option Value} {base : Heap} (z : Fx K mg) : CA w K mg base 8 "part_of" ["chart", "lot"] R_part_of :=
  mkCal (k := 7) z "part_of" 27 40 rfl rfl sc_part_of (fun _ _ _ _ _ _ _ us hl => match us, hl with | [_, _], _ => rfl) fun f cdv A outer s H E hr => (a_part_of z ((c_tuple_of z 4).up (by decide)) f cdv A outer s H E hr).elim fun ts hb => ⟨ts, _, hb, p_part_of⟩
theorem c_joined {w : World} {K : PySem.W.Frag} {mg : Str → Option Value} {base : Heap} (z : Fx K mg) : CA w K mg base 8 "joined" ["chart", "other"] R_joined :=
  mkCal (k := 7) z "joined" 28 41 rfl rfl sc_joined (fun _ _ _ _ _ _ _ us hl => match us, hl with | [_, _], _ => rfl) fun f cdv A outer s H E hr => (a_joined z ((c_tuple_of z 4).up (by decide)) f cdv A outer s H E hr).elim fun ts hb => ⟨ts, _, hb, p_joined⟩
theorem c_tether_by {w : World} {K : PySem.W.Frag} {mg : Str → Option Value} {base : Heap} (z : Fx K mg) : CA w K mg base 1 "tether_by" ["tether", "many", "more"] R_tether_by :=
  mkCal (k := 0) z "tether_by" 33 46 rfl rfl sc_tether_by (fun _ _ _ _ _ _ _ us hl => match us, hl with | [_, _, _], _ => rfl) fun f cdv A outer s H E hr => (a_tether_by z  f cdv A outer s H E hr).elim fun ts hb => ⟨ts, _, hb, p_tether_by⟩
theorem c_map_moved {w : World} {K : PySem.W.Frag} {mg : Str → Option Value} {base : Heap} (z : Fx K mg) : CA w K mg base 8 "map_moved" ["chart", "across", "down"] R_map_moved :=
  mkCal (k := 7) z "map_moved" 34 47 rfl rfl sc_map_moved (fun _ _ _ _ _ _ _ us hl => match us, hl with | [_, _, _], _ => rfl) fun f cdv A outer s H E hr => (a_map_moved z ((c_tuple_of z 4).up (by decide)) ((c_tether_by z).up (by decide)) f cdv A outer s H E hr).elim fun ts hb => ⟨ts, _, hb, p_map_moved⟩
theorem c_spread {w : World} {K : PySem.W.Frag} {mg : Str → Option Value} {base : Heap} (z : Fx K mg) : CA w K mg base 8 "spread" ["chart", "many"] R_spread :=
  mkCal (k := 7) z "spread" 35 48 rfl rfl sc_spread (fun _ _ _ _ _ _ _ us hl => match us, hl with | [_, _], _ => rfl) fun f cdv A outer s H E hr => (a_spread z ((c_tuple_of z 4).up (by decide)) ((c_tether_by z).up (by decide)) f cdv A outer s H E hr).elim fun ts hb => ⟨ts, _, hb, p_spread⟩
theorem c_tether_sized {w : World} {K : PySem.W.Frag} {mg : Str → Option Value} {base : Heap} (z : Fx K mg) : CA w K mg base 1 "tether_sized" ["tether", "many"] R_tether_sized :=
  mkCal (k := 0) z "tether_sized" 36 49 rfl rfl sc_tether_sized (fun _ _ _ _ _ _ _ us hl => match us, hl with | [_, _], _ => rfl) fun f cdv A outer s H E hr => (a_tether_sized z  f cdv A outer s H E hr).elim fun ts hb => ⟨ts, _, hb, p_tether_sized⟩
theorem c_sized {w : World} {K : PySem.W.Frag} {mg : Str → Option Value} {base : Heap} (z : Fx K mg) : CA w K mg base 8 "sized" ["chart", "many"] R_sized :=
  mkCal (k := 7) z "sized" 37 50 rfl rfl sc_sized (fun _ _ _ _ _ _ _ us hl => match us, hl with | [_, _], _ => rfl) fun f cdv A outer s H E hr => (a_sized z ((c_tuple_of z 4).up (by decide)) ((c_tether_sized z).up (by decide)) f cdv A outer s H E hr).elim fun ts hb => ⟨ts, _, hb, p_sized⟩
theorem c__law_tie_by {w : World} {K : PySem.W.Frag} {mg : Str → Option Value} {base : Heap} (z : Fx K mg) : CA w K mg base 1 "_law_tie_by" ["_law_tie", "_law_many_so", "_law_more_so", "_law_sized_so"] R__law_tie_by :=
  mkCal (k := 0) z "_law_tie_by" 57 71 rfl rfl sc__law_tie_by (fun _ _ _ _ _ _ _ us hl => match us, hl with | [_, _, _, _], _ => rfl) fun f cdv A outer s H E hr => (a__law_tie_by z  f cdv A outer s H E hr).elim fun ts hb => ⟨ts, _, hb, p__law_tie_by⟩
theorem c__law_plan_by {w : World} {K : PySem.W.Frag} {mg : Str → Option Value} {base : Heap} (z : Fx K mg) : CA w K mg base 2 "_law_plan_by" ["_law_plan", "_law_many_so", "_law_x", "_law_y", "_law_sized_so"] R__law_plan_by :=
  mkCal (k := 1) z "_law_plan_by" 58 72 rfl rfl sc__law_plan_by (fun _ _ _ _ _ _ _ us hl => match us, hl with | [_, _, _, _, _], _ => rfl) fun f cdv A outer s H E hr => (a__law_plan_by z ((c__law_tie_by z).up (by decide)) f cdv A outer s H E hr).elim fun ts hb => ⟨ts, _, hb, p__law_plan_by⟩
theorem c_plus {w : World} {K : PySem.W.Frag} {mg : Str → Option Value} {base : Heap} (z : Fx K mg) : CA w K mg base 2 "plus" ["one", "other"] R_plus :=
  mkCal (k := 1) z "plus" 4 12 rfl rfl sc_plus (fun _ _ _ _ _ _ _ us hl => match us, hl with | [_, _], _ => rfl) fun f cdv A outer s H E hr => (a_plus z ((c_fraction z).up (by decide)) f cdv A outer s H E hr).elim fun ts hb => ⟨ts, _, hb, p_plus⟩
theorem c_box_in {w : World} {K : PySem.W.Frag} {mg : Str → Option Value} {base : Heap} (z : Fx K mg) : CA w K mg base 3 "box_in" ["name", "place"] R_box_in :=
  mkCal (k := 2) z "box_in" 40 53 rfl rfl sc_box_in (fun _ _ _ _ _ _ _ us hl => match us, hl with | [_, _], _ => rfl) fun f cdv A outer s H E hr => (a_box_in z ((c_plus z).up (by decide)) f cdv A outer s H E hr).elim fun ts hb => ⟨ts, _, hb, p_box_in⟩
theorem c_do_cover {w : World} {K : PySem.W.Frag} {mg : Str → Option Value} {base : Heap} (z : Fx K mg) : CA w K mg base 8 "do_cover" ["chart", "name", "place", "other", "there"] R_do_cover :=
  mkCal (k := 7) z "do_cover" 42 55 rfl rfl sc_do_cover (fun _ _ _ _ _ _ _ us hl => match us, hl with | [_, _, _, _, _], _ => rfl) fun f cdv A outer s H E hr => (a_do_cover z ((c_tuple_of z 4).up (by decide)) ((c_sure_name z).up (by decide)) ((c_box_in z).up (by decide)) ((c_is_less z).up (by decide)) f cdv A outer s H E hr).elim fun ts hb => ⟨ts, _, hb, p_do_cover⟩
theorem c__law_sum {w : World} {K : PySem.W.Frag} {mg : Str → Option Value} {base : Heap} (z : Fx K mg) : CA w K mg base 2 "_law_sum" ["_law_one", "_law_two"] R__law_sum :=
  mkCal (k := 1) z "_law_sum" 50 64 rfl rfl sc__law_sum (fun _ _ _ _ _ _ _ us hl => match us, hl with | [_, _], _ => rfl) fun f cdv A outer s H E hr => (a__law_sum z ((c__law_low z).up (by decide)) f cdv A outer s H E hr).elim fun ts hb => ⟨ts, _, hb, p__law_sum⟩
theorem c__law_below {w : World} {K : PySem.W.Frag} {mg : Str → Option Value} {base : Heap} (z : Fx K mg) : CA w K mg base 1 "_law_below" ["_law_one", "_law_two"] R__law_below :=
  mkCal (k := 0) z "_law_below" 51 65 rfl rfl sc__law_below (fun _ _ _ _ _ _ _ us hl => match us, hl with | [_, _], _ => rfl) fun f cdv A outer s H E hr => (a__law_below z  f cdv A outer s H E hr).elim fun ts hb => ⟨ts, _, hb, p__law_below⟩
theorem c__law_covers {w : World} {K : PySem.W.Frag} {mg : Str → Option Value} {base : Heap} (z : Fx K mg) : CA w K mg base 3 "_law_covers" ["_law_one", "_law_spot", "_law_two", "_law_there"] R__law_covers :=
  mkCal (k := 2) z "_law_covers" 62 76 rfl rfl sc__law_covers (fun _ _ _ _ _ _ _ us hl => match us, hl with | [_, _, _, _], _ => rfl) fun f cdv A outer s H E hr => (a__law_covers z ((c__law_sum z).up (by decide)) ((c__law_below z).up (by decide)) f cdv A outer s H E hr).elim fun ts hb => ⟨ts, _, hb, p__law_covers⟩
theorem c__law_of {w : World} {K : PySem.W.Frag} {mg : Str → Option Value} {base : Heap} (z : Fx K mg) : CA w K mg base 2 "_law_of" ["_law_tin", "_law_goods_so"] R__law_of :=
  mkCal (k := 1) z "_law_of" 46 60 rfl rfl sc__law_of (fun _ _ _ _ _ _ _ us hl => match us, hl with | [_, _], _ => rfl) fun f cdv A outer s H E hr => (a__law_of z ((c__law_take z).up (by decide)) f cdv A outer s H E hr).elim fun ts hb => ⟨ts, _, hb, p__law_of⟩
theorem c__law_reach {w : World} {K : PySem.W.Frag} {mg : Str → Option Value} {base : Heap} (z : Fx K mg) : CA w K mg base 2 "_law_reach" ["_law_one", "_law_axis", "_law_zoom"] R__law_reach :=
  mkCal (k := 1) z "_law_reach" 59 73 rfl rfl sc__law_reach (fun _ _ _ _ _ _ _ us hl => match us, hl with | [_, _, _], _ => rfl) fun f cdv A outer s H E hr => (a__law_reach z ((c__law_low z).up (by decide)) f cdv A outer s H E hr).elim fun ts hb => ⟨ts, _, hb, p__law_reach⟩
theorem c__law_is_let {w : World} {K : PySem.W.Frag} {mg : Str → Option Value} {base : Heap} (z : Fx K mg) : CA w K mg base 3 "_law_is_let" ["_law_one", "_law_zoom", "_law_spot"] R__law_is_let :=
  mkCal (k := 2) z "_law_is_let" 60 74 rfl rfl sc__law_is_let (fun _ _ _ _ _ _ _ us hl => match us, hl with | [_, _, _], _ => rfl) fun f cdv A outer s H E hr => (a__law_is_let z ((c__law_reach z).up (by decide)) ((c__law_below z).up (by decide)) f cdv A outer s H E hr).elim fun ts hb => ⟨ts, _, hb, p__law_is_let⟩
theorem c_stretch_at {w : World} {K : PySem.W.Frag} {mg : Str → Option Value} {base : Heap} (z : Fx K mg) : CA w K mg base 8 "stretch_at" ["chart", "name", "axis", "scale"] R_stretch_at :=
  mkCal (k := 7) z "stretch_at" 38 51 rfl rfl sc_stretch_at (fun _ _ _ _ _ _ _ us hl => match us, hl with | [_, _, _, _], _ => rfl) fun f cdv A outer s H E hr => (a_stretch_at z ((c_on z).up (by decide)) ((c_tuple_of z 4).up (by decide)) ((c_sure_name z).up (by decide)) f cdv A outer s H E hr).elim fun ts hb => ⟨ts, _, hb, p_stretch_at⟩
theorem c_minus {w : World} {K : PySem.W.Frag} {mg : Str → Option Value} {base : Heap} (z : Fx K mg) : CA w K mg base 2 "minus" ["one", "other"] R_minus :=
  mkCal (k := 1) z "minus" 5 13 rfl rfl sc_minus (fun _ _ _ _ _ _ _ us hl => match us, hl with | [_, _], _ => rfl) fun f cdv A outer s H E hr => (a_minus z ((c_fraction z).up (by decide)) f cdv A outer s H E hr).elim fun ts hb => ⟨ts, _, hb, p_minus⟩
theorem c_place_turned {w : World} {K : PySem.W.Frag} {mg : Str → Option Value} {base : Heap} (z : Fx K mg) : CA w K mg base 8 "place_turned" ["chart", "name", "place"] R_place_turned :=
  mkCal (k := 7) z "place_turned" 32 45 rfl rfl sc_place_turned (fun _ _ _ _ _ _ _ us hl => match us, hl with | [_, _, _], _ => rfl) fun f cdv A outer s H E hr => (a_place_turned z ((c_sure_name z).up (by decide)) ((c_tuple_of z 4).up (by decide)) ((c_minus z).up (by decide)) ((c_plus z).up (by decide)) f cdv A outer s H E hr).elim fun ts hb => ⟨ts, _, hb, p_place_turned⟩
theorem c_box_at {w : World} {K : PySem.W.Frag} {mg : Str → Option Value} {base : Heap} (z : Fx K mg) : CA w K mg base 8 "box_at" ["chart", "name", "place"] R_box_at :=
  mkCal (k := 7) z "box_at" 41 54 rfl rfl sc_box_at (fun _ _ _ _ _ _ _ us hl => match us, hl with | [_, _, _], _ => rfl) fun f cdv A outer s H E hr => (a_box_at z ((c_box_in z).up (by decide)) ((c_tuple_of z 4).up (by decide)) ((c_sure_name z).up (by decide)) f cdv A outer s H E hr).elim fun ts hb => ⟨ts, _, hb, p_box_at⟩
theorem c__law_one_right {w : World} {K : PySem.W.Frag} {mg : Str → Option Value} {base : Heap} (z : Fx K mg) : CA w K mg base 9 "_law_one_right" ["_law_tin", "_law_plan", "_law_k", "_law_zoom"] R__law_one_right :=
  mkCal (k := 8) z "_law_one_right" 61 75 rfl rfl sc__law_one_right (fun _ _ _ _ _ _ _ us hl => match us, hl with | [_, _, _, _], _ => rfl) fun f cdv A outer s H E hr => (a__law_one_right z ((c__law_plan_half z).up (by decide)) ((c__law_sum z).up (by decide)) ((c__law_of z).up (by decide)) ((c__law_reach z).up (by decide)) ((c__law_take z).up (by decide)) ((c__law_low z).up (by decide)) ((c__law_lists z 6).up (by decide)) ((c__law_is_let z).up (by decide)) ((c_stretch_at z).up (by decide)) ((c_lets z).up (by decide)) ((c_place_turned z).up (by decide)) ((c__law_same z 6).up (by decide)) ((c_box_at z).up (by decide)) f cdv A outer s H E hr).elim fun ts hb => ⟨ts, _, hb, p__law_one_right⟩
theorem c__law_plans_right {w : World} {K : PySem.W.Frag} {mg : Str → Option Value} {base : Heap} (z : Fx K mg) : CA w K mg base 10 "_law_plans_right" ["_law_tin"] R__law_plans_right :=
  mkCal (k := 9) z "_law_plans_right" 63 77 rfl rfl sc__law_plans_right (fun _ _ _ _ _ _ _ us hl => match us, hl with | [_], _ => rfl) fun f cdv A outer s H E hr => (a__law_plans_right z ((c__law_drawn_plan z).up (by decide)) ((c__law_number z).up (by decide)) ((c__law_take z).up (by decide)) ((c_is_map z).up (by decide)) ((c_turned z).up (by decide)) ((c__law_lists z 6).up (by decide)) ((c__law_plan_half z).up (by decide)) ((c_part_of z).up (by decide)) ((c_joined z).up (by decide)) ((c_map_moved z).up (by decide)) ((c_spread z).up (by decide)) ((c_sized z).up (by decide)) ((c__law_plan_by z).up (by decide)) ((c_sides_turned z).up (by decide)) ((c_do_cover z).up (by decide)) ((c__law_covers z).up (by decide)) ((c__law_same z 6).up (by decide)) ((c__law_one_right z).up (by decide)) f cdv A outer s H E hr).elim fun ts hb => ⟨ts, _, hb, p__law_plans_right⟩
theorem c__law_looks {w : World} {K : PySem.W.Frag} {mg : Str → Option Value} {base : Heap} (z : Fx K mg) : CA w K mg base 3 "_law_looks" ["_law_tin"] R__law_looks :=
  mkCal (k := 2) z "_law_looks" 64 78 rfl rfl sc__law_looks (fun _ _ _ _ _ _ _ us hl => match us, hl with | [_], _ => rfl) fun f cdv A outer s H E hr => (a__law_looks z ((c__law_take z).up (by decide)) ((c__law_of z).up (by decide)) f cdv A outer s H E hr).elim fun ts hb => ⟨ts, _, hb, p__law_looks⟩
theorem c__law_leaf {w : World} {K : PySem.W.Frag} {mg : Str → Option Value} {base : Heap} (z : Fx K mg) : CA w K mg base 3 "_law_leaf" ["_law_tin", "_law_many_so"] R__law_leaf :=
  mkCal (k := 2) z "_law_leaf" 66 80 rfl rfl sc__law_leaf (fun _ _ _ _ _ _ _ us hl => match us, hl with | [_, _], _ => rfl) fun f cdv A outer s H E hr => (a__law_leaf z ((c__law_take z).up (by decide)) ((c__law_of z).up (by decide)) f cdv A outer s H E hr).elim fun ts hb => ⟨ts, _, hb, p__law_leaf⟩
theorem c__law_named {w : World} {K : PySem.W.Frag} {mg : Str → Option Value} {base : Heap} (z : Fx K mg) : CA w K mg base 1 "_law_named" ["_law_look_so", "_law_word", "_law_patch"] R__law_named :=
  mkCal (k := 0) z "_law_named" 65 79 rfl rfl sc__law_named (fun _ _ _ _ _ _ _ us hl => match us, hl with | [_, _, _], _ => rfl) fun f cdv A outer s H E hr => (a__law_named z  f cdv A outer s H E hr).elim fun ts hb => ⟨ts, _, hb, p__law_named⟩
theorem c_words_of {w : World} {K : PySem.W.Frag} {mg : Str → Option Value} {base : Heap} (z : Fx K mg) : CA w K mg base 1 "words_of" ["text"] R_words_of :=
  mkCal (k := 0) z "words_of" 15 25 rfl rfl sc_words_of (fun _ _ _ _ _ _ _ us hl => match us, hl with | [_], _ => rfl) fun f cdv A outer s H E hr => (a_words_of z  f cdv A outer s H E hr).elim fun ts hb => ⟨ts, _, hb, p_words_of⟩
theorem c_width_in {w : World} {K : PySem.W.Frag} {mg : Str → Option Value} {base : Heap} (z : Fx K mg) : CA w K mg base 1 "width_in" ["style", "line"] R_width_in :=
  mkCal (k := 0) z "width_in" 14 24 rfl rfl sc_width_in (fun _ _ _ _ _ _ _ us hl => match us, hl with | [_, _], _ => rfl) fun f cdv A outer s H E hr => (a_width_in z  f cdv A outer s H E hr).elim fun ts hb => ⟨ts, _, hb, p_width_in⟩
theorem c_wide_in {w : World} {K : PySem.W.Frag} {mg : Str → Option Value} {base : Heap} (z : Fx K mg) : CA w K mg base 2 "wide_in" ["style", "words"] R_wide_in :=
  mkCal (k := 1) z "wide_in" 16 26 rfl rfl sc_wide_in (fun _ _ _ _ _ _ _ us hl => match us, hl with | [_, _], _ => rfl) fun f cdv A outer s H E hr => (a_wide_in z ((c_width_in z).up (by decide)) f cdv A outer s H E hr).elim fun ts hb => ⟨ts, _, hb, p_wide_in⟩
theorem c_nexts {w : World} {K : PySem.W.Frag} {mg : Str → Option Value} {base : Heap} (z : Fx K mg) : CA w K mg base 1 "nexts" ["wide", "ahead", "first", "most"] R_nexts :=
  mkCal (k := 0) z "nexts" 17 27 rfl rfl sc_nexts (fun _ _ _ _ _ _ _ us hl => match us, hl with | [_, _, _, _], _ => rfl) fun f cdv A outer s H E hr => (a_nexts z  f cdv A outer s H E hr).elim fun ts hb => ⟨ts, _, hb, p_nexts⟩
theorem c_table_in {w : World} {K : PySem.W.Frag} {mg : Str → Option Value} {base : Heap} (z : Fx K mg) : CA w K mg base 2 "table_in" ["wide", "count", "most"] R_table_in :=
  mkCal (k := 1) z "table_in" 18 28 rfl rfl sc_table_in (fun _ _ _ _ _ _ _ us hl => match us, hl with | [_, _, _], _ => rfl) fun f cdv A outer s H E hr => (a_table_in z ((c_nexts z).up (by decide)) f cdv A outer s H E hr).elim fun ts hb => ⟨ts, _, hb, p_table_in⟩
theorem c_lines_of {w : World} {K : PySem.W.Frag} {mg : Str → Option Value} {base : Heap} (z : Fx K mg) : CA w K mg base 8 "lines_of" ["style", "text"] R_lines_of :=
  mkCal (k := 7) z "lines_of" 19 29 rfl rfl sc_lines_of (fun _ _ _ _ _ _ _ us hl => match us, hl with | [_, _], _ => rfl) fun f cdv A outer s H E hr => (a_lines_of z ((c_tuple_of z 4).up (by decide)) ((c_words_of z).up (by decide)) ((c_wide_in z).up (by decide)) ((c_table_in z).up (by decide)) ((c_nexts z).up (by decide)) f cdv A outer s H E hr).elim fun ts hb => ⟨ts, _, hb, p_lines_of⟩
theorem c_size_of {w : World} {K : PySem.W.Frag} {mg : Str → Option Value} {base : Heap} (z : Fx K mg) : CA w K mg base 9 "size_of" ["style", "text"] R_size_of :=
  mkCal (k := 8) z "size_of" 20 30 rfl rfl sc_size_of (fun _ _ _ _ _ _ _ us hl => match us, hl with | [_, _], _ => rfl) fun f cdv A outer s H E hr => (a_size_of z ((c_tuple_of z 4).up (by decide)) ((c_lines_of z).up (by decide)) ((c_width_in z).up (by decide)) f cdv A outer s H E hr).elim fun ts hb => ⟨ts, _, hb, p_size_of⟩
theorem c_tethers_of {w : World} {K : PySem.W.Frag} {mg : Str → Option Value} {base : Heap} (z : Fx K mg) : CA w K mg base 1 "tethers_of" ["style", "size", "area"] R_tethers_of :=
  mkCal (k := 0) z "tethers_of" 21 31 rfl rfl sc_tethers_of (fun _ _ _ _ _ _ _ us hl => match us, hl with | [_, _, _], _ => rfl) fun f cdv A outer s H E hr => (a_tethers_of z  f cdv A outer s H E hr).elim fun ts hb => ⟨ts, _, hb, p_tethers_of⟩
theorem c_frame_of {w : World} {K : PySem.W.Frag} {mg : Str → Option Value} {base : Heap} (z : Fx K mg) : CA w K mg base 1 "frame_of" ["spots"] R_frame_of :=
  mkCal (k := 0) z "frame_of" 12 21 rfl rfl sc_frame_of (fun _ _ _ _ _ _ _ us hl => match us, hl with | [_], _ => rfl) fun f cdv A outer s H E hr => (a_frame_of z  f cdv A outer s H E hr).elim fun ts hb => ⟨ts, _, hb, p_frame_of⟩
theorem c_reach {w : World} {K : PySem.W.Frag} {mg : Str → Option Value} {base : Heap} (z : Fx K mg) : CA w K mg base 1 "reach" ["one", "other"] R_reach :=
  mkCal (k := 0) z "reach" 8 17 rfl rfl sc_reach (fun _ _ _ _ _ _ _ us hl => match us, hl with | [_, _], _ => rfl) fun f cdv A outer s H E hr => (a_reach z  f cdv A outer s H E hr).elim fun ts hb => ⟨ts, _, hb, p_reach⟩
theorem c_stepped {w : World} {K : PySem.W.Frag} {mg : Str → Option Value} {base : Heap} (z : Fx K mg) : CA w K mg base 1 "stepped" ["near", "goal", "many"] R_stepped :=
  mkCal (k := 0) z "stepped" 9 18 rfl rfl sc_stepped (fun _ _ _ _ _ _ _ us hl => match us, hl with | [_, _, _], _ => rfl) fun f cdv A outer s H E hr => (a_stepped z  f cdv A outer s H E hr).elim fun ts hb => ⟨ts, _, hb, p_stepped⟩
theorem c_spot_in {w : World} {K : PySem.W.Frag} {mg : Str → Option Value} {base : Heap} (z : Fx K mg) : CA w K mg base 2 "spot_in" ["way", "far"] R_spot_in :=
  mkCal (k := 1) z "spot_in" 10 19 rfl rfl sc_spot_in (fun _ _ _ _ _ _ _ us hl => match us, hl with | [_, _], _ => rfl) fun f cdv A outer s H E hr => (a_spot_in z ((c_reach z).up (by decide)) ((c_stepped z).up (by decide)) f cdv A outer s H E hr).elim fun ts hb => ⟨ts, _, hb, p_spot_in⟩
theorem c_piece_in {w : World} {K : PySem.W.Frag} {mg : Str → Option Value} {base : Heap} (z : Fx K mg) : CA w K mg base 3 "piece_in" ["way", "first", "last"] R_piece_in :=
  mkCal (k := 2) z "piece_in" 11 20 rfl rfl sc_piece_in (fun _ _ _ _ _ _ _ us hl => match us, hl with | [_, _, _], _ => rfl) fun f cdv A outer s H E hr => (a_piece_in z ((c_spot_in z).up (by decide)) ((c_reach z).up (by decide)) f cdv A outer s H E hr).elim fun ts hb => ⟨ts, _, hb, p_piece_in⟩
theorem c_tie_in {w : World} {K : PySem.W.Frag} {mg : Str → Option Value} {base : Heap} (z : Fx K mg) : CA w K mg base 4 "tie_in" ["feature"] R_tie_in :=
  mkCal (k := 3) z "tie_in" 13 22 rfl rfl sc_tie_in (fun _ _ _ _ _ _ _ us hl => match us, hl with | [_], _ => rfl) fun f cdv A outer s H E hr => (a_tie_in z ((c_frame_of z).up (by decide)) ((c_piece_in z).up (by decide)) f cdv A outer s H E hr).elim fun ts hb => ⟨ts, _, hb, p_tie_in⟩
theorem c_map_of {w : World} {K : PySem.W.Frag} {mg : Str → Option Value} {base : Heap} (z : Fx K mg) : CA w K mg base 10 "map_of" ["page", "styles"] R_map_of :=
  mkCal (k := 9) z "map_of" 26 39 rfl rfl sc_map_of (fun _ _ _ _ _ _ _ us hl => match us, hl with | [_, _], _ => rfl) fun f cdv A outer s H E hr => (a_map_of z ((c_tuple_of z 6).up (by decide)) ((c_size_of z).up (by decide)) ((c_tethers_of z).up (by decide)) ((c_tie_in z).up (by decide)) f cdv A outer s H E hr).elim fun ts hb => ⟨ts, _, hb, p_map_of⟩
theorem c__law_moved {w : World} {K : PySem.W.Frag} {mg : Str → Option Value} {base : Heap} (z : Fx K mg) : CA w K mg base 1 "_law_moved" ["_law_leaf_here", "_law_x", "_law_y"] R__law_moved :=
  mkCal (k := 0) z "_law_moved" 67 81 rfl rfl sc__law_moved (fun _ _ _ _ _ _ _ us hl => match us, hl with | [_, _, _], _ => rfl) fun f cdv A outer s H E hr => (a__law_moved z  f cdv A outer s H E hr).elim fun ts hb => ⟨ts, _, hb, p__law_moved⟩
theorem c__law_pages_right {w : World} {K : PySem.W.Frag} {mg : Str → Option Value} {base : Heap} (z : Fx K mg) : CA w K mg base 11 "_law_pages_right" ["_law_tin"] R__law_pages_right :=
  mkCal (k := 10) z "_law_pages_right" 68 82 rfl rfl sc__law_pages_right (fun _ _ _ _ _ _ _ us hl => match us, hl with | [_], _ => rfl) fun f cdv A outer s H E hr => (a__law_pages_right z ((c__law_looks z).up (by decide)) ((c__law_take z).up (by decide)) ((c__law_leaf z).up (by decide)) ((c__law_named z).up (by decide)) ((c_map_of z).up (by decide)) ((c__law_lists z 6).up (by decide)) ((c__law_moved z).up (by decide)) ((c__law_same z 6).up (by decide)) ((c__law_plan_by z).up (by decide)) f cdv A outer s H E hr).elim fun ts hb => ⟨ts, _, hb, p__law_pages_right⟩
theorem c__law_box {w : World} {K : PySem.W.Frag} {mg : Str → Option Value} {base : Heap} (z : Fx K mg) : CalBox PR w K mg base 1 :=
  box_ok (t := t__law_box) (tl := l__law_box) z 57 43 rfl rfl sc__law_box (fun _ _ _ _ _ _ _ us hl => match us, hl with | [_, _], _ => rfl) (fun l j G h0 h1 hl hG => p__law_box l j G h0 h1 hl hG) fun f cdv A outer s H E hr => by
    obtain ⟨ts, hb⟩ := b__law_box (base := base) (w := w) z f cdv A outer s H E hr
    obtain ⟨te, hl⟩ := r__law_box (base := base) (w := w) z f cdv A outer s H E hr
    exact ⟨ts, te, pss_cons hb.pe (pss_one (ps_ret hl.pe)), hb.rel, hl.rel⟩
theorem scr_of {K : PySem.W.Frag} {H : Hp} {a : Addr} {ns : List Int} (h : SqL K H a (ns.map V.int)) : Is K H (.ref a) (.scr (ns.map D.int)) := by
  have s : ScrAt K H a (ns.map V.int) := by
    rcases h with h | h
    · rcases h with h | ⟨o, h⟩
      · exact .inl h
      · exact .inr (.inl ⟨o, h⟩)
    · exact .inr (.inr h)
  refine .scr s (by simp) fun i x d e1 e2 => ?_
  rw [List.getElem?_map] at e1 e2
  cases q : ns[i]? with
  | none => rw [q] at e1; cases e1
  | some v =>
    rw [q] at e1 e2
    cases Option.some.inj e1
    cases Option.some.inj e2
    exact .int v
theorem law_facts {w : World} {K : PySem.W.Frag} {h : Heap} {mg : Str → Option Value} {f : Addr} (X : K.In h) (G : h.Ns mainGlobals mg) (hfa : mg ("law" : Str) = some (.ref f)) (c : SaysY faA fnA K) :
    ∃ fd : FuncData, (∀ (s : Shared) (v : Value), BindsTo s fd ⟨[v], []⟩ [("_law_script", v)]) ∧ ∀ base : Heap, K.In base → base.Ns mainGlobals mg → FnOk PR w K mg base CX0 12 f fd ["_law_script"] (spD K 1 R_law) := by
  have z : Fx K mg := ⟨c.d, c.e, h, X, G⟩
  obtain ⟨fd, F⟩ := c.d.def_ 70 (d := dOf "law" 84) rfl
  have e := hfa.symm.trans (z.glo 70 (x := "law") rfl)
  cases e
  have b := FunD.bindsA (ps := ["_law_script"]) F fun _ _ _ _ _ _ us hl => match us, hl with | [_], _ => rfl
  exact ⟨fd, fun s v => b s [v] rfl, fun base _ _ => okD (ps := ["_law_script"]) F sc_law fun cdv A outer s H E hr => (a_law (k := 11) z ((c__law_by_hand_right z).up (by decide)) ((c__law_cells z).up (by decide)) ((c__law_plans_right z).up (by decide)) ((c__law_pages_right z).up (by decide)) ((c__law_box z).up (by decide)) _ cdv A outer s H E hr).elim fun ts hb => ⟨ts, _, hb, p_law⟩⟩
end DL

open PySem PySem.W PySem.Calls PyProof.Rows
theorem PySem.Challenge.cw_glidenames_k07_whole_maps_turned_moved_a_holds : PySem.Challenge.rw_glidenames_k07_whole_maps_turned_moved_a.Holds := by
  w_on; o_law
  refine HandSHeadRun.head_imp (r := OpenLaw.row PySem.Challenge.rw_glidenames_k07_whole_maps_turned_moved_a) (q := view (OpenLaw.row PySem.Challenge.rw_glidenames_k07_whole_maps_turned_moved_a).prog [0, 84]) (H := Gn.hk) (ob := Gn.ob) (M := 6000) (loose := Gn.nmA) (d := HandSHeadRun.topDef (OpenLaw.row PySem.Challenge.rw_glidenames_k07_whole_maps_turned_moved_a).prog 84) (kwd := []) Gn.ob_eq Gn.run
    (by kernel_rfl) (by kernel_rfl) (by kernel_rfl) (by rfl) (by first | assumption | decide +kernel) (by decide +kernel) ⟨rfl, rfl, rfl, rfl, rfl, by decide +kernel⟩ ?hw ?hc
  case hw => w_witness2
  case hc =>
    refine L2.walk_ofE (l := PySem.Challenge.rw_glidenames_k07_whole_maps_turned_moved_a) (n := 63) (k := 12) (x := "_law_script") (CX := L2.CX0) rfl (by decide) (by kernel_rfl) ⟨rfl, by decide, by decide⟩ ?F (fun _ _ _ _ z => z)
    intro w mg fa h Y G hmg0
    obtain ⟨K, KX, c⟩ := Y
    have hmg : mg ("law" : PySem.Str) = some (.ref fa) := by
      have e : (HandSHeadRun.topDef (OpenLaw.row PySem.Challenge.rw_glidenames_k07_whole_maps_turned_moved_a).prog 84).name = ("law" : PySem.Str) := by kernel_rfl
      rw [← e]
      exact hmg0
    obtain ⟨fd, hb, hF⟩ := DL.law_facts (w := w) KX G hmg c
    refine ⟨K, fd, DL.spD K 1 DL.R_law, KX, hb, fun H a ns hl _ hS => ?_, hF⟩
    refine ⟨none, H, [.d (.scr (ns.map DL.D.int))], 0, fun d _ => d = .bl true, L2.Same.refl H, trivial, ⟨rfl, fun i v s e1 e2 => ?_⟩, rfl, DL.R_law.mk ns hl fun _ => rfl, fun v d F' H' n' _ _ i e => ?_⟩
    · cases i with
      | zero =>
        cases Option.some.inj e1
        cases Option.some.inj e2
        exact DL.scr_of hS
      | succ i => simp at e1
    · subst e
      cases i
      rfl
