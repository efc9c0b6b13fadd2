import PyProof.Rows.All
import Wide.All
import OpenK.AllK
import Wide.FinOn
import PyProof.EqAt
import PyProof.EqKinds
import PyProof.TupleCall
import HandS.ForMost
import HandS.ForExc
import HandS.TupAny
import HandS.TupMul
import HandS.Small
import HandS.IsInst
import HandS.Zip
import HandS.Deep
import KE.KDictKeyed
import KE.KeyNested
import HandS.SuiteRaise
import HandS.RaiseFrom
import HandS.TryMany
import KE.GoesMore
import KE.GoesEnum
import HandS.StrMore
import HandS.TupLe
import HandS.Flow
import KE.KDictSum
import KE.SortData
import HandS.Conv
import HandS.FStr
import KE.DataCmp
import PyProof.StrBlock2
import KE.SortKeyed
import HandS.SortKw
import HandS.Iter
import HandS.SetKeys
import KE.KTryMore
import PyProof.Rows.RuleU_int
import KE.KDictItemsList
import HandS.ExcInit
import HandS.ExcField
import PySem.Challenge.RW_filecrate_k33_whole_volumes_joined
set_option Elab.async false
set_option linter.all false
set_option maxRecDepth 100000
set_option maxHeartbeats 4000000
namespace D2
open PySem PySem.Spec PyProof.Rows L2

abbrev St := L2.St
/-! ### outcomes over data -/
inductive Ex where
  | plain (c : Str)
  | wth (c f : Str) (x : PyData)
def Ex.cls : Ex → Str
  | .plain c => c
  | .wth c _ _ => c
inductive Rs (α : Type) where
  | ok (a : α) | er (x : Ex) | no
def Rs.bind {α β : Type} : Rs α → (α → Rs β) → Rs β
  | .ok a, f => f a
  | .er x, _ => .er x
  | .no, _ => .no
@[simp] theorem bind_ok {α β : Type} (a : α) (f : α → Rs β) : Rs.bind (.ok a) f = f a := Eq.trans rfl rfl
@[simp] theorem bind_er {α β : Type} (x : Ex) (f : α → Rs β) : Rs.bind (.er x : Rs α) f = .er x := Eq.trans rfl rfl
@[simp] theorem bind_no {α β : Type} (f : α → Rs β) : Rs.bind (.no : Rs α) f = .no := Eq.trans rfl rfl
def ofO {α : Type} : Option α → Rs α
  | some a => .ok a
  | none => .no
@[simp] theorem ofO_some {α : Type} (a : α) : ofO (some a) = .ok a := Eq.trans rfl rfl
@[simp] theorem ofO_none {α : Type} : ofO (none : Option α) = .no := Eq.trans rfl rfl

/-- what a slot holds: data, or a list or a dict that the frame alone holds and may change -/
inductive B where
  | d (x : PyData)
  | l (xs : List PyData)
  | k (kvs : List (Key × PyData))
  /-- a dict that is locked while it is walked -/
  | f (kvs : List (Key × PyData))
  /-- a dict whose keys are tuples -/
  | t (kvs : List (List Key × PyData))
def owned : B → Bool
  | .d _ => false
  | .f _ => false
  | _ => true
abbrev En := List (Option B)

/-! ### data in the heap -/
def keyD : Key → PyData
  | .inl i => .int i
  | .inr x => .str x
def keyOf : PyData → Option Key
  | .int i => some (.inl i)
  | .str x => some (.inr x)
  | _ => none
mutual
inductive Dq (K : PySem.W.Frag) (S : Hp) : V → PyData → Prop
  | non : Dq K S .non .none
  | bl (b : Bool) : Dq K S (.bl b) (.bool b)
  | int (i : Int) : Dq K S (.int i) (.int i)
  | str (x : Str) : Dq K S (.str x) (.str x)
  | lst {a : Addr} {xs : List V} {ds : List PyData} : Rd S a (.lst xs) → DqAll K S xs ds → Dq K S (.ref a) (.list ds)
  | tup {a : Addr} {xs : List V} {ds : List PyData} : SqT K S a xs → DqAll K S xs ds → Dq K S (.ref a) (.tuple ds)
  | scr {a : Addr} {xs : List V} {ds : List PyData} : SqL K S a xs → DqAll K S xs ds → Dq K S (.ref a) (.dict [(.none, .list ds)])
  /-- a dict that is changed no more -/
  | dct {a : Addr} {o : Obj} {ws : List (Key × V)} {ds : List PyData} {kvs : List (PyData × PyData)} : S a = some (.frz o (.dK ws)) → DqAll K S (ws.map (·.2)) ds → kvs = (ws.map fun p => keyD p.1).zip ds → Dq K S (.ref a) (.dict kvs)
inductive DqAll (K : PySem.W.Frag) (S : Hp) : List V → List PyData → Prop
  | nil : DqAll K S [] []
  | cons {v : V} {vs : List V} {d : PyData} {ds : List PyData} : Dq K S v d → DqAll K S vs ds → DqAll K S (v :: vs) (d :: ds)
end
section
variable {K : PySem.W.Frag} {S S' H : Hp}
theorem rd_mono {a : Addr} {u : HO} (e : Same S S') (h : Rd S a u) : Rd S' a u := by
  rcases h with h | ⟨o, h⟩
  · exact .inl (e _ _ h)
  · exact .inr ⟨o, e _ _ h⟩
theorem dq_dp (d : PyData) (v : V) (h : Dq K S v d) (l : d.canLay0 = true) : Dp K S v d :=
  Dq.rec (motive_1 := fun v d _ => d.canLay0 = true → Dp K S v d) (motive_2 := fun vs ds _ => PyData.canLayAll0 ds = true → DpAll K S vs ds)
    (fun _ => .non) (fun b _ => .bl b) (fun b _ => .int b) (fun b _ => .str b) (fun h1 _ ih l => .lst (.inl h1) (ih (by simpa [PyData.canLay0] using l))) (fun h1 _ ih l => .tup h1 (ih (by simpa [PyData.canLay0] using l)))
    (fun _ _ _ l => by simp [PyData.canLay0] at l) (fun _ _ _ _ l => by simp [PyData.canLay0] at l) (fun _ => .nil) (fun _ _ i1 i2 l => by
      rw [PyData.canLayAll0, Bool.and_eq_true] at l
      exact .cons (i1 l.1) (i2 l.2)) h l
end
section
variable {K : PySem.W.Frag} {S S' H : Hp}
theorem sqT_mono {a : Addr} {xs : List V} (e : Same S S') (h : SqT K S a xs) : SqT K S' a xs := by
  rcases h with (h | ⟨o, h⟩) | h
  · exact .inl (.inl (e _ _ h))
  · exact .inl (.inr ⟨o, e _ _ h⟩)
  · exact .inr h
theorem dp_mono (e : Same S S') (d : PyData) (v : V) (h : Dq K S v d) : Dq K S' v d :=
  Dq.rec (motive_1 := fun v d _ => Dq K S' v d) (motive_2 := fun vs ds _ => DqAll K S' vs ds)
    .non .bl .int .str (fun h1 _ ih => .lst (rd_mono e h1) ih) (fun h1 _ ih => .tup (sqT_mono e h1) ih) (fun h1 _ ih => .scr (e.seq h1) ih) (fun h1 _ h3 ih => .dct (e _ _ h1) ih h3) .nil (fun _ _ i1 i2 => .cons i1 i2) h
theorem dps_mono (e : Same S S') (ds : List PyData) (vs : List V) (h : DqAll K S vs ds) : DqAll K S' vs ds :=
  DqAll.rec (motive_1 := fun v d _ => Dq K S' v d) (motive_2 := fun vs ds _ => DqAll K S' vs ds)
    .non .bl .int .str (fun h1 _ ih => .lst (rd_mono e h1) ih) (fun h1 _ ih => .tup (sqT_mono e h1) ih) (fun h1 _ ih => .scr (e.seq h1) ih) (fun h1 _ h3 ih => .dct (e _ _ h1) ih h3) .nil (fun _ _ i1 i2 => .cons i1 i2) h
theorem dct_ne {ws : List (Key × V)} {ds : List PyData} {x : PyData} (h : [(PyData.none, x)] = (ws.map fun p => keyD p.1).zip ds) : False := by
  cases ws with
  | nil => cases h
  | cons p ws =>
    cases ds with
    | nil => cases h
    | cons d ds =>
      obtain ⟨k, v⟩ := p
      cases k <;> simp [keyD] at h
theorem DqAll.length : ∀ {vs : List V} {ds : List PyData}, DqAll K S vs ds → vs.length = ds.length
  | _, [], h => by cases h; rfl
  | _, d :: ds, h => by
    cases h with
    | cons _ h2 => simp [DqAll.length h2]
theorem DqAll.get : ∀ {vs : List V} {ds : List PyData} {i : Nat} {v : V}, DqAll K S vs ds → vs[i]? = some v → ∃ d, ds[i]? = some d ∧ Dq K S v d
  | _, [], i, v, h, e => by cases h; simp at e
  | _, d :: ds, 0, v, h, e => by
    cases h with
    | cons h1 h2 => simp at e; subst e; exact ⟨d, rfl, h1⟩
  | _, d :: ds, i + 1, v, h, e => by
    cases h with
    | cons h1 h2 =>
      obtain ⟨d', e', h'⟩ := DqAll.get (i := i) (v := v) h2 (by simpa using e)
      exact ⟨d', by simpa using e', h'⟩
theorem DqAll.get' {vs : List V} {ds : List PyData} {i : Nat} {d : PyData} (h : DqAll K S vs ds) (e : ds[i]? = some d) : ∃ v, vs[i]? = some v ∧ Dq K S v d := by
  have hl := DqAll.length h
  have hi : i < ds.length := (List.getElem?_eq_some_iff.mp e).1
  have hv : i < vs.length := by omega
  obtain ⟨d', e', h'⟩ := DqAll.get h (List.getElem?_eq_getElem hv)
  rw [e] at e'
  cases e'
  exact ⟨_, List.getElem?_eq_getElem hv, h'⟩
theorem DqAll.append : ∀ {vs ws : List V} {ds es : List PyData}, DqAll K S vs ds → DqAll K S ws es → DqAll K S (vs ++ ws) (ds ++ es)
  | _, _, [], _, h, h' => by cases h; exact h'
  | _, _, d :: ds, _, h, h' => by
    cases h with
    | cons h1 h2 => exact .cons h1 (DqAll.append h2 h')
theorem DqAll.take : ∀ {vs : List V} {ds : List PyData} (n : Nat), DqAll K S vs ds → DqAll K S (vs.take n) (ds.take n)
  | _, _, 0, _ => by simpa using DqAll.nil
  | _, [], n + 1, h => by cases h; exact .nil
  | _, d :: ds, n + 1, h => by
    cases h with
    | cons h1 h2 => exact .cons h1 (DqAll.take n h2)
theorem DqAll.drop : ∀ {vs : List V} {ds : List PyData} (n : Nat), DqAll K S vs ds → DqAll K S (vs.drop n) (ds.drop n)
  | _, _, 0, h => h
  | _, [], n + 1, h => by cases h; exact .nil
  | _, d :: ds, n + 1, h => by
    cases h with
    | cons h1 h2 => exact DqAll.drop n h2
theorem DqAll.set {v : V} {d : PyData} (hd : Dq K S v d) : ∀ {vs : List V} {ds : List PyData} (i : Nat), DqAll K S vs ds → DqAll K S (vs.set i v) (ds.set i d)
  | _, [], i, h => by cases h; exact .nil
  | _, e :: ds, 0, h => by
    cases h with
    | cons h1 h2 => exact .cons hd h2
  | _, e :: ds, i + 1, h => by
    cases h with
    | cons h1 h2 => exact .cons h1 (DqAll.set hd i h2)
theorem DqAll.one {v : V} {d : PyData} (h : Dq K S v d) : DqAll K S [v] [d] := .cons h .nil
theorem DqAll.reverse : ∀ {vs : List V} {ds : List PyData}, DqAll K S vs ds → DqAll K S vs.reverse ds.reverse
  | _, [], h => by cases h; exact .nil
  | _, d :: ds, h => by
    cases h with
    | cons h1 h2 => simp only [List.reverse_cons]; exact DqAll.append (DqAll.reverse h2) (DqAll.one h1)
theorem DqAll.rep {vs : List V} {ds : List PyData} (h : DqAll K S vs ds) : ∀ n : Nat, DqAll K S (List.replicate n vs).flatten (List.replicate n ds).flatten
  | 0 => by simpa using DqAll.nil
  | n + 1 => by simp only [List.replicate_succ, List.flatten_cons]; exact DqAll.append h (DqAll.rep h n)
theorem dps_ints : ∀ (ns : List Int) (vs : List V), DqAll K S vs (ns.map PyData.int) → vs = ns.map V.int
  | [], _, h => by cases h; rfl
  | n :: ns, _, h => by
    cases h with
    | cons h1 h2 => cases h1; rw [dps_ints ns _ h2]; rfl
theorem ints_dps : ∀ (ns : List Int), DqAll K S (ns.map V.int) (ns.map PyData.int)
  | [] => .nil
  | n :: ns => .cons (.int n) (ints_dps ns)
end

/-- from (S, H) at an entry to (S', H'): all that was tracked stays; what is shared grows by new things alone -/
structure Old (H0 S0 S H : Hp) : Prop where
  ext : Same H0 H
  sub : Same S H
  s0 : Same S0 S
  old : ∀ a o, H0 a = some o → S a = S0 a
section
variable {H0 S0 S H S' H' : Hp}
theorem Old.refl (h : Same S H) : Old H S S H := ⟨.refl _, h, .refl _, fun _ _ _ => rfl⟩
theorem Old.trans (a : Old H0 S0 S H) (b : Old H S S' H') : Old H0 S0 S' H' :=
  ⟨a.ext.trans b.ext, b.sub, a.s0.trans b.s0, fun c o h => (b.old c o (a.ext c o h)).trans (a.old c o h)⟩
theorem same_upd {p : Addr} {o : HO} (hp : H p = none) : Same H (upd H p o) := fun b u q => by rw [upd_ne (ne_of_none q hp)]; exact q
theorem Old.new {p : Addr} {o : HO} (h : Same S H) (hp : H p = none) : Old H S (upd S p o) (upd H p o) := by
  have hs : S p = none := h.free hp
  refine ⟨same_upd hp, fun b u q => ?_, same_upd hs, fun b u q => by rw [upd_ne (ne_of_none q hp)]⟩
  by_cases hb : b = p
  · subst hb; rw [upd_same] at q ⊢; exact q
  · rw [upd_ne hb] at q ⊢; exact h b u q
end

/-! ### what the frame holds -/
def RB (K : PySem.W.Frag) (wd : World) (H0 S H : Hp) (v : V) : B → Prop
  | .d x => Dq K S v x
  | .l xs => ∃ a vs, v = .ref a ∧ H a = some (.lst vs) ∧ S a = none ∧ H0 a = none ∧ DqAll K S vs xs
  | .k kvs => ∃ a ws, v = .ref a ∧ H a = some (.dK ws) ∧ S a = none ∧ H0 a = none ∧ Paired (fun (p : Key × V) (q : Key × PyData) => p.1 = q.1 ∧ Dq K S p.2 q.2) ws kvs
  | .f kvs => ∃ a o ws, v = .ref a ∧ H a = some (.frz o (.dK ws)) ∧ H0 a = some (.frz o (.dK ws)) ∧ Paired (fun (p : Key × V) (q : Key × PyData) => p.1 = q.1 ∧ Dq K S p.2 q.2) ws kvs
  | .t kvs => ∃ a ws, v = .ref a ∧ H a = some (.dT ws) ∧ S a = none ∧ H0 a = none ∧ Paired (fun (p : List Key × V) (q : List Key × PyData) => p.1 = q.1 ∧ Dq K S p.2 q.2) ws kvs
structure Rep (K : PySem.W.Frag) (wd : World) (H0 S0 S : Hp) (ρ : En) (σ : St) (H : Hp) : Prop where
  old : Old H0 S0 S H
  slot : ∀ (i : Nat) (b : B), ρ[i]? = some (some b) → ∃ v, σ[i]? = some (some v) ∧ RB K wd H0 S H v b
  apart : ∀ (i j : Nat) (b c : B), i ≠ j → ρ[i]? = some (some b) → ρ[j]? = some (some c) → owned b = true → owned c = true → σ[i]? ≠ σ[j]?
  len : ρ.length = σ.length
section
variable {K : PySem.W.Frag} {wd : World} {H0 S0 S H S' H' : Hp} {ρ : En} {σ : St}
theorem RB.step {v : V} {b : B} (h : RB K wd H0 S H v b) (o : Old H S S' H') : RB K wd H0 S' H' v b := by
  cases b with
  | d x => exact dp_mono o.s0 _ _ h
  | l xs =>
    obtain ⟨a, vs, e, h1, h2, h3, h4⟩ := h
    exact ⟨a, vs, e, o.ext _ _ h1, (o.old _ _ h1).trans h2, h3, dps_mono o.s0 _ _ h4⟩
  | k kvs =>
    obtain ⟨a, vs, e, h1, h2, h3, h4⟩ := h
    exact ⟨a, vs, e, o.ext _ _ h1, (o.old _ _ h1).trans h2, h3, Paired.mapP h4 fun p q z => ⟨z.1, dp_mono o.s0 _ _ z.2⟩⟩
  | f kvs =>
    obtain ⟨a, u, vs, e, h1, h3, h4⟩ := h
    exact ⟨a, u, vs, e, o.ext _ _ h1, h3, Paired.mapP h4 fun p q z => ⟨z.1, dp_mono o.s0 _ _ z.2⟩⟩
  | t kvs =>
    obtain ⟨a, vs, e, h1, h2, h3, h4⟩ := h
    exact ⟨a, vs, e, o.ext _ _ h1, (o.old _ _ h1).trans h2, h3, Paired.mapP h4 fun p q z => ⟨z.1, dp_mono o.s0 _ _ z.2⟩⟩
theorem Rep.step (r : Rep K wd H0 S0 S ρ σ H) (o : Old H S S' H') : Rep K wd H0 S0 S' ρ σ H' :=
  ⟨r.old.trans o, fun i b e => let ⟨v, e1, h⟩ := r.slot i b e; ⟨v, e1, h.step o⟩, r.apart, r.len⟩
theorem Rep.sub (r : Rep K wd H0 S0 S ρ σ H) : Same S H := r.old.sub
theorem Rep.data (r : Rep K wd H0 S0 S ρ σ H) {i : Nat} {x : PyData} (e : ρ[i]? = some (some (.d x))) : ∃ v, σ[i]? = some (some v) ∧ Dq K S v x := r.slot i _ e
theorem getE_set {α : Type} {l : List α} {i j : Nat} {x y : α} (h : (l.set i x)[j]? = some y) : (i = j ∧ x = y) ∨ (i ≠ j ∧ l[j]? = some y) := by
  by_cases e : i = j
  · subst e
    by_cases hi : i < l.length
    · rw [List.getElem?_set_self hi] at h; exact .inl ⟨rfl, Option.some.inj h⟩
    · rw [List.getElem?_eq_none (by simpa using hi)] at h; cases h
  · rw [List.getElem?_set_ne e] at h; exact .inr ⟨e, h⟩
theorem Rep.set (r : Rep K wd H0 S0 S ρ σ H) {v : V} {x : PyData} (i : Nat) (h : Dq K S v x) : Rep K wd H0 S0 S (ρ.set i (some (.d x))) (σ.set i (some v)) H := by
  refine ⟨r.old, fun j b e => ?_, fun j l b c hn e1 e2 o1 o2 => ?_, by simpa using r.len⟩
  · rcases getE_set e with ⟨rfl, eb⟩ | ⟨hn, e⟩
    · have hi : i < ρ.length := by
        by_cases hi : i < ρ.length
        · exact hi
        · rw [List.getElem?_eq_none (by simpa using hi)] at e; cases e
      cases Option.some.inj eb
      exact ⟨v, List.getElem?_set_self (by rw [← r.len]; exact hi), h⟩
    · obtain ⟨w, e1, h1⟩ := r.slot j b e
      exact ⟨w, by rw [List.getElem?_set_ne hn]; exact e1, h1⟩
  · rcases getE_set e1 with ⟨rfl, eb⟩ | ⟨h1, e1⟩
    · cases Option.some.inj eb; cases o1
    · rcases getE_set e2 with ⟨rfl, eb⟩ | ⟨h2, e2⟩
      · cases Option.some.inj eb; cases o2
      · rw [List.getElem?_set_ne h1, List.getElem?_set_ne h2]
        exact r.apart j l b c hn e1 e2 o1 o2
/-- slots forgotten -/
def wipeE (ρ : En) : List Nat → En
  | [] => ρ
  | v :: vs => (wipeE ρ vs).set v none
theorem Rep.none (r : Rep K wd H0 S0 S ρ σ H) (i : Nat) : Rep K wd H0 S0 S (ρ.set i none) (σ.set i none) H := by
  refine ⟨r.old, fun j b e => ?_, fun j l b c hn e1 e2 o1 o2 => ?_, by simpa using r.len⟩
  · rcases getE_set e with ⟨rfl, eb⟩ | ⟨hn, e⟩
    · cases eb
    · obtain ⟨w, e1, h1⟩ := r.slot j b e
      exact ⟨w, by rw [List.getElem?_set_ne hn]; exact e1, h1⟩
  · rcases getE_set e1 with ⟨rfl, eb⟩ | ⟨h1, e1⟩
    · cases eb
    · rcases getE_set e2 with ⟨rfl, eb⟩ | ⟨h2, e2⟩
      · cases eb
      · rw [List.getElem?_set_ne h1, List.getElem?_set_ne h2]
        exact r.apart j l b c hn e1 e2 o1 o2
theorem Rep.wipe (r : Rep K wd H0 S0 S ρ σ H) : ∀ vs : List Nat, Rep K wd H0 S0 S (wipeE ρ vs) (wipe σ vs) H
  | [] => r
  | v :: vs => (Rep.wipe r vs).none v
/-- slots forgotten in the data alone -/
theorem Rep.forget (r : Rep K wd H0 S0 S ρ σ H) (i : Nat) : Rep K wd H0 S0 S (ρ.set i Option.none) σ H := by
  refine ⟨r.old, fun j b e => ?_, fun j l b c hn e1 e2 o1 o2 => ?_, by simpa using r.len⟩
  · rcases getE_set e with ⟨rfl, eb⟩ | ⟨hn, e⟩
    · cases eb
    · exact r.slot j b e
  · rcases getE_set e1 with ⟨rfl, eb⟩ | ⟨h1, e1⟩
    · cases eb
    · rcases getE_set e2 with ⟨rfl, eb⟩ | ⟨h2, e2⟩
      · cases eb
      · exact r.apart j l b c hn e1 e2 o1 o2
/-- a value that nobody else holds: no owned slot is it -/
def Apart (ρ : En) (σ : St) (a : Addr) : Prop := ∀ (i : Nat) (b : B), ρ[i]? = some (some b) → owned b = true → σ[i]? ≠ some (some (.ref a))
theorem Rep.fresh (r : Rep K wd H0 S0 S ρ σ H) {a : Addr} (h : H a = Option.none) : Apart ρ σ a := fun i b e o z => by
  obtain ⟨v, e1, h1⟩ := r.slot i b e
  rw [z] at e1
  cases Option.some.inj (Option.some.inj e1)
  cases b with
  | d _ => cases o
  | l xs => obtain ⟨a', vs, e2, h2, _⟩ := h1; cases e2; rw [h] at h2; cases h2
  | k xs => obtain ⟨a', vs, e2, h2, _⟩ := h1; cases e2; rw [h] at h2; cases h2
  | f _ => cases o
  | t xs => obtain ⟨a', vs, e2, h2, _⟩ := h1; cases e2; rw [h] at h2; cases h2
/-- a cell that is shared with nobody is written -/
theorem Rep.write (r : Rep K wd H0 S0 S ρ σ H) {a : Addr} {o : HO} (ap : Apart ρ σ a) (h0 : H0 a = Option.none) (hs : S a = Option.none) : Rep K wd H0 S0 S ρ σ (upd H a o) := by
  refine ⟨⟨fun b u q => ?_, fun b u q => ?_, r.old.s0, r.old.old⟩, fun i b e => ?_, r.apart, r.len⟩
  · rw [upd_ne (ne_of_none q h0)]; exact r.old.ext b u q
  · rw [upd_ne (ne_of_none q hs)]; exact r.old.sub b u q
  · obtain ⟨v, e1, h1⟩ := r.slot i b e
    refine ⟨v, e1, ?_⟩
    cases b with
    | d x => exact h1
    | l xs =>
      obtain ⟨a', vs, e2, h2, h3⟩ := h1
      subst e2
      have hne : a' ≠ a := fun z => ap i _ e rfl (by rw [e1, z])
      exact ⟨a', vs, rfl, by rw [upd_ne hne]; exact h2, h3⟩
    | k xs =>
      obtain ⟨a', vs, e2, h2, h3⟩ := h1
      subst e2
      have hne : a' ≠ a := fun z => ap i _ e rfl (by rw [e1, z])
      exact ⟨a', vs, rfl, by rw [upd_ne hne]; exact h2, h3⟩
    | f xs =>
      obtain ⟨a', u, vs, e2, h2, h3, h4⟩ := h1
      subst e2
      have hne : a' ≠ a := ne_of_none h3 h0
      exact ⟨a', u, vs, rfl, by rw [upd_ne hne]; exact h2, h3, h4⟩
    | t xs =>
      obtain ⟨a', vs, e2, h2, h3⟩ := h1
      subst e2
      have hne : a' ≠ a := fun z => ap i _ e rfl (by rw [e1, z])
      exact ⟨a', vs, rfl, by rw [upd_ne hne]; exact h2, h3⟩
end
end D2

namespace D2
open PySem PySem.Spec PyProof.Rows L2
/-! ### exceptions: those of the classes named hot may have been raised in a suite, all others where nothing was handled -/
def HotCls (hot : List Str) (mg : Str → Option Value) (C : Value) : Prop := ∃ y ∈ hot, mg y = some C
def XEh (hot : List Str) (X : Cx) (W : WX) (u : Value) (s' : Shared) : Prop := L2N.XE X W u s' ∨ L2.XE X (fun cls d σ H => HotCls hot X.mg cls ∧ W cls d σ H) u s'
def TakesH (hot : List Str) (X : Cx) (W : WX) : Prop := ∀ u s', XEh hot X W u s' → X.xe u s'
def CXh (hot : List Str) (mg : Str → Option Value) (P : Program) (w : World) : CXT := fun outer H s E u s' => L2N.CX P w outer H s E u s' ∨ L2.CX P w outer H s (fun cls d H => HotCls hot mg cls ∧ E cls d H) u s'
theorem takesH_none {hot : List Str} {X : Cx} : TakesH hot X (fun _ _ _ _ => False) := fun _ _ h => by
  rcases h with ⟨_, _, _, _, _, _, _, _, _, _, _, _, _, _, _, _, w⟩ | ⟨_, _, _, _, _, _, _, _, _, _, _, _, _, _, _, _, w⟩
  · exact w.elim
  · exact w.2.elim
theorem xe_cold {hot : List Str} {X : Cx} {W : WX} (tk : TakesH hot X W) : L2N.Takes X W := fun u s' h => tk u s' (.inl h)
theorem xe_hot {hot : List Str} {X : Cx} {W : WX} (tk : TakesH hot X W) : L2.Takes X (fun cls d σ H => HotCls hot X.mg cls ∧ W cls d σ H) := fun u s' h => tk u s' (.inr h)
theorem passAtH {hot : List Str} {X : Cx} {W : WX} (tk : TakesH hot X W) (σ : St) : PassesAt (CXh hot X.mg X.prog X.w) X σ (WE W σ) := fun _ _ _ e s' I c => tk e s' (by
  rcases c with c | c
  · exact .inl (L2N.XE.of_call I (fun _ _ _ h => h) c)
  · exact .inr (L2.XE.of_call I (fun _ _ _ h => h) c))
theorem takesH_of {hot : List Str} {X : Cx} {E : XK} (hs : X.stack = X.env :: X.outer) (hf : X.env.frame = some X.env.locals) (hex : X.ex = []) {E₁ : Value → Shared → Prop}
    (hx : X.xe = fun e s' => wpAny (model X.prog X.w) X.A (leaving X.env e) (fun _ s'' => CXh hot X.mg X.prog X.w X.outer X.H_0 X.s_0 E e s'') E₁ s') : TakesH hot X (fun cls d _ H => E cls d H) := fun u s' x => by
  rw [hx]
  rcases x with x | x
  · exact wpAny_mono (L2N.XE.leave (W := fun cls d _ H => E cls d H) (E := E) hs hf hex (fun _ _ _ _ h => h) x) (fun _ _ h => .inl h) fun _ _ h => h
  · exact wpAny_mono (L2.XE.leave (W := fun cls d _ H => HotCls hot X.mg cls ∧ E cls d H) (E := fun cls d H => HotCls hot X.mg cls ∧ E cls d H) hs hf hex (fun _ _ _ _ h => h) x) (fun _ _ h => .inr h) fun _ _ h => h
theorem cxh_weak {hot : List Str} {mg : Str → Option Value} {P : Program} {w : World} {outer : List Env} {H : Hp} {s : Shared} {E : XK} {u : Value} {s' : Shared} (h : CXh hot mg P w outer H s E u s') : L2.CX P w outer H s E u s' := by
  rcases h with ⟨a, B, H', cls, d, e, ⟨f1, f2, f3, oe, vs, T, oT, ts, he, hz, r⟩, r2⟩ | ⟨a, B, H', cls, d, e, fl, h1, h2, h3, h4, h5, hh, hE⟩
  · exact ⟨a, B, H', cls, d, e, ⟨f1, f2, f3, oe, vs, T, oT, ts, he, hz.zc, r⟩, r2⟩
  · exact ⟨a, B, H', cls, d, e, fl, h1, h2, h3, h4, h5, hE⟩
theorem fnok_weak {hot : List Str} {mg : Str → Option Value} {P : Program} {w : World} {K : PySem.W.Frag} {base : Heap} {k : Nat} {f : Addr} {fd : FuncData} {ps : List Str} {sp : Sp} (F : FnOk P w K mg base (CXh hot mg P w) k f fd ps sp) : FnOk P w K mg base (L2.CX P w) k f fd ps sp := by
  refine ⟨F.len, fun A outer s H args us vs Q E hr he hb hv hs => codeAny_mono (F.run A outer s H args us vs Q E hr he hb hv hs) fun r s' h => ?_⟩
  cases r with
  | error e => exact cxh_weak h
  | ok f => cases f <;> exact h
end D2

namespace D2
open PySem PySem.Spec PyProof.Rows L2

/-! ### readings over data -/
structure Ct where
  H0 : Hp
  S0 : Hp
  W : WX
  wd : World
def ExOk (K : PySem.W.Frag) (S H : Hp) : Ex → Option Addr → Prop
  | .plain _, d => d = none
  | .wth _ f x, d => ∃ a v, d = some a ∧ H a = some (.xd [(f, v)]) ∧ Dq K S v x
def Go {α β : Type} (K : PySem.W.Frag) (mg : Str → Option Value) (R : Hp → β → α → Prop) (S H : Hp) (r : Rs α) (Q : β → Hp → Prop) (E : XK) : Prop :=
  match r with
  | .ok a => ∀ S' H' b, Old H S S' H' → R S' b a → Q b H'
  | .er x => ∀ S' H' C d, Old H S S' H' → mg x.cls = some C → ExOk K S' H' x d → E C d H'
  | .no => False
section
variable {α β γ δ : Type} {K : PySem.W.Frag} {mg : Str → Option Value} {R : Hp → β → α → Prop} {R' : Hp → δ → γ → Prop} {S H S' H' : Hp} {r : Rs α} {Q Q2 : β → Hp → Prop} {E : XK}
theorem Go.step (g : Go K mg R S H r Q E) (o : Old H S S' H') : Go K mg R S' H' r Q E := by
  cases r with
  | ok a => exact fun S2 H2 b o2 rb => g S2 H2 b (o.trans o2) rb
  | er x => exact fun S2 H2 C d o2 m e => g S2 H2 C d (o.trans o2) m e
  | no => exact g
theorem Go.imp (g : Go K mg R S H r Q E) (h : ∀ b H', Q b H' → Q2 b H') : Go K mg R S H r Q2 E := by
  cases r with
  | ok a => exact fun S2 H2 b o2 rb => h _ _ (g S2 H2 b o2 rb)
  | er x => exact g
  | no => exact g
theorem Go.seq {k : α → Rs γ} {Q' : δ → Hp → Prop} (h : Go K mg R' S H (r.bind k) Q' E) (f : ∀ S1 H1 b a, Old H S S1 H1 → R S1 b a → Go K mg R' S1 H1 (k a) Q' E → Q b H1) : Go K mg R S H r Q E := by
  cases r with
  | ok a => exact fun S1 H1 b o rb => f S1 H1 b a o rb (Go.step (r := k a) h o)
  | er x => exact h
  | no => exact h
theorem Go.now (g : Go K mg R S H (.ok r') Q E) (h : Same S H) {b : β} (rb : R S b r') : Q b H := g S H b (.refl h) rb
end

abbrev RB1 : Hp → Bool → Bool → Prop := fun _ a b => a = b
def tE (K : PySem.W.Frag) (mg : Str → Option Value) (c : Ct) (f : En → Rs PyData) : TE := fun σ H Q => ∃ S ρ, Rep K c.wd c.H0 c.S0 S ρ σ H ∧ Go K mg (Dq K) S H (f ρ) Q (fun C d H' => c.W C d σ H')
def tT (K : PySem.W.Frag) (mg : Str → Option Value) (c : Ct) (f : En → Rs Bool) : TT := fun σ H Q => ∃ S ρ, Rep K c.wd c.H0 c.S0 S ρ σ H ∧ Go K mg RB1 S H (f ρ) Q (fun C d H' => c.W C d σ H')
def tA (K : PySem.W.Frag) (mg : Str → Option Value) (c : Ct) (f : En → Rs (List PyData)) : TA := fun σ H Q => ∃ S ρ, Rep K c.wd c.H0 c.S0 S ρ σ H ∧ Go K mg (DqAll K) S H (f ρ) Q (fun C d H' => c.W C d σ H')
abbrev RPo : Hp → Option Int → Option Int → Prop := fun _ a b => a = b
def tP (K : PySem.W.Frag) (mg : Str → Option Value) (c : Ct) (f : En → Rs (Option Int)) : TO := fun σ H Q => ∃ S ρ, Rep K c.wd c.H0 c.S0 S ρ σ H ∧ Go K mg RPo S H (f ρ) Q (fun C d H' => c.W C d σ H')

abbrev DE (X : Cx) (c : Ct) (e : Expr) (f : En → Rs PyData) : Prop := PE X e (tE X.K X.mg c f)
abbrev DT (X : Cx) (c : Ct) (e : Expr) (f : En → Rs Bool) : Prop := PT X e (tT X.K X.mg c f)
abbrev DW (X : Cx) (c : Ct) (e : Expr) (f : En → Rs Bool) : Prop := PW X e (tT X.K X.mg c f)
abbrev DA (X : Cx) (c : Ct) (es : List Expr) (f : En → Rs (List PyData)) : Prop := PA X es (tA X.K X.mg c f)
abbrev DP (X : Cx) (c : Ct) (e : Option Expr) (f : En → Rs (Option Int)) : Prop := PO X e (tP X.K X.mg c f)
section
variable {X : Cx} {c : Ct}
theorem pe_imp {e : Expr} {t t' : TE} (h : PE X e t) (i : ∀ σ H Q, t' σ H Q → t σ H Q) : PE X e t' := ⟨fun pins s σ H Q I q => h.run pins s σ H Q I (i _ _ _ q)⟩
theorem pt_imp {e : Expr} {t t' : TT} (h : PT X e t) (i : ∀ σ H Q, t' σ H Q → t σ H Q) : PT X e t' := ⟨fun pins s σ H Q I q => h.run pins s σ H Q I (i _ _ _ q)⟩
theorem pw_imp {e : Expr} {t t' : TT} (h : PW X e t) (i : ∀ σ H Q, t' σ H Q → t σ H Q) : PW X e t' := ⟨fun wh pins s σ H Q I q => h.run wh pins s σ H Q I (i _ _ _ q)⟩
theorem pa_imp {e : List Expr} {t t' : TA} (h : PA X e t) (i : ∀ σ H Q, t' σ H Q → t σ H Q) : PA X e t' := ⟨fun pos pins s σ H Q I q => h.run pos pins s σ H Q I (i _ _ _ q)⟩
theorem ps_imp {e : Stmt} {t t' : TS} (h : PS X e t) (i : ∀ D σ H, t' D σ H → t D σ H) : PS X e t' := ⟨fun pins s σ H D I q => h.run pins s σ H D I (i _ _ _ q)⟩
theorem pss_imp {e : List Stmt} {t t' : TS} (h : PSs X e t) (i : ∀ D σ H, t' D σ H → t D σ H) : PSs X e t' := ⟨fun pins s σ H D I q => h.run pins s σ H D I (i _ _ _ q)⟩
end

/-! ### the functions of the expressions -/
def eVar (i : Nat) : En → Rs PyData := fun ρ => match ρ[i]? with
  | some (some (.d x)) => .ok x
  | _ => .no
def eC (d : PyData) : En → Rs PyData := fun _ => .ok d
def eBin (op : PyData → PyData → Option PyData) (f g : En → Rs PyData) : En → Rs PyData := fun ρ => (f ρ).bind fun x => (g ρ).bind fun y => ofO (op x y)
def eUn (op : PyData → Option PyData) (f : En → Rs PyData) : En → Rs PyData := fun ρ => (f ρ).bind fun x => ofO (op x)
def aNil : En → Rs (List PyData) := fun _ => .ok []
def aCons (f : En → Rs PyData) (g : En → Rs (List PyData)) : En → Rs (List PyData) := fun ρ => (f ρ).bind fun x => (g ρ).bind fun xs => .ok (x :: xs)
def eTup (f : En → Rs (List PyData)) : En → Rs PyData := fun ρ => (f ρ).bind fun xs => if xs.length ≤ 16777216 then .ok (.tuple xs) else .no
def eLst (f : En → Rs (List PyData)) : En → Rs PyData := fun ρ => (f ρ).bind fun xs => if xs.length ≤ 16777216 then .ok (.list xs) else .no
def asB : PyData → Rs Bool
  | .bool b => .ok b
  | _ => .no
def truth : PyData → Option Bool
  | .none => some false
  | .bool b => some b
  | .int i => some (i != 0)
  | .str y => if y.length ≤ 16777216 then some ((y.length : Int) != 0) else none
  | .list xs => some (!xs.isEmpty)
  | .tuple xs => some (!xs.isEmpty)
  | .dict [(.none, .list xs)] => some (!xs.isEmpty)
  | .dict _ => none
def bOf (f : En → Rs PyData) : En → Rs Bool := fun ρ => (f ρ).bind asB
def bTruth (f : En → Rs PyData) : En → Rs Bool := fun ρ => (f ρ).bind fun x => ofO (truth x)
def bNot (f : En → Rs Bool) : En → Rs Bool := fun ρ => (f ρ).bind fun b => .ok (!b)
def bAnd (f g : En → Rs Bool) : En → Rs Bool := fun ρ => (f ρ).bind fun b => if b = true then g ρ else .ok false
def bOr (f g : En → Rs Bool) : En → Rs Bool := fun ρ => (f ρ).bind fun b => if b = true then .ok true else g ρ
def eAnd (f g : En → Rs PyData) : En → Rs PyData := fun ρ => (f ρ).bind fun x => (asB x).bind fun b => if b = true then g ρ else .ok (.bool false)
def eOr (f g : En → Rs PyData) : En → Rs PyData := fun ρ => (f ρ).bind fun x => (asB x).bind fun b => if b = true then .ok (.bool true) else g ρ
def eNot (f : En → Rs PyData) : En → Rs PyData := fun ρ => (f ρ).bind fun x => (asB x).bind fun b => .ok (.bool (!b))
def eIf (t : En → Rs Bool) (f g : En → Rs PyData) : En → Rs PyData := fun ρ => (t ρ).bind fun b => if b = true then f ρ else g ρ
def eChain (op op' : PyData → PyData → Option PyData) (f g h : En → Rs PyData) : En → Rs PyData := fun ρ => (f ρ).bind fun x => (g ρ).bind fun y => (ofO (op x y)).bind fun z => (asB z).bind fun b => if b = true then (h ρ).bind fun w => ofO (op' y w) else .ok (.bool false)
def eCall (f : En → Rs (List PyData)) (g : List PyData → Rs PyData) : En → Rs PyData := fun ρ => (f ρ).bind g
def pNone : En → Rs (Option Int) := fun _ => .ok none
def asI : PyData → Rs Int
  | .int i => .ok i
  | _ => .no
def pSome (f : En → Rs PyData) : En → Rs (Option Int) := fun ρ => (f ρ).bind fun x => (asI x).bind fun i => .ok (some i)
def eSl (op : PyData → Option Int → Option Int → Option PyData) (f : En → Rs PyData) (l h : En → Rs (Option Int)) : En → Rs PyData := fun ρ => (f ρ).bind fun x => (l ρ).bind fun a => (h ρ).bind fun b => ofO (op x a b)

/-! ### their rules -/
def OpS (K : PySem.W.Frag) (r : R2) (op : PyData → PyData → Option PyData) : Prop :=
  ∀ S H x y dx dy (Q : VK), Same S H → Dq K S x dx → Dq K S y dy → (∀ d, op dx dy = some d → (∀ S' H' v, Old H S S' H' → Dq K S' v d → Q v H') → r x y H Q)
def UnS (K : PySem.W.Frag) (r : V → Hp → VK → Prop) (op : PyData → Option PyData) : Prop :=
  ∀ S H x dx (Q : VK), Same S H → Dq K S x dx → (∀ d, op dx = some d → (∀ S' H' v, Old H S S' H' → Dq K S' v d → Q v H') → r x H Q)
def CallS (K : PySem.W.Frag) (r : List V → Hp → VK → Prop) (g : List PyData → Option PyData) : Prop :=
  ∀ S H vs ds (Q : VK), Same S H → DqAll K S vs ds → (∀ d, g ds = some d → (∀ S' H' v, Old H S S' H' → Dq K S' v d → Q v H') → r vs H Q)
def SlS (K : PySem.W.Frag) (r : V → Option Int → Option Int → Hp → VK → Prop) (op : PyData → Option Int → Option Int → Option PyData) : Prop :=
  ∀ S H x dx lo hi (Q : VK), Same S H → Dq K S x dx → (∀ d, op dx lo hi = some d → (∀ S' H' v, Old H S S' H' → Dq K S' v d → Q v H') → r x lo hi H Q)
section
variable {X : Cx} {c : Ct} {a b e : Expr} {es : List Expr} {rest : List Expr} {pos : Pos} {f g h : En → Rs PyData} {fa : En → Rs (List PyData)} {ft gt : En → Rs Bool}

theorem de_var (i : Nat) {x : Str} (hN : X.N[i]? = some x := by rfl) (hv : Vis X.env.scope x := by first | exact Or.inl rfl | exact Or.inr (Or.inl rfl) | exact Or.inr (Or.inr rfl)) (hd : (x == ("__debug__" : Str)) = false := by decide)
    (hcd : (x == ("__classdict__" : Str)) = false := by decide) : DE X c (.Name x pos) (eVar i) := by
  refine pe_imp (pe_var hN hv hd hcd) fun σ H Q ⟨S, ρ, r, q⟩ => ?_
  unfold eVar at q
  cases e : ρ[i]? with
  | none => rw [e] at q; exact q.elim
  | some o =>
    rw [e] at q
    cases o with
    | none => exact q.elim
    | some b =>
      cases b with
      | d x =>
        obtain ⟨v, e1, h1⟩ := r.data e
        exact ⟨v, e1, Go.now q r.sub h1⟩
      | _ => exact q.elim
theorem de_c {v : V} {d : PyData} (he : PE X e (tC v)) (hd : ∀ S, Dq X.K S v d) : DE X c e (eC d) :=
  pe_imp he fun σ H Q ⟨S, ρ, r, q⟩ => Go.now q r.sub (hd S)
theorem de_int {i : Int} {j} : DE X c (.Constant (.int i) j pos) (eC (.int i)) := de_c pe_int fun _ => .int i
theorem de_bl {i : Bool} {j} : DE X c (.Constant (.bool i) j pos) (eC (.bool i)) := de_c pe_bl fun _ => .bl i
theorem de_non {j} : DE X c (.Constant .none j pos) (eC .none) := de_c pe_non fun _ => .non
theorem de_str {x : Str} {j} : DE X c (.Constant (.str x) j pos) (eC (.str x)) := de_c pe_str fun _ => .str x
theorem de_globI {x : Str} {i : Int} {u : Value} (hg : Gl X x) (hm : X.mg x = some u) (r : RelV (.int i) u) (hd : (x == ("__debug__" : Str)) = false := by decide) : DE X c (.Name x pos) (eC (.int i)) := de_c (pe_glob hg hm r hd) fun _ => .int i
theorem de_globS {x y : Str} {u : Value} (hg : Gl X x) (hm : X.mg x = some u) (r : RelV (.str y) u) (hd : (x == ("__debug__" : Str)) = false := by decide) : DE X c (.Name x pos) (eC (.str y)) := de_c (pe_glob hg hm r hd) fun _ => .str y
/-- the op of two data, given as the reading wants -/
theorem go_op {K : PySem.W.Frag} {mg : Str → Option Value} {S H : Hp} {o : Option PyData} {Q : VK} {E : XK} (q : Go K mg (Dq K) S H (ofO o) Q E) : ∃ d, o = some d ∧ ∀ S' H' v, Old H S S' H' → Dq K S' v d → Q v H' := by
  cases o with
  | none => exact q.elim
  | some d => exact ⟨d, rfl, q⟩
theorem tOp_of {r : R2} {op : PyData → PyData → Option PyData} (hs : OpS X.K r op) {σ : St} {H : Hp} {Q : VK} (h : tE X.K X.mg c (eBin op f g) σ H Q) : tOp r (tE X.K X.mg c f) (tE X.K X.mg c g) σ H Q := by
  obtain ⟨S, ρ, rp, q⟩ := h
  refine ⟨S, ρ, rp, Go.seq q fun S1 H1 x dx o1 hx q1 => ?_⟩
  refine ⟨S1, ρ, rp.step o1, Go.seq q1 fun S2 H2 y dy o2 hy q2 => ?_⟩
  obtain ⟨d, e, q3⟩ := go_op q2
  exact hs S2 H2 x y dx dy Q o2.sub (dp_mono o2.s0 _ _ hx) hy d e q3
theorem de_op {o : Operator} {r : R2} {op : PyData → PyData → Option PyData} (ho : OpR X (binaryOp o) r) (hs : OpS X.K r op) (ha : DE X c a f) (hb : DE X c b g) : DE X c (.BinOp a o b pos) (eBin op f g) :=
  pe_imp (pe_op ho ha hb) fun _ _ _ h => tOp_of hs h
theorem de_un {o : UnaryOp} {r : V → Hp → VK → Prop} {op : PyData → Option PyData} (ho : UnR X (unaryOp o) r) (hs : UnS X.K r op) (ha : DE X c a f) : DE X c (.UnaryOp o a pos) (eUn op f) := by
  refine pe_imp (pe_un ho ha) fun σ H Q ⟨S, ρ, rp, q⟩ => ?_
  refine ⟨S, ρ, rp, Go.seq q fun S1 H1 x dx o1 hx q1 => ?_⟩
  obtain ⟨d, e, q3⟩ := go_op q1
  exact hs S1 H1 x dx Q o1.sub hx d e q3
theorem de_cmp {o : CmpOp} {r : R2} {op : PyData → PyData → Option PyData} (ho : OpR X (compareOp o) r) (hs : OpS X.K r op) (ha : DE X c a f) (hb : DE X c b g) (hm : behindInMarks o b = false := by first | rfl | exact nomark _) :
    DE X c (.Compare a [o] [b] pos) (eBin op f g) := pe_imp (pe_cmpR ho ha hb hm) fun _ _ _ h => tOp_of hs h
theorem de_ix {r : R2} {op : PyData → PyData → Option PyData} (ho : IxR X r) (hs : OpS X.K r op) (ha : DE X c a f) (hb : DE X c b g) (hp : PlainIx b := by exact fun _ _ => rfl) : DE X c (.Subscript a b pos) (eBin op f g) :=
  pe_imp (pe_ix ho ha hb hp) fun _ _ _ h => tOp_of hs h
/-- an answer that is True or False, as a test -/
theorem tTest_of {t : TE} {σ : St} {H : Hp} {Q : Bool → Hp → Prop} (hi : ∀ Q, tE X.K X.mg c f σ H Q → t σ H Q) (h : tT X.K X.mg c (bOf f) σ H Q) : tTest t σ H Q := by
  obtain ⟨S, ρ, rp, q⟩ := h
  refine hi _ ⟨S, ρ, rp, Go.seq q fun S1 H1 x dx o1 hx q1 => ?_⟩
  cases dx with
  | bool b => cases hx; exact ⟨b, rfl, Go.now q1 o1.sub rfl⟩
  | _ => exact (show False from q1).elim
theorem dt_cmp {o : CmpOp} {r : R2} {op : PyData → PyData → Option PyData} (ho : OpR X (compareOp o) r) (hs : OpS X.K r op) (ha : DE X c a f) (hb : DE X c b g) (hm : behindInMarks o b = false := by first | rfl | exact nomark _) :
    DT X c (.Compare a [o] [b] pos) (bOf (eBin op f g)) := pt_imp (pt_cmpR ho ha hb hm) fun _ _ _ h => tTest_of (fun _ q => tOp_of hs q) h
theorem tChain_of {r r' : R2} {op op' : PyData → PyData → Option PyData} (hs : OpS X.K r op) (hs' : OpS X.K r' op') {σ : St} {H : Hp} {Q : VK} (q : tE X.K X.mg c (eChain op op' f g h) σ H Q) :
    tChain r r' (tE X.K X.mg c f) (tE X.K X.mg c g) (tE X.K X.mg c h) σ H Q := by
  obtain ⟨S, ρ, rp, q⟩ := q
  refine ⟨S, ρ, rp, Go.seq q fun S1 H1 x dx o1 hx q1 => ?_⟩
  refine ⟨S1, ρ, rp.step o1, Go.seq q1 fun S2 H2 y dy o2 hy q2 => ?_⟩
  cases e : op dx dy with
  | none => rw [e] at q2; exact q2.elim
  | some d =>
    rw [e] at q2
    refine hs S2 H2 x y dx dy _ o2.sub (dp_mono o2.s0 _ _ hx) hy d e fun S3 H3 v o3 hv => ?_
    cases d with
    | bool b =>
      cases hv
      refine ⟨b, rfl, ?_⟩
      have q3 := Go.step q2 o3
      cases b with
      | true =>
        rw [if_pos rfl]
        refine ⟨S3, ρ, ((rp.step o1).step o2).step o3, Go.seq (r := h ρ) (k := fun w => ofO (op' dy w)) q3 fun S4 H4 w dw o4 hw q4 => ?_⟩
        obtain ⟨d', e', q5⟩ := go_op q4
        exact hs' S4 H4 y w dy dw Q o4.sub (dp_mono (o3.s0.trans o4.s0) _ _ hy) hw d' e' q5
      | false =>
        rw [if_neg Bool.false_ne_true]
        exact Go.now (r' := PyData.bool false) q3 o3.sub (.bl false)
    | _ => exact (show False from q2).elim
theorem de_chain {cc : Expr} {o o' : CmpOp} {r r' : R2} {op op' : PyData → PyData → Option PyData} (ho : OpR X (compareOp o) r) (ho' : OpR X (compareOp o') r') (hs : OpS X.K r op) (hs' : OpS X.K r' op') (ha : DE X c a f) (hb : DE X c b g) (hc : DE X c cc h)
    (hm : lastMarks [o, o'] [b, cc] = false := by with_unfolding_all rfl) : DE X c (.Compare a [o, o'] [b, cc] pos) (eChain op op' f g h) := pe_imp (pe_chain ho ho' ha hb hc hm) fun _ _ _ q => tChain_of hs hs' q
theorem dt_chain {cc : Expr} {o o' : CmpOp} {r r' : R2} {op op' : PyData → PyData → Option PyData} (ho : OpR X (compareOp o) r) (ho' : OpR X (compareOp o') r') (hs : OpS X.K r op) (hs' : OpS X.K r' op') (ha : DE X c a f) (hb : DE X c b g) (hc : DE X c cc h)
    (hm : lastMarks [o, o'] [b, cc] = false := by with_unfolding_all rfl) : DT X c (.Compare a [o, o'] [b, cc] pos) (bOf (eChain op op' f g h)) := pt_imp (pt_chain ho ho' ha hb hc hm) fun _ _ _ q => tTest_of (fun _ q => tChain_of hs hs' q) q
theorem tru_of {K : PySem.W.Frag} {S H : Hp} {x : V} {d : PyData} {b : Bool} (hS : Same S H) (h : Dq K S x d) (e : truth d = some b) : TruV K x H b := by
  cases h with
  | non => cases e; rfl
  | bl k => cases e; rfl
  | int i => cases e; rfl
  | str y =>
    by_cases hl : y.length ≤ 16777216
    · simp only [truth, if_pos hl, Option.some.injEq] at e
      exact ⟨by rw [sizeLine_eq]; exact hl, e.symm⟩
    · simp only [truth, if_neg hl] at e
      cases e
  | lst h1 h2 =>
    cases e
    have hl := DqAll.length h2
    exact .inl ⟨_, .inl (rd_mono hS h1), by cases h2 <;> rfl⟩
  | tup h1 h2 =>
    cases e
    exact .inr (.inl ⟨_, sqT_mono hS h1, by cases h2 <;> rfl⟩)
  | scr h1 h2 =>
    cases e
    exact .inl ⟨_, hS.seq h1, by cases h2 <;> rfl⟩
  | dct h1 h2 h3 =>
    exfalso
    unfold truth at e
    split at e <;> first | (rename_i z; cases z; done) | skip
    all_goals first | (rename_i z; cases z; exact dct_ne h3) | cases e
theorem dt_truth (ha : DE X c a f) (he : ∀ whole, isTrue a X.env whole = (do let v ← whole; standAt a.pos; holding [v] (truthy v)) := by intro _; rfl) : DT X c a (bTruth f) := by
  refine pt_imp (pt_truth ha he) fun σ H Q ⟨S, ρ, rp, q⟩ => ?_
  refine ⟨S, ρ, rp, Go.seq q fun S1 H1 x dx o1 hx q1 => ?_⟩
  cases e : truth dx with
  | none => rw [e] at q1; exact q1.elim
  | some b => rw [e] at q1; exact ⟨b, tru_of o1.sub hx e, Go.now q1 o1.sub rfl⟩
theorem dt_not (ha : DT X c a ft) : DT X c (.UnaryOp .Not a pos) (bNot ft) := by
  refine pt_imp (pt_not ha) fun σ H Q ⟨S, ρ, rp, q⟩ => ?_
  exact ⟨S, ρ, rp, Go.seq q fun S1 H1 x dx o1 hx q1 => by cases hx; exact Go.now q1 o1.sub rfl⟩
theorem dw_and1 (ha : DT X c a ft) : DW X c (.BoolOp .And [a] pos) ft := pw_and1 ha
theorem dw_or1 (ha : DT X c a ft) : DW X c (.BoolOp .Or [a] pos) ft := pw_or1 ha
theorem dw_and (ha : DT X c a ft) (hb : DW X c (.BoolOp .And (b :: rest) pos) gt) : DW X c (.BoolOp .And (a :: b :: rest) pos) (bAnd ft gt) := by
  refine pw_imp (pw_and ha hb) fun σ H Q ⟨S, ρ, rp, q⟩ => ?_
  refine ⟨S, ρ, rp, Go.seq q fun S1 H1 x dx o1 hx q1 => ?_⟩
  cases hx
  cases x with
  | true => exact iteT ⟨S1, ρ, rp.step o1, q1⟩
  | false => exact iteF (Go.now (r' := false) q1 o1.sub rfl)
theorem dw_or (ha : DT X c a ft) (hb : DW X c (.BoolOp .Or (b :: rest) pos) gt) : DW X c (.BoolOp .Or (a :: b :: rest) pos) (bOr ft gt) := by
  refine pw_imp (pw_or ha hb) fun σ H Q ⟨S, ρ, rp, q⟩ => ?_
  refine ⟨S, ρ, rp, Go.seq q fun S1 H1 x dx o1 hx q1 => ?_⟩
  cases hx
  cases x with
  | true => exact iteT (Go.now (r' := true) q1 o1.sub rfl)
  | false => exact iteF ⟨S1, ρ, rp.step o1, q1⟩
theorem dt_w (h : DW X c a ft) : DT X c a ft := h.pt
theorem de_one {op} (ha : DE X c a f) : DE X c (.BoolOp op [a] pos) f := pe_one ha
theorem de_and (ha : DE X c a f) (hb : DE X c (.BoolOp .And (b :: rest) pos) g) : DE X c (.BoolOp .And (a :: b :: rest) pos) (eAnd f g) := by
  refine pe_imp (pe_and ha hb) fun σ H Q ⟨S, ρ, rp, q⟩ => ?_
  refine ⟨S, ρ, rp, Go.seq q fun S1 H1 x dx o1 hx q1 => ?_⟩
  cases dx with
  | bool k =>
    cases hx
    refine ⟨k, rfl, ?_⟩
    cases k with
    | true => exact iteT ⟨S1, ρ, rp.step o1, q1⟩
    | false => exact iteF (Go.now (r' := PyData.bool false) q1 o1.sub (.bl false))
  | _ => exact (show False from q1).elim
theorem de_or (ha : DE X c a f) (hb : DE X c (.BoolOp .Or (b :: rest) pos) g) : DE X c (.BoolOp .Or (a :: b :: rest) pos) (eOr f g) := by
  refine pe_imp (pe_or ha hb) fun σ H Q ⟨S, ρ, rp, q⟩ => ?_
  refine ⟨S, ρ, rp, Go.seq q fun S1 H1 x dx o1 hx q1 => ?_⟩
  cases dx with
  | bool k =>
    cases hx
    refine ⟨k, rfl, ?_⟩
    cases k with
    | true => exact iteT (Go.now (r' := PyData.bool true) q1 o1.sub (.bl true))
    | false => exact iteF ⟨S1, ρ, rp.step o1, q1⟩
  | _ => exact (show False from q1).elim
theorem de_not (ha : DE X c a f) : DE X c (.UnaryOp .Not a pos) (eNot f) := by
  refine pe_imp (pe_not ha) fun σ H Q ⟨S, ρ, rp, q⟩ => ?_
  refine ⟨S, ρ, rp, Go.seq q fun S1 H1 x dx o1 hx q1 => ?_⟩
  cases dx with
  | bool k => cases hx; exact ⟨k, rfl, Go.now (r' := PyData.bool (!k)) q1 o1.sub (.bl _)⟩
  | _ => exact (show False from q1).elim
theorem de_if {t : Expr} (ht : DT X c t ft) (ha : DE X c a f) (hb : DE X c b g) : DE X c (.IfExp t a b pos) (eIf ft f g) := by
  refine pe_imp (pe_ifExp ht ha hb) fun σ H Q ⟨S, ρ, rp, q⟩ => ?_
  refine ⟨S, ρ, rp, Go.seq q fun S1 H1 x dx o1 hx q1 => ?_⟩
  cases hx
  cases x with
  | true => exact iteT ⟨S1, ρ, rp.step o1, q1⟩
  | false => exact iteF ⟨S1, ρ, rp.step o1, q1⟩
theorem da_nil : DA X c [] aNil := pa_imp pa_nil fun σ H Q ⟨S, ρ, r, q⟩ => Go.now q r.sub .nil
theorem da_cons (ha : DE X c e f) (hr : DA X c es fa) (hs : starEach (e :: es) X.env = (false, eval e X.env) :: starEach es X.env := by rfl) : DA X c (e :: es) (aCons f fa) := by
  refine pa_imp (pa_cons ha hr hs) fun σ H Q ⟨S, ρ, rp, q⟩ => ?_
  refine ⟨S, ρ, rp, Go.seq q fun S1 H1 x dx o1 hx q1 => ?_⟩
  refine ⟨S1, ρ, rp.step o1, Go.seq q1 fun S2 H2 ys dys o2 hys q2 => ?_⟩
  exact Go.now q2 o2.sub (.cons (dp_mono o2.s0 _ _ hx) hys)
theorem de_tup {x1} (ha : DA X c es fa) : DE X c (.Tuple es x1 pos) (eTup fa) := by
  refine pe_imp (pe_tup ha) fun σ H Q ⟨S, ρ, rp, q⟩ => ?_
  refine ⟨S, ρ, rp, Go.seq q fun S1 H1 xs dxs o1 hx q1 => ?_⟩
  split at q1
  · rename_i hl
    exact ⟨by rw [DqAll.length hx, sizeLine_eq]; exact hl, fun p hp => q1 _ _ _ (.new o1.sub hp) (.tup (.of upd_same) (dps_mono (same_upd (o1.sub.free hp)) _ _ hx))⟩
  · exact q1.elim
theorem de_lst (ha : DA X c es fa) : DE X c (.List es pos) (eLst fa) := by
  refine pe_imp (pe_lst ha) fun σ H Q ⟨S, ρ, rp, q⟩ => ?_
  refine ⟨S, ρ, rp, Go.seq q fun S1 H1 xs dxs o1 hx q1 => ?_⟩
  split at q1
  · rename_i hl
    exact ⟨by rw [DqAll.length hx, sizeLine_eq]; exact hl, fun p hp => q1 _ _ _ (.new o1.sub hp) (.lst (.of upd_same) (dps_mono (same_upd (o1.sub.free hp)) _ _ hx))⟩
  · exact q1.elim
/-! ### calls -/
theorem tCB_of {r : List V → Hp → VK → Prop} {g : List PyData → Option PyData} (hs : CallS X.K r g) {σ : St} {H : Hp} {Q : VK} (q : tE X.K X.mg c (eCall fa fun ds => ofO (g ds)) σ H Q) : tCB r (tA X.K X.mg c fa) σ H Q := by
  obtain ⟨S, ρ, rp, q⟩ := q
  refine ⟨S, ρ, rp, Go.seq q fun S1 H1 xs dxs o1 hx q1 => ?_⟩
  obtain ⟨d, e, q3⟩ := go_op q1
  exact hs S1 H1 xs dxs Q o1.sub hx d e q3
theorem de_callB {x : Str} {p : Pos} {id : String} {r : List V → Hp → VK → Prop} {g : List PyData → Option PyData} (hc : CallR X (.builtin id) r) (hs : CallS X.K r g) (hg : Gl X x) (hm : X.mg x = none) (hv : bootBuiltins x = some (.builtin id)) (ha : DA X c (e :: es) fa) (hn : x ≠ "__name__" := by decide)
    (hdb : (x == ("__debug__" : Str)) = false := by decide) (he : starEach (e :: es) X.env = (false, eval e X.env) :: starEach es X.env := by rfl) (hpl : (backTo pos (starEach es X.env)).any (·.1) = false := by rfl) :
    DE X c (.Call (.Name x p) (e :: es) [] pos) (eCall fa fun ds => ofO (g ds)) := pe_imp (pe_callB hc hg hm hv ha hn hdb he hpl) fun _ _ _ q => tCB_of hs q
theorem de_callTy {x : Str} {p : Pos} {id : String} {r : List V → Hp → VK → Prop} {g : List PyData → Option PyData} (hc : CallR X (.type id) r) (hs : CallS X.K r g) (hg : Gl X x) (hm : X.mg x = none) (hv : bootBuiltins x = some (.type id)) (ha : DA X c (e :: es) fa) (hn : x ≠ "__name__" := by decide)
    (hdb : (x == ("__debug__" : Str)) = false := by decide) (he : starEach (e :: es) X.env = (false, eval e X.env) :: starEach es X.env := by rfl) (hpl : (backTo pos (starEach es X.env)).any (·.1) = false := by rfl) :
    DE X c (.Call (.Name x p) (e :: es) [] pos) (eCall fa fun ds => ofO (g ds)) := pe_imp (pe_callTy hc hg hm hv ha hn hdb he hpl) fun _ _ _ q => tCB_of hs q
/-- a def's promise over data -/
def spD (K : PySem.W.Frag) (mg : Str → Option Value) (g : List PyData → Rs PyData) : Sp := fun vs H Q E => ∃ S ds, Same S H ∧ DqAll K S vs ds ∧ Go K mg (Dq K) S H (g ds) Q E
theorem de_call {x : Str} {p : Pos} {k : Nat} {fn : Addr} {fd : FuncData} {ps : List Str} {g : List PyData → Rs PyData} {hot : List Str} (F : FnOk X.prog X.w X.K X.mg X.base (CXh hot X.mg X.prog X.w) k fn fd ps (spD X.K X.mg g)) (hr : Room k X.A) (hg : Gl X x) (hm : X.mg x = some (.ref fn)) (hk : PySem.W.keepIn X.K (.ref fn) = true) (hb : Binds X.K fd ps []) (tk : TakesH hot X c.W)
    (ha : DA X c (e :: es) fa) (hdb : (x == ("__debug__" : Str)) = false := by decide) (he : starEach (e :: es) X.env = (false, eval e X.env) :: starEach es X.env := by rfl) (hpl : (backTo pos (starEach es X.env)).any (·.1) = false := by rfl) :
    DE X c (.Call (.Name x p) (e :: es) [] pos) (eCall fa g) := by
  refine pe_imp (pe_callS (E := WE c.W) F hr hg hm hk hb (fun σ => passAtH tk σ) ha hdb he hpl) fun σ H Q ⟨S, ρ, rp, q⟩ => ?_
  exact ⟨S, ρ, rp, Go.seq q fun S1 H1 xs dxs o1 hx q1 => ⟨S1, dxs, o1.sub, hx, q1⟩⟩
/-! ### slices -/
theorem dp_none : DP X c none pNone := ⟨fun pins s σ H Q I ⟨S, ρ, r, q⟩ => po_none.run pins s σ H Q I (Go.now q r.sub rfl)⟩
theorem dp_some (ha : DE X c a f) : DP X c (some a) (pSome f) := ⟨fun pins s σ H Q I ⟨S, ρ, rp, q⟩ => (po_some ha).run pins s σ H Q I (by
  refine ⟨S, ρ, rp, Go.seq q fun S1 H1 x dx o1 hx q1 => ?_⟩
  cases dx with
  | int i => cases hx; exact ⟨i, rfl, Go.now q1 o1.sub rfl⟩
  | _ => exact (show False from q1).elim)⟩
theorem de_slice {lo hi : Option Expr} {p2 : Pos} {r : V → Option Int → Option Int → Hp → VK → Prop} {op : PyData → Option Int → Option Int → Option PyData} {fl fh : En → Rs (Option Int)} (hr : SlR X r) (hs : SlS X.K r op) (ha : DE X c a f) (hl : DP X c lo fl) (hh : DP X c hi fh) :
    DE X c (.Subscript a (.Slice lo hi none p2) pos) (eSl op f fl fh) := by
  refine pe_imp (pe_slice hr ha hl hh) fun σ H Q ⟨S, ρ, rp, q⟩ => ?_
  refine ⟨S, ρ, rp, Go.seq q fun S1 H1 x dx o1 hx q1 => ?_⟩
  refine ⟨S1, ρ, rp.step o1, Go.seq q1 fun S2 H2 l l' o2 el q2 => ?_⟩
  cases el
  refine ⟨S2, ρ, (rp.step o1).step o2, Go.seq q2 fun S3 H3 u u' o3 eu q3 => ?_⟩
  cases eu
  obtain ⟨d, e, q4⟩ := go_op q3
  exact hs S3 H3 x dx l u Q o3.sub (dp_mono (o2.s0.trans o3.s0) _ _ hx) d e q4
end
end D2

namespace D2
open PySem PySem.Spec PyProof.Rows L2

/-! ### statements over data -/
inductive Out where
  | nx (ρ : En) | rt (d : PyData) | bk (ρ : En) | ct (ρ : En) | er (x : Ex) (ρ : En) | no
def Post (K : PySem.W.Frag) (mg : Str → Option Value) (c : Ct) (S : Hp) (D : Ends) : Out → Prop
  | .nx ρ => ∀ S' σ' H', Same S S' → Rep K c.wd c.H0 c.S0 S' ρ σ' H' → D.nx σ' H'
  | .bk ρ => ∀ S' σ' H', Same S S' → Rep K c.wd c.H0 c.S0 S' ρ σ' H' → D.bk σ' H'
  | .ct ρ => ∀ S' σ' H', Same S S' → Rep K c.wd c.H0 c.S0 S' ρ σ' H' → D.ct σ' H'
  | .rt d => ∀ S' H' v, Old c.H0 c.S0 S' H' → Dq K S' v d → D.rt v H'
  | .er x ρ => ∀ S' σ' H' C d, Same S S' → Rep K c.wd c.H0 c.S0 S' ρ σ' H' → mg x.cls = some C → ExOk K S' H' x d → c.W C d σ' H'
  | .no => False
theorem Post.mono {K : PySem.W.Frag} {mg : Str → Option Value} {c : Ct} {S S' : Hp} {D : Ends} {o : Out} (p : Post K mg c S D o) (h : Same S S') : Post K mg c S' D o := by
  cases o with
  | nx ρ => exact fun S2 σ2 H2 s r => p S2 σ2 H2 (h.trans s) r
  | bk ρ => exact fun S2 σ2 H2 s r => p S2 σ2 H2 (h.trans s) r
  | ct ρ => exact fun S2 σ2 H2 s r => p S2 σ2 H2 (h.trans s) r
  | rt d => exact p
  | er x ρ => exact fun S2 σ2 H2 C d s r => p S2 σ2 H2 C d (h.trans s) r
  | no => exact p
def tS (K : PySem.W.Frag) (mg : Str → Option Value) (c : Ct) (F : En → Out) : TS := fun D σ H => ∃ S ρ, Rep K c.wd c.H0 c.S0 S ρ σ H ∧ Post K mg c S D (F ρ)
abbrev DS (X : Cx) (c : Ct) (s : Stmt) (F : En → Out) : Prop := PS X s (tS X.K X.mg c F)
abbrev DSs (X : Cx) (c : Ct) (s : List Stmt) (F : En → Out) : Prop := PSs X s (tS X.K X.mg c F)

def sNil : En → Out := .nx
def sSeq (F G : En → Out) : En → Out := fun ρ => match F ρ with
  | .nx ρ' => G ρ'
  | o => o
/-- from an expression's outcome -/
def andThen {α : Type} (r : Rs α) (ρ : En) (k : α → Out) : Out := match r with
  | .ok a => k a
  | .er x => .er x ρ
  | .no => .no
@[simp] theorem andThen_ok {α : Type} (a : α) (ρ : En) (k : α → Out) : andThen (.ok a) ρ k = k a := Eq.trans rfl rfl
@[simp] theorem andThen_er {α : Type} (x : Ex) (ρ : En) (k : α → Out) : andThen (.er x) ρ k = .er x ρ := Eq.trans rfl rfl
@[simp] theorem andThen_no {α : Type} (ρ : En) (k : α → Out) : andThen (.no) ρ k = .no := Eq.trans rfl rfl
def sDrop (f : En → Rs PyData) : En → Out := fun ρ => andThen (f ρ) ρ fun _ => .nx ρ
def sRet (f : En → Rs PyData) : En → Out := fun ρ => andThen (f ρ) ρ .rt
def sRetN : En → Out := fun _ => .rt .none
def sIf (t : En → Rs Bool) (F G : En → Out) : En → Out := fun ρ => andThen (t ρ) ρ fun b => if b = true then F ρ else G ρ
def sAsg (f : En → Rs PyData) (g : PyData → En → Option En) : En → Out := fun ρ => andThen (f ρ) ρ fun x => match g x ρ with
  | some ρ' => .nx ρ'
  | none => .no
def sSet (i : Nat) (f : En → Rs PyData) : En → Out := fun ρ => andThen (f ρ) ρ fun x => .nx (ρ.set i (some (.d x)))
def sRaise (x : Str) : En → Out := fun ρ => .er (.plain x) ρ
def sBreak : En → Out := .bk
def sCont : En → Out := .ct
def gNm (i : Nat) : PyData → En → Option En := fun x ρ => some (ρ.set i (some (.d x)))
def gsNil : List PyData → En → Option En
  | [], ρ => some ρ
  | _, _ => none
def gsCons (g : PyData → En → Option En) (gs : List PyData → En → Option En) : List PyData → En → Option En
  | x :: r, ρ => (g x ρ).bind (gs r)
  | [], _ => none
def gTp (n : Nat) (gs : List PyData → En → Option En) : PyData → En → Option En
  | .tuple xs, ρ => if xs.length = n then gs xs ρ else none
  | _, _ => none
def wLoop (t : En → Rs Bool) (b : En → Out) : Nat → En → Out
  | 0, _ => .no
  | n + 1, ρ => andThen (t ρ) ρ fun k => if k = true then (match b ρ with
      | .nx ρ' => wLoop t b n ρ'
      | .ct ρ' => wLoop t b n ρ'
      | .bk ρ' => .nx ρ'
      | .rt d => .rt d
      | .er x ρ' => .er x ρ'
      | .no => .no) else .nx ρ
def sWhile (fuel : En → Nat) (t : En → Rs Bool) (b : En → Out) : En → Out := fun ρ => wLoop t b (fuel ρ) ρ
def fLoop (g : PyData → En → Option En) (b : En → Out) : List PyData → En → Out
  | [], ρ => .nx ρ
  | x :: xs, ρ => match g x ρ with
    | some ρ1 => (match b ρ1 with
      | .nx ρ' => fLoop g b xs ρ'
      | .ct ρ' => fLoop g b xs ρ'
      | .bk ρ' => .nx ρ'
      | .rt d => .rt d
      | .er x ρ' => .er x ρ'
      | .no => .no)
    | none => .no
def sFor (s : En → Rs (List PyData)) (g : PyData → En → Option En) (b : En → Out) : En → Out := fun ρ => andThen (s ρ) ρ fun xs => fLoop g b xs ρ

section
variable {X : Cx} {c : Ct} {st : Stmt} {rest body orelse : List Stmt} {pos : Pos} {e : Expr} {F G : En → Out} {f : En → Rs PyData} {t : En → Rs Bool}
theorem dss_nil : DSs X c [] sNil := pss_imp pss_nil fun D σ H ⟨S, ρ, r, p⟩ => p S σ H (.refl _) r
theorem dss_one (h : DS X c st F) : DSs X c [st] F := pss_one h
theorem dss_cons (h1 : DS X c st F) (h2 : DSs X c rest G) : DSs X c (st :: rest) (sSeq F G) := by
  refine pss_imp (pss_cons h1 h2) fun D σ H ⟨S, ρ, r, p⟩ => ⟨S, ρ, r, ?_⟩
  unfold sSeq at p
  cases e : F ρ with
  | nx ρ' => rw [e] at p; exact fun S' σ' H' s r' => ⟨S', ρ', r', Post.mono p s⟩
  | bk ρ' => rw [e] at p; exact p
  | ct ρ' => rw [e] at p; exact p
  | rt d => rw [e] at p; exact p
  | er x ρ' => rw [e] at p; exact p
  | no => rw [e] at p; exact p
/-- an expression, then what its data bring -/
theorem go_then {α β : Type} {K : PySem.W.Frag} {mg : Str → Option Value} {R : Hp → β → α → Prop} {S H : Hp} {σ : St} {ρ : En} {D : Ends} {k : α → Out} {Q : β → Hp → Prop} {r : Rs α} (rp : Rep K c.wd c.H0 c.S0 S ρ σ H) (p : Post K mg c S D (andThen r ρ k))
    (h : ∀ S1 H1 b a, Old H S S1 H1 → R S1 b a → Rep K c.wd c.H0 c.S0 S1 ρ σ H1 → Post K mg c S1 D (k a) → Q b H1) : Go K mg R S H r Q (fun C d H' => c.W C d σ H') := by
  cases r with
  | ok a => exact fun S1 H1 b o rb => h S1 H1 b a o rb (rp.step o) (Post.mono p o.s0)
  | er x => exact fun S1 H1 C d o m ex => p S1 σ H1 C d o.s0 (rp.step o) m ex
  | no => exact p
theorem ds_expr (he : DE X c e f) (hs : swapsWith e none pos.line X.env = pure false := by rfl) : DS X c (.Expr e pos) (sDrop f) := by
  refine ps_imp (ps_expr he hs) fun D σ H ⟨S, ρ, rp, p⟩ => ⟨S, ρ, rp, go_then rp p fun S1 H1 v x o hx r1 p1 => p1 S1 σ H1 (.refl _) r1⟩
theorem ds_ret (he : DE X c e f) : DS X c (.Return (some e) pos) (sRet f) := by
  refine ps_imp (ps_ret he) fun D σ H ⟨S, ρ, rp, p⟩ => ⟨S, ρ, rp, go_then rp p fun S1 H1 v x o hx r1 p1 => p1 S1 H1 v r1.old hx⟩
theorem ds_retN : DS X c (.Return none pos) sRetN := ps_imp ps_retN fun D σ H ⟨S, ρ, rp, p⟩ => p S H .non rp.old .non
theorem ds_pass : DS X c (.Pass pos) sNil := ps_imp ps_pass fun D σ H ⟨S, ρ, r, p⟩ => p S σ H (.refl _) r
theorem ds_break : DS X c (.Break pos) sBreak := ps_imp ps_break fun D σ H ⟨S, ρ, r, p⟩ => p S σ H (.refl _) r
theorem ds_cont : DS X c (.Continue pos) sCont := ps_imp ps_continue fun D σ H ⟨S, ρ, r, p⟩ => p S σ H (.refl _) r
theorem ds_if (ht : DT X c e t) (ha : DSs X c body F) (hb : DSs X c orelse G) : DS X c (.If e body orelse pos) (sIf t F G) := by
  refine ps_imp (ps_if ht ha hb) fun D σ H ⟨S, ρ, rp, p⟩ => ⟨S, ρ, rp, go_then rp p fun S1 H1 k k' o hk r1 p1 => ?_⟩
  cases hk
  cases k with
  | true => exact iteT ⟨S1, ρ, r1, p1⟩
  | false => exact iteF ⟨S1, ρ, r1, p1⟩
/-! ### targets -/
def Kept (ws : List Nat) (σ σ' : St) : Prop := σ'.length = σ.length ∧ ∀ i, i ∉ ws → σ'[i]? = σ[i]?
def tG (K : PySem.W.Frag) (c : Ct) (ws : List Nat) (g : PyData → En → Option En) : TG := fun v σ H Q => ∃ S ρ d, Rep K c.wd c.H0 c.S0 S ρ σ H ∧ Dq K S v d ∧ ∃ ρ', g d ρ = some ρ' ∧ ∀ σ', Rep K c.wd c.H0 c.S0 S ρ' σ' H → Kept ws σ σ' → Q σ' H
def tGs (K : PySem.W.Frag) (c : Ct) (ws : List Nat) (g : List PyData → En → Option En) : TGs := fun v σ H Q => ∃ S ρ d, Rep K c.wd c.H0 c.S0 S ρ σ H ∧ DqAll K S v d ∧ ∃ ρ', g d ρ = some ρ' ∧ ∀ σ', Rep K c.wd c.H0 c.S0 S ρ' σ' H → Kept ws σ σ' → Q σ' H
abbrev DG (X : Cx) (c : Ct) (e : Expr) (ws : List Nat) (g : PyData → En → Option En) : Prop := PG X e (tG X.K c ws g)
abbrev DGs (X : Cx) (c : Ct) (e : List Expr) (ws : List Nat) (g : List PyData → En → Option En) : Prop := PGs X e (tGs X.K c ws g)
theorem pg_imp {e : Expr} {t t' : TG} (h : PG X e t) (i : ∀ v σ H Q, t' v σ H Q → t v σ H Q) : PG X e t' := ⟨fun pins s σ H v u Q I r q => h.run pins s σ H v u Q I r (i _ _ _ _ q)⟩
theorem pgs_imp {e : List Expr} {t t' : TGs} (h : PGs X e t) (i : ∀ v σ H Q, t' v σ H Q → t v σ H Q) : PGs X e t' := ⟨fun pins s σ H v u Q I r q => h.run pins s σ H v u Q I r (i _ _ _ _ q)⟩
theorem dg_name {i : Nat} {x : Str} (hN : X.N.Nodup) (hi : X.N[i]? = some x) (hx : Loc X.env.scope x) (hf : X.fn x = true ∨ X.env.scope.names.lookup x = some .local := by first | exact .inl rfl | exact .inr rfl | assumption) : DG X c (.Name x pos) [i] (gNm i) :=
  pg_imp (pg_name hN hi hx hf) fun v σ H Q ⟨S, ρ, d, rp, hd, ρ', e, q⟩ => by
    cases e
    exact q _ (rp.set i hd) ⟨by simp, fun j hj => List.getElem?_set_ne (fun z => hj (by simp [z]))⟩
theorem dgs_nil : DGs X c [] [] gsNil := pgs_imp pgs_nil fun v σ H Q ⟨S, ρ, d, rp, hd, ρ', e, q⟩ => by
  cases hd with
  | nil => cases e; exact ⟨rfl, q _ rp ⟨rfl, fun _ _ => rfl⟩⟩
  | cons _ _ => cases e
theorem dgs_cons {es : List Expr} {ws ws' : List Nat} {g : PyData → En → Option En} {gs : List PyData → En → Option En} (h1 : DG X c e ws g) (h2 : DGs X c es ws' gs) (hs : (assignEach (e :: es) X.env).map (·.2) = assign e X.env :: (assignEach es X.env).map (·.2) := by rfl) : DGs X c (e :: es) (ws ++ ws') (gsCons g gs) := by
  refine pgs_imp (pgs_cons h1 h2 hs) fun v σ H Q ⟨S, ρ, d, rp, hd, ρ', e, q⟩ => ?_
  cases hd with
  | nil => cases e
  | @cons v0 vs d0 ds a b =>
    have e' : (g d0 ρ).bind (gs ds) = some ρ' := e
    cases e1 : g d0 ρ with
    | none => rw [e1] at e'; cases e'
    | some ρ1 =>
      rw [e1] at e'
      exact ⟨_, _, rfl, S, ρ, d0, rp, a, ρ1, e1, fun σ1 r1 k1 => ⟨S, ρ1, ds, r1, b, ρ', e', fun σ2 r2 k2 => q σ2 r2 ⟨k2.1.trans k1.1, fun i hi => (k2.2 i fun z => hi (List.mem_append_right _ z)).trans (k1.2 i fun z => hi (List.mem_append_left _ z))⟩⟩⟩
theorem dg_tup {es : List Expr} {k : Nat} {ws : List Nat} {gs : List PyData → En → Option En} {n : Nat} (hc : X.calm = true) (h : DGs X c es ws gs) (hn : (assignEach es X.env).length = n := by rfl) (hst : (assignEach es X.env).findIdx? (·.1) = none := by rfl) : DG X c (.Tuple es k pos) ws (gTp n gs) := by
  refine pg_imp (pg_tup hc h hn hst) fun v σ H Q ⟨S, ρ, d, rp, hd, ρ', e, q⟩ => ?_
  cases hd with
  | @tup a xs ds h1 h2 =>
    have e' : (if ds.length = n then gs ds ρ else none) = some ρ' := e
    by_cases hl : ds.length = n
    · rw [if_pos hl] at e'
      exact ⟨_, _, rfl, sqT_mono rp.sub h1, by rw [DqAll.length h2]; exact hl, S, ρ, ds, rp, h2, ρ', e', q⟩
    · rw [if_neg hl] at e'; cases e'
  | _ => cases e
theorem ds_set {i : Nat} {x : Str} {pos' : Pos} (hN : X.N.Nodup) (hi : X.N[i]? = some x) (hx : Loc X.env.scope x) (he : DE X c e f) (hs : swapsWith e (some (.Name x pos')) pos.line X.env = pure false := by rfl) (hf : X.fn x = true ∨ X.env.scope.names.lookup x = some .local := by first | exact .inl rfl | exact .inr rfl | assumption) :
    DS X c (.Assign [.Name x pos'] e pos) (sSet i f) := by
  refine ps_imp (ps_set hN hi hx he hs hf) fun D σ H ⟨S, ρ, rp, p⟩ => ⟨S, ρ, rp, go_then rp p fun S1 H1 v x o hx r1 p1 => p1 S1 _ H1 (.refl _) (r1.set i hx)⟩
theorem ds_asg {tg : Expr} {ws : List Nat} {g : PyData → En → Option En} (he : DE X c e f) (hg : DG X c tg ws g) (hs : swapsWithSole [tg] e pos.line X.env = pure false := by rfl) (hw : swappedStores [tg] e X.env = pure none := by rfl)
    (h1 : (assignEach [tg] X.env).map (·.2) = [assign tg X.env] := by rfl) : DS X c (.Assign [tg] e pos) (sAsg f g) := by
  refine ps_imp (ps_asg he hg hs hw h1) fun D σ H ⟨S, ρ, rp, p⟩ => ⟨S, ρ, rp, go_then rp p fun S1 H1 v x o hx r1 p1 => ?_⟩
  cases e2 : g x ρ with
  | none => rw [e2] at p1; exact p1.elim
  | some ρ' => rw [e2] at p1; exact ⟨S1, ρ, x, r1, hx, ρ', e2, fun σ' r' _ => p1 S1 σ' H1 (.refl _) r'⟩
/-! ### loops -/
theorem ds_while {fuel : En → Nat} (hp : PassesOwn (model X.prog X.w) X.A X.env X.xe) (hc : DT X c e t) (hb : DSs X c body F) : DS X c (.While e body [] pos) (sWhile fuel t F) := by
  refine ps_imp (ps_while hp hc hb) fun D σ H ⟨S, ρ, rp, p⟩ => ?_
  refine ⟨fun m σ H => ∃ S ρ, Rep X.K c.wd c.H0 c.S0 S ρ σ H ∧ Post X.K X.mg c S D (wLoop t F m ρ), ⟨fuel ρ, S, ρ, rp, p⟩, ?_⟩
  rintro m σ H ⟨S, ρ, rp, p⟩
  cases m with
  | zero => exact p.elim
  | succ n =>
    unfold wLoop at p
    refine ⟨S, ρ, rp, go_then rp p fun S1 H1 k k' o hk r1 p1 => ?_⟩
    cases hk
    cases k with
    | true =>
      refine iteT ⟨fun σ H => ∃ S ρ, Rep X.K c.wd c.H0 c.S0 S ρ σ H ∧ Post X.K X.mg c S D (wLoop t F n ρ), fun σ' H' h => ⟨n, Nat.lt_succ_self n, h⟩, S1, ρ, r1, ?_⟩
      simp only [if_true] at p1
      cases e : F ρ with
      | nx ρ' => rw [e] at p1; exact fun S2 σ2 H2 s r2 => ⟨S2, ρ', r2, Post.mono p1 s⟩
      | ct ρ' => rw [e] at p1; exact fun S2 σ2 H2 s r2 => ⟨S2, ρ', r2, Post.mono p1 s⟩
      | bk ρ' => rw [e] at p1; exact p1
      | rt d => rw [e] at p1; exact p1
      | er x ρ' => rw [e] at p1; exact p1
      | no => rw [e] at p1; exact p1
    | false => exact iteF (p1 S1 σ H1 (.refl _) r1)
/-- what is walked: its items as data -/
structure Walks (K : PySem.W.Frag) (J : It) (H0 S : Hp) (items : List PyData) : Prop where
  go : ∀ i S1 H, Same S S1 → Same S1 H → Same H0 H → i < items.length → J.go i H
  yld : ∀ i S1 H x H', Same S S1 → Same S1 H → Same H0 H → J.yld i H x H' → ∀ d, items[i]? = some d → ∃ S2, Old H S1 S2 H' ∧ Dq K S2 x d
  stop : ∀ S1 H, Same S S1 → Same S1 H → Same H0 H → J.stop items.length H
theorem Walks.mono {K : PySem.W.Frag} {J : It} {H0 S S' : Hp} {items : List PyData} (w : Walks K J H0 S items) (h : Same S S') : Walks K J H0 S' items :=
  ⟨fun i S1 H a => w.go i S1 H (h.trans a), fun i S1 H x H' a => w.yld i S1 H x H' (h.trans a), fun S1 H a => w.stop S1 H (h.trans a)⟩
def tI (K : PySem.W.Frag) (mg : Str → Option Value) (c : Ct) (s : En → Rs (List PyData)) : TI := fun σ H R => ∃ S ρ, Rep K c.wd c.H0 c.S0 S ρ σ H ∧ Go K mg (fun S' J xs => Walks K J c.H0 S' xs) S H (s ρ) R (fun C d H' => c.W C d σ H')
abbrev DI (X : Cx) (c : Ct) (tg e : Expr) (s : En → Rs (List PyData)) : Prop := PI X tg e (tI X.K X.mg c s)
theorem ds_for {tg iter : Expr} {s : En → Rs (List PyData)} {ws : List Nat} {g : PyData → En → Option En} (hp : PassesOwn (model X.prog X.w) X.A X.env X.xe) (hc : X.calm = true) (hi : DI X c tg iter s) (hg : DG X c tg ws g) (hb : DSs X c body F)
    (hs : ∀ x, foldedSetIterable iter X.env x = pure x := by intro _; rfl) : DS X c (.For tg iter body [] pos) (sFor s g F) := by
  refine ps_imp (ps_for hp hc hi hg hb hs) fun D σ H ⟨S, ρ, rp, p⟩ => ⟨S, ρ, rp, go_then rp p fun S1 H1 J xs o wk r1 p1 => ?_⟩
  refine ⟨fun i m σ H => m = xs.length - i ∧ i ≤ xs.length ∧ ∃ S ρ, Same S1 S ∧ Rep X.K c.wd c.H0 c.S0 S ρ σ H ∧ Post X.K X.mg c S D (fLoop g F (xs.drop i) ρ), ⟨xs.length, by simp, Nat.zero_le _, S1, ρ, .refl _, r1, p1⟩, ?_⟩
  rintro i m σ H ⟨rfl, hi, S2, ρ2, s12, r2, p2⟩
  by_cases hlt : i < xs.length
  · rw [List.drop_eq_getElem_cons hlt] at p2
    unfold fLoop at p2
    refine .inr ⟨wk.go i S2 H s12 r2.sub r2.old.ext hlt, ?_⟩
    refine ⟨fun σ H => ∃ S ρ, Same S1 S ∧ Rep X.K c.wd c.H0 c.S0 S ρ σ H ∧ Post X.K X.mg c S D (fLoop g F (xs.drop (i + 1)) ρ), fun σ' H' h => ⟨xs.length - (i + 1), by omega, rfl, hlt, h⟩, fun x H' y => ?_⟩
    obtain ⟨S3, o3, hx⟩ := wk.yld i S2 H x H' s12 r2.sub r2.old.ext y xs[i] (List.getElem?_eq_getElem hlt)
    cases e1 : g xs[i] ρ2 with
    | none => rw [e1] at p2; exact p2.elim
    | some ρ3 =>
      rw [e1] at p2
      refine ⟨S3, ρ2, xs[i], r2.step o3, hx, ρ3, e1, fun σ3 r3 _ => ⟨S3, ρ3, r3, ?_⟩⟩
      dsimp only at p2
      cases e2 : F ρ3 with
      | nx ρ' => rw [e2] at p2; exact fun S4 σ4 H4 s4 r4 => ⟨S4, ρ', (s12.trans o3.s0).trans s4, r4, Post.mono p2 (o3.s0.trans s4)⟩
      | ct ρ' => rw [e2] at p2; exact fun S4 σ4 H4 s4 r4 => ⟨S4, ρ', (s12.trans o3.s0).trans s4, r4, Post.mono p2 (o3.s0.trans s4)⟩
      | bk ρ' => rw [e2] at p2; exact fun S4 σ4 H4 s4 r4 => p2 S4 σ4 H4 (o3.s0.trans s4) r4
      | rt d => rw [e2] at p2; exact p2
      | er x ρ' => rw [e2] at p2; exact fun S4 σ4 H4 C d s4 r4 => p2 S4 σ4 H4 C d (o3.s0.trans s4) r4
      | no => rw [e2] at p2; exact p2
  · have e : i = xs.length := by omega
    subst e
    rw [List.drop_eq_nil_of_le (Nat.le_refl _)] at p2
    exact .inl ⟨wk.stop S2 H s12 r2.sub r2.old.ext, p2 S2 σ H (.refl _) r2⟩
end

/-! ### what is walked -/
def asSeq : PyData → Rs (List PyData)
  | .tuple xs => .ok xs
  | .list xs => .ok xs
  | _ => .no
def asTup : PyData → Rs (List PyData)
  | .tuple xs => .ok xs
  | _ => .no
def asLst : PyData → Rs (List PyData)
  | .list xs => .ok xs
  | .dict [(.none, .list xs)] => .ok xs
  | _ => .no
def iTp (f : En → Rs PyData) : En → Rs (List PyData) := fun ρ => (f ρ).bind asTup
def iLs (f : En → Rs PyData) : En → Rs (List PyData) := fun ρ => (f ρ).bind asLst
def rgD (lo : Int) (n : Nat) : List PyData := (List.range n).map fun (i : Nat) => PyData.int (lo + i)
def rgOk (i : Int) : Prop := -(2 ^ 62) ≤ i ∧ i < 2 ^ 62
instance (i : Int) : Decidable (rgOk i) := inferInstanceAs (Decidable (_ ∧ _))
def rng1 : List PyData → Rs (List PyData)
  | [.int j] => if rgOk j then .ok (rgD 0 j.toNat) else .no
  | _ => .no
def rng2 : List PyData → Rs (List PyData)
  | [.int i, .int j] => if rgOk i ∧ rgOk j then .ok (rgD i (j - i).toNat) else .no
  | _ => .no
def iRg (r : List PyData → Rs (List PyData)) (f : En → Rs (List PyData)) : En → Rs (List PyData) := fun ρ => (f ρ).bind r
section
variable {K : PySem.W.Frag} {H0 S S' H : Hp} {X : Cx} {c : Ct} {tg e : Expr} {f : En → Rs PyData} {fa : En → Rs (List PyData)} {pos : Pos}
theorem pi_imp {t t' : TI} (h : PI X tg e t) (i : ∀ σ H Q, t' σ H Q → t σ H Q) : PI X tg e t' := ⟨fun pins s σ H R I q => h.run pins s σ H R I (i _ _ _ q)⟩
theorem walks_list {a : Addr} {vs : List V} {ds : List PyData} (h : SqL K S a vs) (hd : DqAll K S vs ds) : Walks K (Itl K a) H0 S ds := by
  refine ⟨fun i S1 H s1 s2 _ hi => ?_, fun i S1 H x H' s1 s2 _ y d ed => ?_, fun S1 H s1 s2 _ => ?_⟩
  · obtain ⟨v, e, _⟩ := DqAll.get' hd (List.getElem?_eq_getElem hi)
    exact ⟨vs, v, (s1.trans s2).seq h, e⟩
  · obtain ⟨rfl, y⟩ := y
    obtain ⟨v, e, hv⟩ := DqAll.get' hd ed
    have := y vs ((s1.trans s2).seq h)
    rw [e] at this
    cases this
    exact ⟨S1, .refl s2, dp_mono s1 _ _ hv⟩
  · exact ⟨vs, (s1.trans s2).seq h, by rw [DqAll.length hd]; exact Nat.le_refl _⟩
theorem walks_tup {a : Addr} {vs : List V} {ds : List PyData} (h : SqT K S a vs) (hd : DqAll K S vs ds) : Walks K (Itt K a) H0 S ds := by
  refine ⟨fun i S1 H s1 s2 _ hi => ?_, fun i S1 H x H' s1 s2 _ y d ed => ?_, fun S1 H s1 s2 _ => ?_⟩
  · obtain ⟨v, e, _⟩ := DqAll.get' hd (List.getElem?_eq_getElem hi)
    exact ⟨vs, v, sqT_mono (s1.trans s2) h, e⟩
  · obtain ⟨rfl, y⟩ := y
    obtain ⟨v, e, hv⟩ := DqAll.get' hd ed
    have := y vs (sqT_mono (s1.trans s2) h)
    rw [e] at this
    cases this
    exact ⟨S1, .refl s2, dp_mono s1 _ _ hv⟩
  · exact ⟨vs, sqT_mono (s1.trans s2) h, by rw [DqAll.length hd]; exact Nat.le_refl _⟩
theorem walks_rng (lo : Int) (n : Nat) : Walks K (Itr lo n) H0 S (rgD lo n) := by
  have hl : (rgD lo n).length = n := by simp [rgD]
  refine ⟨fun i S1 H s1 s2 _ hi => by rw [hl] at hi; exact hi, fun i S1 H x H' s1 s2 _ y d ed => ?_, fun S1 H s1 s2 _ => by rw [hl]; exact Nat.le_refl _⟩
  obtain ⟨rfl, rfl⟩ := y
  have hi : i < n := by rw [← hl]; exact (List.getElem?_eq_some_iff.mp ed).1
  simp [rgD, hi] at ed
  subst ed
  exact ⟨S1, .refl s2, .int _⟩
theorem di_list (h : DE X c e f) : DI X c tg e (iLs f) := by
  refine pi_imp (pi_list h) fun σ H Q ⟨S, ρ, rp, q⟩ => ⟨S, ρ, rp, Go.seq q fun S1 H1 x dx o1 hx q1 => ?_⟩
  cases hx with
  | lst h1 h2 => exact ⟨_, rfl, ⟨_, .inl (rd_mono o1.sub h1)⟩, Go.now q1 o1.sub (walks_list (.inl h1) h2)⟩
  | scr h1 h2 => exact ⟨_, rfl, ⟨_, o1.sub.seq h1⟩, Go.now q1 o1.sub (walks_list h1 h2)⟩
  | dct h1 h2 h3 =>
    exfalso
    unfold asLst at q1
    split at q1 <;> first | exact q1.elim | (rename_i z; cases z; done) | (rename_i z; cases z; exact dct_ne h3)
  | _ => exact (show False from q1).elim
theorem di_tup (h : DE X c e f) : DI X c tg e (iTp f) := by
  refine pi_imp (pi_tup h) fun σ H Q ⟨S, ρ, rp, q⟩ => ⟨S, ρ, rp, Go.seq q fun S1 H1 x dx o1 hx q1 => ?_⟩
  cases hx with
  | tup h1 h2 => exact ⟨_, rfl, ⟨_, sqT_mono o1.sub h1⟩, Go.now q1 o1.sub (walks_tup h1 h2)⟩
  | _ => exact (show False from q1).elim
theorem di_range1 {a : Expr} {p : Pos} (hg : Gl X "range") (hm : X.mg "range" = none) (ha : DA X c [a] fa) (hs : starEach [a] X.env = [(false, eval a X.env)] := by rfl) : DI X c tg (.Call (.Name "range" p) [a] [] pos) (iRg rng1 fa) := by
  refine pi_imp (pi_range1 hg hm ha hs) fun σ H Q ⟨S, ρ, rp, q⟩ => ⟨S, ρ, rp, Go.seq q fun S1 H1 x dx o1 hx q1 => ?_⟩
  unfold rng1 at q1
  split at q1
  · rename_i j
    split at q1
    · rename_i hj
      cases hx with
      | cons h1 h2 =>
        cases h1
        cases h2
        exact ⟨j, rfl, hj.1, hj.2, Go.now q1 o1.sub (walks_rng 0 j.toNat)⟩
    · exact q1.elim
  · exact q1.elim
theorem di_range2 {a b : Expr} {p : Pos} (hg : Gl X "range") (hm : X.mg "range" = none) (ha : DA X c [a, b] fa) (hs : starEach [a, b] X.env = [(false, eval a X.env), (false, eval b X.env)] := by rfl) (hs2 : starEach [b] X.env = [(false, eval b X.env)] := by rfl) :
    DI X c tg (.Call (.Name "range" p) [a, b] [] pos) (iRg rng2 fa) := by
  refine pi_imp (pi_range2 hg hm ha hs hs2) fun σ H Q ⟨S, ρ, rp, q⟩ => ⟨S, ρ, rp, Go.seq q fun S1 H1 x dx o1 hx q1 => ?_⟩
  unfold rng2 at q1
  split at q1
  · rename_i i j
    split at q1
    · rename_i hj
      cases hx with
      | cons h1 h2 =>
        cases h1
        cases h2 with
        | cons h3 h4 =>
          cases h3
          cases h4
          exact ⟨i, j, rfl, ⟨hj.1.1, hj.1.2, hj.2.1, hj.2.2⟩, Go.now q1 o1.sub (walks_rng i (j - i).toNat)⟩
    · exact q1.elim
  · exact q1.elim
end

/-! ### comprehensions -/
def cLoop (g : PyData → En → Option En) (t : En → Rs Bool) (f : En → Rs PyData) (ρ : En) : List PyData → Rs (List PyData)
  | [] => .ok []
  | x :: xs => match g x ρ with
    | some ρ1 => (match t ρ1 with
      | .ok true => (match f ρ1 with
        | .ok y => (match cLoop g t f ρ xs with
          | .ok ys => .ok (y :: ys)
          | _ => .no)
        | _ => .no)
      | .ok false => cLoop g t f ρ xs
      | _ => .no)
    | none => .no
def eLc (own : List Nat) (s : En → Rs (List PyData)) (g : PyData → En → Option En) (t : En → Rs Bool) (f : En → Rs PyData) : En → Rs PyData := fun ρ => (s ρ).bind fun xs => if xs.length ≤ 16777216 then (cLoop g t f (wipeE ρ own) xs).bind fun ys => .ok (.list ys) else .no
def bYes : En → Rs Bool := fun _ => .ok true
/-- the context of a comprehension's block -/
def Ct.in1 (c : Ct) : Ct := { c with W := fun _ _ _ _ => False }
abbrev DTs (X : Cx) (c : Ct) (ifs : List Expr) (t : En → Rs Bool) : Prop := PTs X ifs (tT X.K X.mg c t)
section
variable {X : Cx} {c : Ct}
theorem dts_nil : DTs X c [] bYes := ⟨fun pins s σ H Q I ⟨S, ρ, r, q⟩ => pts_nil.run pins s σ H Q I (Go.now (r' := true) q r.sub rfl)⟩
theorem dts_one {e : Expr} {t : En → Rs Bool} (h : DT X c e t) : DTs X c [e] t := pts_one h
theorem wipe_in {σ : St} {i : Nat} : ∀ {vs : List Nat}, i ∈ vs → (wipe σ vs)[i]? = if i < σ.length then some none else none
  | v :: vs, h => by
    unfold wipe
    by_cases e : v = i
    · subst e
      by_cases hl : v < σ.length
      · rw [List.getElem?_set_self (by rw [wipe_length]; exact hl), if_pos hl]
      · rw [if_neg hl]; exact List.getElem?_eq_none (by rw [List.length_set, wipe_length]; omega)
    · rw [List.getElem?_set_ne e]
      rcases List.mem_cons.mp h with z | z
      · exact absurd z.symm e
      · exact wipe_in z
theorem wipe_kept {σ τ : St} {ws vs : List Nat} (k : Kept ws σ τ) (h : ∀ i ∈ ws, i ∈ vs) : wipe τ vs = wipe σ vs := by
  refine List.ext_getElem? fun i => ?_
  by_cases hi : i ∈ vs
  · rw [wipe_in hi, wipe_in hi, k.1]
  · rw [wipe_out hi, wipe_out hi, k.2 i fun z => hi (h i z)]
theorem wipe_wipe {σ : St} {vs : List Nat} : wipe (wipe σ vs) vs = wipe σ vs := by
  refine List.ext_getElem? fun i => ?_
  by_cases hi : i ∈ vs
  · rw [wipe_in hi, wipe_in hi, wipe_length]
  · rw [wipe_out hi, wipe_out hi]
theorem cLoop_ner {g : PyData → En → Option En} {t : En → Rs Bool} {f : En → Rs PyData} {ρ : En} : ∀ {xs : List PyData} {x : Ex}, cLoop g t f ρ xs ≠ .er x
  | [], _, h => by cases h
  | y :: ys, x, h => by
    unfold cLoop at h
    split at h
    · split at h
      · split at h
        · split at h <;> cases h
        · cases h
      · exact cLoop_ner h
      · cases h
    · cases h
theorem cLoop_len {g : PyData → En → Option En} {t : En → Rs Bool} {f : En → Rs PyData} {ρ : En} : ∀ {xs ys : List PyData}, cLoop g t f ρ xs = .ok ys → ys.length ≤ xs.length
  | [], ys, h => by cases h; exact Nat.le_refl _
  | x :: xs, ys, h => by
    unfold cLoop at h
    split at h
    · split at h
      · split at h
        · split at h
          · rename_i ys' e
            cases h
            have := cLoop_len e
            simp only [List.length_cons]
            omega
          · cases h
        · cases h
      · have := cLoop_len h
        simp only [List.length_cons]
        omega
      · cases h
    · cases h
/-- the turns of a comprehension -/
theorem comp_turns {J : It} {S1 H1 : Hp} {σ : St} {ρ : En} {own ws : List Nat} {g : PyData → En → Option En} {t : En → Rs Bool} {f : En → Rs PyData} {xs : List PyData} {Q : VK} {D : Addr} {ys : List PyData}
    (wk : Walks X.K J c.H0 S1 xs) (hxl : xs.length ≤ 16777216) (r1 : Rep X.K c.wd c.H0 c.S0 S1 ρ σ H1) (hD : H1 D = none) (hw : ∀ i ∈ ws, i ∈ own) (hy : cLoop g t f (wipeE ρ own) xs = .ok ys)
    (q : ∀ S' H' vs, Old H1 S1 S' H' → S' D = none → H' D = some (.lst vs) → DqAll X.K S' vs ys → Q (.ref D) H') :
    ∃ W : Nat → Nat → Hp → Prop, (∃ m, W 0 m (upd H1 D (.lst []))) ∧ ∀ i m H, W i m H →
      (J.stop i H ∧ Q (.ref D) H) ∨ (J.go i H ∧ ∃ Nx : Hp → Prop, (∀ H', Nx H' → ∃ m', m' < m ∧ W (i + 1) m' H') ∧ ∀ x H', J.yld i H x H' → tG X.K c.in1 ws g x (wipe σ own) H' fun σ2 H2 => wipe σ2 own = wipe σ own ∧ tT X.K X.mg c.in1 t σ2 H2 fun b H3 =>
        if b = true then tE X.K X.mg c.in1 f σ2 H3 fun y H4 => ∃ acc, H4 D = some (.lst acc) ∧ acc.length < sizeLine ∧ Nx (upd H4 D (.lst (acc ++ [y]))) else Nx H3) := by
  have hS1 : S1 D = none := r1.sub.free hD
  have h0D : c.H0 D = none := r1.old.ext.free hD
  have apD : Apart ρ σ D := r1.fresh hD
  let Wp : Nat → Hp → Prop := fun i H => ∃ S acc ds rs, Same S1 S ∧ S D = none ∧ Same H1 H ∧ (∀ a o, H1 a = some o → S a = S1 a) ∧ Rep X.K c.wd c.H0 c.S0 S ρ σ H ∧ H D = some (.lst acc) ∧ DqAll X.K S acc ds ∧ ds.length ≤ i ∧ cLoop g t f (wipeE ρ own) (xs.drop i) = .ok rs ∧ ys = ds ++ rs
  refine ⟨fun i m H => m = xs.length - i ∧ i ≤ xs.length ∧ Wp i H, ⟨xs.length, by simp, Nat.zero_le _, S1, [], [], ys, .refl _, hS1, same_upd hD, fun _ _ _ => rfl, r1.write apD h0D hS1, upd_same, .nil, Nat.le_refl _, hy, rfl⟩, ?_⟩
  rintro i m H ⟨rfl, hi, S2, acc, ds, rs, s12, hS2, h1, h1s, r2, hDl, hacc, hdl, hrs, eys⟩
  by_cases hlt : i < xs.length
  · rw [List.drop_eq_getElem_cons hlt] at hrs
    unfold cLoop at hrs
    refine .inr ⟨wk.go i S2 H s12 r2.sub r2.old.ext hlt, ?_⟩
    refine ⟨Wp (i + 1), fun H' w => ⟨xs.length - (i + 1), by omega, rfl, hlt, w⟩, fun x H' y => ?_⟩
    obtain ⟨S3, o3, hx⟩ := wk.yld i S2 H x H' s12 r2.sub r2.old.ext y xs[i] (List.getElem?_eq_getElem hlt)
    have hD3 : H' D = some (.lst acc) := o3.ext _ _ hDl
    have hS3 : S3 D = none := (o3.old _ _ hDl).trans hS2
    have r3 := r2.step o3
    cases e1 : g xs[i] (wipeE ρ own) with
    | none => rw [e1] at hrs; cases hrs
    | some ρ3 =>
      rw [e1] at hrs
      dsimp only at hrs
      refine ⟨S3, wipeE ρ own, xs[i], r3.wipe own, hx, ρ3, e1, fun σ2 r4 k2 => ⟨(wipe_kept k2 hw).trans wipe_wipe, S3, ρ3, r4, ?_⟩⟩
      cases e2 : t ρ3 with
      | er x => rw [e2] at hrs; cases hrs
      | no => rw [e2] at hrs; cases hrs
      | ok b =>
        rw [e2] at hrs
        intro S4 H4 b' o4 eb
        cases eb
        have hD4 : H4 D = some (.lst acc) := o4.ext _ _ hD3
        have hS4 : S4 D = none := (o4.old _ _ hD3).trans hS3
        cases b with
        | false =>
          refine iteF ⟨S4, acc, ds, rs, (s12.trans o3.s0).trans o4.s0, hS4, (h1.trans o3.ext).trans o4.ext, fun a o z => ?_, (r3.step o4), hD4, dps_mono (o3.s0.trans o4.s0) _ _ hacc, by omega, hrs, eys⟩
          exact (o4.old _ _ (o3.ext _ _ (h1 _ _ z))).trans ((o3.old _ _ (h1 _ _ z)).trans (h1s _ _ z))
        | true =>
          dsimp only at hrs
          refine iteT ⟨S4, ρ3, r4.step o4, ?_⟩
          cases e3 : f ρ3 with
          | er x => rw [e3] at hrs; cases hrs
          | no => rw [e3] at hrs; cases hrs
          | ok y =>
            rw [e3] at hrs
            dsimp only at hrs
            cases e4 : cLoop g t f (wipeE ρ own) (xs.drop (i + 1)) with
            | er x => rw [e4] at hrs; cases hrs
            | no => rw [e4] at hrs; cases hrs
            | ok rs' =>
              rw [e4] at hrs
              dsimp only at hrs
              cases hrs
              intro S5 H5 v o5 hv
              have hD5 : H5 D = some (.lst acc) := o5.ext _ _ hD4
              have hS5 : S5 D = none := (o5.old _ _ hD4).trans hS4
              have r5 := (r3.step o4).step o5
              have hacc5 := dps_mono ((o3.s0.trans o4.s0).trans o5.s0) _ _ hacc
              have hal : acc.length < sizeLine := by rw [DqAll.length hacc5, sizeLine_eq]; omega
              refine ⟨acc, hD5, hal, S5, acc ++ [v], ds ++ [y], rs', ((s12.trans o3.s0).trans o4.s0).trans o5.s0, hS5, ?_, fun a o z => ?_, r5.write apD h0D hS5, upd_same, DqAll.append hacc5 (DqAll.one hv), by simp; omega, e4, by rw [eys, List.append_assoc]; rfl⟩
              · intro b u z
                rw [upd_ne (ne_of_none z hD)]
                exact o5.ext _ _ (o4.ext _ _ (o3.ext _ _ (h1 _ _ z)))
              · exact (o5.old _ _ (o4.ext _ _ (o3.ext _ _ (h1 _ _ z)))).trans ((o4.old _ _ (o3.ext _ _ (h1 _ _ z))).trans ((o3.old _ _ (h1 _ _ z)).trans (h1s _ _ z)))
  · have e : i = xs.length := by omega
    subst e
    rw [List.drop_eq_nil_of_le (Nat.le_refl _)] at hrs
    cases hrs
    rw [List.append_nil] at eys
    subst eys
    refine .inl ⟨wk.stop S2 H s12 r2.sub r2.old.ext, ?_⟩
    exact q S2 H acc ⟨h1, r2.sub, s12, h1s⟩ hS2 hDl hacc
theorem old_put {H1 S1 S2 H : Hp} {D : Addr} {acc : List V} (o : Old H1 S1 S2 H) (hD : H1 D = none) (hS2 : S2 D = none) (hDl : H D = some (.lst acc)) : Old H1 S1 (upd S2 D (.lst acc)) H := by
  refine ⟨o.ext, fun b u z => ?_, fun b u z => ?_, fun a u z => ?_⟩
  · by_cases hb : b = D
    · subst hb; rw [upd_same] at z; cases z; exact hDl
    · rw [upd_ne hb] at z; exact o.sub b u z
  · exact same_upd hS2 b u (o.s0 b u z)
  · rw [upd_ne (ne_of_none z hD)]; exact o.old a u z
/-- the reading of a comprehension -/
theorem lc_of {own : List (Str × Nat)} {ws : List Nat} {s : En → Rs (List PyData)} {g : PyData → En → Option En} {t : En → Rs Bool} {f : En → Rs PyData} (hw : ∀ i ∈ ws, i ∈ own.map (·.2)) {σ : St} {H : Hp} {Q : VK}
    (q : tE X.K X.mg c (eLc (own.map (·.2)) s g t f) σ H Q) : tLc (tI X.K X.mg c s) (tG X.K c.in1 ws g) (tT X.K X.mg c.in1 t) (tE X.K X.mg c.in1 f) (own.map (·.2)) σ H Q := by
  obtain ⟨S, ρ, rp, q⟩ := q
  refine ⟨S, ρ, rp, Go.seq q fun S1 H1 J xs o1 wk q1 => fun D hD => ?_⟩
  split at q1
  · rename_i hxl
    cases e : cLoop g t f (wipeE ρ (own.map (·.2))) xs with
    | er x => exact (cLoop_ner e).elim
    | no => rw [e] at q1; exact q1.elim
    | ok ys =>
      rw [e] at q1
      exact comp_turns wk hxl (rp.step o1) hD hw e fun S' H' vs o' h1 h2 hd => q1 _ H' _ (old_put o' hD h1 h2) (.lst (.of upd_same) (dps_mono (same_upd h1) _ _ hd))
  · exact q1.elim
theorem de_lc {elt tg iter : Expr} {ifs : List Expr} {scope : Scope} {own : List (Str × Nat)} {ws ow : List Nat} {pos : Pos} {s : En → Rs (List PyData)} {g : PyData → En → Option En} {t : En → Rs Bool} {f : En → Rs PyData} (hc : X.calm = true) (hN : X.N.Nodup) (hi : DI X c tg iter s) (ok : BlkOk X.N X.env.scope scope own) (hw : ∀ i ∈ ws, i ∈ ow)
    (hg : ∀ (s : Shared) (H : Hp) (C : Addr) (cl : List (Str × Addr)) (fp : List Addr), DG (X.blk s H scope (compEnvC scope cl C X.env) fp) c.in1 tg ws g) (ht : ∀ (s : Shared) (H : Hp) (C : Addr) (cl : List (Str × Addr)) (fp : List Addr), DTs (X.blk s H scope (compEnvC scope cl C X.env) fp) c.in1 ifs t)
    (he : ∀ (s : Shared) (H : Hp) (C : Addr) (cl : List (Str × Addr)) (fp : List Addr), DE (X.blk s H scope (compEnvC scope cl C X.env) fp) c.in1 elt f) (hs : ∀ x, foldedSetIterable iter X.env x = pure x := by intro _; rfl) (ho : own.map (·.2) = ow := by rfl) :
    DE X c (.ListComp elt [⟨tg, iter, ifs, 0⟩] scope pos) (eLc ow s g t f) := by
  subst ho
  exact pe_imp (pe_lc (te := tE X.K X.mg c.in1 f) (tt := tT X.K X.mg c.in1 t) (g := tG X.K c.in1 ws g) hc hN hi ok hg ht he hs) fun _ _ _ q => lc_of hw q
/-- y = [..], y a local -/
theorem ds_setLc {i : Nat} {y : Str} {py : Pos} {elt tg iter : Expr} {ifs : List Expr} {scope : Scope} {own : List (Str × Nat)} {ws ow : List Nat} {pos spos : Pos} {s : En → Rs (List PyData)} {g : PyData → En → Option En} {t : En → Rs Bool} {f : En → Rs PyData} (hc : X.calm = true) (hN : X.N.Nodup) (hy : X.N[i]? = some y) (hyl : X.env.scope.names.lookup y = some .local)
    (hsw : swapsWith (.ListComp elt [⟨tg, iter, ifs, 0⟩] scope pos) (some (.Name y py)) spos.line X.env = pure true) (hi : DI X c tg iter s) (ok : BlkOk X.N X.env.scope scope own) (hw : ∀ i ∈ ws, i ∈ ow)
    (hg : ∀ (s : Shared) (H : Hp) (C : Addr) (cl : List (Str × Addr)) (fp : List Addr), DG (X.blk s H scope (compEnvC scope cl C X.env) fp) c.in1 tg ws g) (ht : ∀ (s : Shared) (H : Hp) (C : Addr) (cl : List (Str × Addr)) (fp : List Addr), DTs (X.blk s H scope (compEnvC scope cl C X.env) fp) c.in1 ifs t)
    (he : ∀ (s : Shared) (H : Hp) (C : Addr) (cl : List (Str × Addr)) (fp : List Addr), DE (X.blk s H scope (compEnvC scope cl C X.env) fp) c.in1 elt f) (hs : ∀ x, foldedSetIterable iter X.env x = pure x := by intro _; rfl) (ho : own.map (·.2) = ow := by rfl) :
    DS X c (.Assign [.Name y py] (.ListComp elt [⟨tg, iter, ifs, 0⟩] scope pos) spos) (sSet i (eLc ow s g t f)) := by
  subst ho
  refine ps_imp (ps_setLc (te := tE X.K X.mg c.in1 f) (tt := tT X.K X.mg c.in1 t) (g := tG X.K c.in1 ws g) hc hN hy hyl hsw hi ok hg ht he hs) fun D σ H ⟨S, ρ, rp, p⟩ => ?_
  exact lc_of hw ⟨S, ρ, rp, go_then (k := fun x => .nx (ρ.set i (some (.d x)))) rp p fun S1 H1 v x o hx r1 p1 => p1 S1 _ H1 (.refl _) (r1.set i hx)⟩
end
end D2

namespace D2
open PySem PySem.Spec PyProof.Rows L2
theorem tuple_mulS (l : Addr) (items : Array Value) (n : Nat) (dd : Option Addr) (sl : Array (Option Value)) (x : Int) (u : Tok) (c0 : (decide (x < -(2 ^ 63)) || decide (x ≥ 2 ^ 63)) = false) (c1 : (items.isEmpty || x == 1) = true) :
    Meets (Builtin.«tuple.__mul__» ⟨[.ref l, .int x u], []⟩) (fun _ R s => s.heap.get? l = some { cls := .type "tuple", dict := dd, data := .seq items n, slots := sl } ∧ R (.ok (.ret (Value.ref l))) s) :=
  .of_wp fun prog w A R s h => by
    obtain ⟨hp, g, d, tk, os⟩ := s
    obtain ⟨hl, h⟩ := h
    have f1 := AutoSeq1.idx_int
    wp_walk using wpAny_loadPart' hl
    repeat (first
      | (refine wpAny_ite_false (decide_eq_false (by rw [c0]; exact Bool.false_ne_true)) ?_; wp_walk using wpAny_loadPart' hl)
      | (refine wpAny_ite_true (decide_eq_true (by rw [c1])) ?_; wp_walk using wpAny_loadPart' hl))
    exact ⟨_, rfl, h⟩
theorem tuple_mul0 (l : Addr) (items : Array Value) (n : Nat) (dd : Option Addr) (sl : Array (Option Value)) (x : Int) (u : Tok) (c0 : (decide (x < -(2 ^ 63)) || decide (x ≥ 2 ^ 63)) = false) (c1 : (items.isEmpty || x == 1) = false) (c2 : (decide (x ≤ 0) || items.isEmpty) = true) :
    Meets (Builtin.«tuple.__mul__» ⟨[.ref l, .int x u], []⟩) (fun _ R s => s.heap.get? l = some { cls := .type "tuple", dict := dd, data := .seq items n, slots := sl } ∧
      R (.ok (.ret (Value.ref s.heap.objs.size))) { s with heap := s.heap.push { cls := Value.type "tuple", data := Data.seq #[] }, toks := s.toks }) :=
  .of_wp fun prog w A R s h => by
    obtain ⟨hp, g, d, tk, os⟩ := s
    obtain ⟨hl, h⟩ := h
    have f1 := AutoSeq1.idx_int
    wp_walk using wpAny_loadPart' hl
    repeat (first
      | (refine wpAny_ite_false (decide_eq_false (by rw [c0]; exact Bool.false_ne_true)) ?_; wp_walk using wpAny_loadPart' hl)
      | (refine wpAny_ite_false (decide_eq_false (by rw [c1]; exact Bool.false_ne_true)) ?_; wp_walk using wpAny_loadPart' hl)
      | (refine wpAny_ite_true (decide_eq_true (by rw [c2])) ?_; wp_walk using wpAny_loadPart' hl))
    exact ⟨_, rfl, h⟩
/-- tuple * int, up to 8000 times -/
def rRepW (K : PySem.W.Frag) : R2 := fun x y H Q => ∃ l k xs, x = .ref l ∧ y = .int k ∧ SqT K H l xs ∧ xs ≠ [] ∧ 2 ≤ k ∧ k ≤ 8000 ∧ xs.length ≤ 1000 ∧ ∀ p, H p = none → Q (.ref p) (upd H p (.tup (List.replicate k.toNat xs).flatten))
theorem op_repW {X : Cx} : OpR X (binaryOp .Mult) (rRepW X.K) := by
  intro pins s σ H x y v u Q I rx ry ⟨l, k, xs, ex, ey, hT, hne, h1, h2, hz, q⟩
  subst ex ey
  cases rx
  obtain ⟨t, rfl⟩ := ry
  obtain ⟨its, r, ⟨⟨cls, dd, data, sl⟩, ho, hc, n, hd⟩, hs⟩ := I.tuple hT
  simp only at hc hd
  subst hc hd
  have hle : its.length = xs.length := r.length.symm
  have hpos : 0 < xs.length := List.length_pos_iff.mpr hne
  have hz0 : its.toArray.size = xs.length := by rw [List.size_toArray, hle]
  have hi : its.toArray.isEmpty = false := by
    rw [Array.isEmpty_eq_false_iff, ← Array.size_pos_iff, hz0]
    exact hpos
  have hN : k.toNat * xs.length ≤ 8000000 := by
    have := Nat.mul_le_mul (show k.toNat ≤ 8000 by omega) hz
    omega
  have hm : ((its.toArray.size : Nat) : Int) * k ≤ 8000000 := by
    have e : ((its.toArray.size : Nat) : Int) * k = ((k.toNat * xs.length : Nat) : Int) := by
      rw [hz0, Int.natCast_mul, Int.toNat_of_nonneg (by omega), Int.mul_comm]
    omega
  have len : (List.replicate k.toNat its).flatten.length ≤ sizeLine := by
    rw [PyProof.Rows.lm_len_rep_flat, hle, sizeLine_eq]
    omega
  have many : Builtin.Tuple.tupleTooMany (((its.toArray.size : Nat) : Int) * k) = false := by
    unfold Builtin.Tuple.tupleTooMany
    rw [sizeLine_eq]
    exact decide_eq_false (by omega)
  have in64 : (decide (k < -(2 ^ 63)) || decide (k ≥ 2 ^ 63)) = false := by
    rw [decide_eq_false (by omega), decide_eq_false (by omega)] <;> rfl
  have not1 : (its.toArray.isEmpty || k == 1) = false := by
    rw [hi, Bool.false_or]
    exact beq_eq_false_iff_ne.mpr (by omega)
  have not0 : (decide (k ≤ 0) || its.toArray.isEmpty) = false := by
    rw [hi, Bool.or_false]
    exact decide_eq_false (by omega)
  refine wpAny_binaryOp_repeat_ref (T := "tuple") (U := "int") (by decide) ⟨_, ho, rfl⟩ (fun s' => typeIs_int s' k t) noFill_tuple_mul F.fills_int_mul F.slot_int_rmul repeat_tuple F.slot_int_index.lookup
    (call_meets F.slot_int_rmul (typeIs_int s k t) F.entry_int_rmul (F.args_int_rmul_2 _ _) (int_rmul_tuple k t l its.toArray n dd sl)
      ⟨ho, rfl, ⟨_, ho, rfl⟩, call_meets F.slot_tuple_mul ⟨_, ho, rfl⟩ F.entry_tuple_mul (F.args_tuple_mul_2 _ _)
        (tuple_mulW l its.toArray n dd sl k t in64 not1 not0 (by omega) many (by rw [size_rep, List.size_toArray]; exact len)) ⟨ho, ?_⟩⟩)
  rw [size_rep]
  have fin := q _ (I.hok.fresh (Nat.le_refl s.heap.objs.size))
  refine ⟨.ref s.heap.objs.size, _, I.laid (t' := s.toks) (o := .tup (List.replicate k.toNat xs).flatten) (fun b ob q => Heap.get?_push_of_some _ q) (Nat.le_refl _) ?_, rfl, fin⟩
  refine ⟨?_, _, r.rep k.toNat, IsTup.new _ _⟩
  rw [PyProof.Rows.lm_len_rep_flat, sizeLine_eq]
  omega
def rRepA (K : PySem.W.Frag) : R2 := fun x y H Q => ∃ l k xs, x = .ref l ∧ y = .int k ∧ SqT K H l xs ∧ -1000000 ≤ k ∧ k ≤ 8000 ∧ xs.length ≤ 1000 ∧ (xs = [] ∨ k = 1 → Q (.ref l) H) ∧ (xs ≠ [] → k ≤ 0 → ∀ p, H p = none → Q (.ref p) (upd H p (.tup []))) ∧
  (xs ≠ [] → 2 ≤ k → ∀ p, H p = none → Q (.ref p) (upd H p (.tup (List.replicate k.toNat xs).flatten)))
theorem op_repA {X : Cx} : OpR X (binaryOp .Mult) (rRepA X.K) := by
  intro pins s σ H x y v u Q I rx ry h
  obtain ⟨l, k, xs, rfl, rfl, hT, h1, h2, hz, q0, q1, q2⟩ := h
  by_cases hc : xs = [] ∨ k = 1
  · cases rx
    obtain ⟨t, rfl⟩ := ry
    obtain ⟨its, r, ⟨⟨cls, dd, data, sl⟩, ho, hc1, n, hd⟩, hs⟩ := I.tuple hT
    simp only at hc1 hd
    subst hc1 hd
    have c0 : (decide (k < -(2 ^ 63)) || decide (k ≥ 2 ^ 63)) = false := by
      rw [decide_eq_false (by omega), decide_eq_false (by omega)] <;> rfl
    have c1 : (its.toArray.isEmpty || k == 1) = true := by
      rcases hc with hc | hc
      · subst hc
        cases r
        rfl
      · subst hc
        simp
    exact wpAny_binaryOp_repeat_ref (T := "tuple") (U := "int") (by decide) ⟨_, ho, rfl⟩ (fun s' => typeIs_int s' k t) noFill_tuple_mul F.fills_int_mul F.slot_int_rmul repeat_tuple F.slot_int_index.lookup
      (call_meets F.slot_int_rmul (typeIs_int s k t) F.entry_int_rmul (F.args_int_rmul_2 _ _) (int_rmul_tuple k t l its.toArray n dd sl)
        ⟨ho, rfl, ⟨_, ho, rfl⟩, call_meets F.slot_tuple_mul ⟨_, ho, rfl⟩ F.entry_tuple_mul (F.args_tuple_mul_2 _ _) (tuple_mulS l its.toArray n dd sl k t c0 c1) ⟨ho, ⟨.ref l, H, I, rfl, q0 hc⟩⟩⟩)
  · have hx : xs ≠ [] := fun z => hc (.inl z)
    have hk : k ≠ 1 := fun z => hc (.inr z)
    by_cases hk0 : k ≤ 0
    · cases rx
      obtain ⟨t, rfl⟩ := ry
      obtain ⟨its, r, ⟨⟨cls, dd, data, sl⟩, ho, hc1, n, hd⟩, hs⟩ := I.tuple hT
      simp only at hc1 hd
      subst hc1 hd
      have hi : its.toArray.isEmpty = false := by
        cases r with
        | nil => exact absurd rfl hx
        | cons _ _ => rfl
      have c0 : (decide (k < -(2 ^ 63)) || decide (k ≥ 2 ^ 63)) = false := by
        rw [decide_eq_false (by omega), decide_eq_false (by omega)] <;> rfl
      have c1 : (its.toArray.isEmpty || k == 1) = false := by
        rw [hi, Bool.false_or]
        exact beq_eq_false_iff_ne.mpr hk
      have c2 : (decide (k ≤ 0) || its.toArray.isEmpty) = true := by
        rw [decide_eq_true hk0, Bool.true_or]
      refine wpAny_binaryOp_repeat_ref (T := "tuple") (U := "int") (by decide) ⟨_, ho, rfl⟩ (fun s' => typeIs_int s' k t) noFill_tuple_mul F.fills_int_mul F.slot_int_rmul repeat_tuple F.slot_int_index.lookup
        (call_meets F.slot_int_rmul (typeIs_int s k t) F.entry_int_rmul (F.args_int_rmul_2 _ _) (int_rmul_tuple k t l its.toArray n dd sl)
          ⟨ho, rfl, ⟨_, ho, rfl⟩, call_meets F.slot_tuple_mul ⟨_, ho, rfl⟩ F.entry_tuple_mul (F.args_tuple_mul_2 _ _) (tuple_mul0 l its.toArray n dd sl k t c0 c1 c2) ⟨ho, ?_⟩⟩)
      refine ⟨.ref s.heap.objs.size, _, I.laid (t' := s.toks) (o := .tup []) (fun b ob q => Heap.get?_push_of_some _ q) (Nat.le_refl _) ?_, rfl, q1 hx hk0 _ (I.hok.fresh (Nat.le_refl _))⟩
      exact ⟨Nat.zero_le _, _, .nil, ⟨_, Heap.get?_push_size _ rfl, rfl, _, rfl⟩⟩
    · exact op_repW pins s σ H _ _ v u Q I rx ry ⟨l, k, xs, rfl, rfl, hT, hx, by omega, h2, hz, q2 hx (by omega)⟩
end D2

namespace D2
open PySem PySem.Spec PyProof.Rows L2

/-! ### a def over data -/
def runB (n m : Nat) (F : En → Out) : List PyData → Rs PyData := fun ds => if ds.length = n then (match F (ds.map (fun d => some (B.d d)) ++ List.replicate (m - n) none) with
  | .nx _ => .ok .none
  | .rt d => .ok d
  | .er x _ => .er x
  | _ => .no) else .no
theorem rep_start {K : PySem.W.Frag} {wd : World} {S H : Hp} {N : List Str} {vs : List V} {ds : List PyData} (h : Same S H) (hd : DqAll K S vs ds) {n : Nat} (hn : ds.length = n) :
    Rep K wd H S S (ds.map (fun d => some (B.d d)) ++ List.replicate (N.length - n) none) (L2.start N vs) H := by
  have hl := DqAll.length hd
  refine ⟨.refl h, fun i b e => ?_, fun i j b c hij e1 e2 o1 o2 => ?_, by simp [L2.start, hl, hn]⟩
  · by_cases hi : i < ds.length
    · rw [List.getElem?_append_left (by simpa using hi), List.getElem?_map, List.getElem?_eq_getElem hi] at e
      cases Option.some.inj (Option.some.inj e)
      obtain ⟨v, e2, hv⟩ := DqAll.get' hd (List.getElem?_eq_getElem hi)
      refine ⟨v, ?_, hv⟩
      unfold L2.start
      rw [List.getElem?_append_left (by simp; omega), List.getElem?_map, e2]
      rfl
    · rw [List.getElem?_append_right (by simp; omega)] at e
      have := List.mem_of_getElem? e
      simp at this
  · by_cases hi : i < ds.length
    · rw [List.getElem?_append_left (by simpa using hi), List.getElem?_map, List.getElem?_eq_getElem hi] at e1
      cases Option.some.inj (Option.some.inj e1)
      cases o1
    · rw [List.getElem?_append_right (by simp; omega)] at e1
      have := List.mem_of_getElem? e1
      simp at this
theorem okXH {hot : List Str} {P : Program} {w : World} {K : PySem.W.Frag} {mg : Str → Option Value} {base : Heap} {x qual : Str} {st : Stmt} {f : Addr} {fd : FuncData} {N ps : List Str} {k : Nat} {sp : Sp} (F : Fun K x qual st f fd) (S : FnScope N ps (defScope st)) (len : ∀ vs H Q E, sp vs H Q E → vs.length = ps.length)
    (hbody : ∀ (cdv : Value) (A : Around) (outer : List PySem.Env) (s : Shared) (H : Hp) (vs : List V) (Q : VK) (E : XK), Room k (A.deeper (envOfC qual (defScope st) s.heap.objs.size f cdv)) → sp vs H Q E →
      ∃ t, PSs (cxOf (CXh hot mg P w) P w K mg base N qual (defScope st) f cdv A outer s H E) (defBody st) t ∧ t { nx := fun _ H' => Q .non H', rt := Q } (L2.start N vs) H) : FnOk P w K mg base (CXh hot mg P w) (k + 1) f fd ps sp := by
  obtain ⟨oc, od, kV, doc, pm, an, cdv, ct, osl, rfl, lk, hcd⟩ := F.ex
  exact fn_of lk hcd S len fun A outer s H vs Q E hr hsp => hbody cdv A outer s H vs Q E hr hsp
theorem dfn {hot : List Str} {P : Program} {w : World} {K : PySem.W.Frag} {mg : Str → Option Value} {base : Heap} {x qual : Str} {st : Stmt} {f : Addr} {fd : FuncData} {N ps : List Str} {k : Nat} {Fb : En → Out} (F : Fun K x qual st f fd) (Sc : FnScope N ps (defScope st)) {n m : Nat}
    (body : ∀ (cdv : Value) (A : Around) (outer : List PySem.Env) (s : Shared) (H : Hp) (E : XK) (c : Ct), Room k (A.deeper (envOfC qual (defScope st) s.heap.objs.size f cdv)) →
      TakesH hot (cxOf (CXh hot mg P w) P w K mg base N qual (defScope st) f cdv A outer s H E) c.W →
      PassesOwn (model P w) (cxOf (CXh hot mg P w) P w K mg base N qual (defScope st) f cdv A outer s H E).A (cxOf (CXh hot mg P w) P w K mg base N qual (defScope st) f cdv A outer s H E).env (cxOf (CXh hot mg P w) P w K mg base N qual (defScope st) f cdv A outer s H E).xe → c.wd = w →
      DSs (cxOf (CXh hot mg P w) P w K mg base N qual (defScope st) f cdv A outer s H E) c (defBody st) Fb) (hn : ps.length = n := by rfl) (hm : N.length = m := by rfl) :
    FnOk P w K mg base (CXh hot mg P w) (k + 1) f fd ps (spD K mg (runB n m Fb)) := by
  subst hn hm
  refine okXH F Sc (fun vs H Q E h => ?_) (fun cdv A outer s H vs Q E hr h => ?_)
  · obtain ⟨S, ds, hs, hd, q⟩ := h
    rw [DqAll.length hd]
    unfold runB at q
    by_cases e : ds.length = ps.length
    · exact e
    · rw [if_neg e] at q; exact q.elim
  · obtain ⟨S, ds, hs, hd, q⟩ := h
    unfold runB at q
    by_cases e : ds.length = ps.length
    · rw [if_pos e] at q
      refine ⟨_, body cdv A outer s H E ⟨H, S, fun cls d _ H' => E cls d H', w⟩ hr (takesH_of rfl rfl rfl rfl) (passes_of rfl) rfl, S, _, rep_start hs hd e, ?_⟩
      cases e2 : Fb (ds.map (fun d => some (B.d d)) ++ List.replicate (N.length - ps.length) none) with
      | nx ρ => rw [e2] at q; exact fun S' σ' H' _ r => q S' H' .non r.old .non
      | bk ρ => rw [e2] at q; exact q.elim
      | ct ρ => rw [e2] at q; exact q.elim
      | rt d => rw [e2] at q; exact fun S' H' v o hv => q S' H' v o hv
      | er x ρ => rw [e2] at q; exact fun S' σ' H' C d _ r m ex => q S' H' C d r.old m ex
      | no => rw [e2] at q; exact q.elim
    · rw [if_neg e] at q; exact q.elim
theorem dfn0 {hot : List Str} {P : Program} {w : World} {K : PySem.W.Frag} {mg : Str → Option Value} {base : Heap} {f : Addr} {fd : FuncData} {ps : List Str} : FnOk P w K mg base (CXh hot mg P w) 0 f fd ps (spD K mg fun _ => .no) := by
  have no : ∀ vs H Q E, ¬ spD K mg (fun _ => .no) vs H Q E := fun vs H Q E ⟨_, _, _, _, q⟩ => q
  exact ⟨fun vs H Q E h => absurd h (no vs H Q E), fun A outer s H args us vs Q E _ _ _ _ h => absurd h (no vs H Q E)⟩
/-- another function that says the same where it says anything -/
theorem dfn_imp {hot : List Str} {P : Program} {w : World} {K : PySem.W.Frag} {mg : Str → Option Value} {base : Heap} {k : Nat} {f : Addr} {fd : FuncData} {ps : List Str} {g g' : List PyData → Rs PyData} (F : FnOk P w K mg base (CXh hot mg P w) k f fd ps (spD K mg g)) (h : ∀ ds, g' ds ≠ .no → g ds = g' ds) :
    FnOk P w K mg base (CXh hot mg P w) k f fd ps (spD K mg g') := F.imp fun vs H Q E ⟨S, ds, hs, hd, q⟩ => ⟨S, ds, hs, hd, by
  rw [h ds (fun e => by rw [e] at q; exact q)]
  exact q⟩

/-! ### operators -/
def opAdd : PyData → PyData → Option PyData
  | .int i, .int j => some (.int (i + j))
  | .str x, .str y => if x.length + y.length ≤ 16777216 then some (.str (x ++ y)) else none
  | .tuple xs, .tuple ys => if xs.length + ys.length ≤ 16777216 then some (.tuple (xs ++ ys)) else none
  | .list xs, .list ys => if xs.length + ys.length ≤ 16777216 then some (.list (xs ++ ys)) else none
  | _, _ => none
def opSub : PyData → PyData → Option PyData
  | .int i, .int j => some (.int (i - j))
  | _, _ => none
def mulOk (i j : Int) : Prop := (-18446744073709551616 < i ∧ i < 18446744073709551616) ∨ (-18446744073709551616 < j ∧ j < 18446744073709551616)
instance (i j : Int) : Decidable (mulOk i j) := inferInstanceAs (Decidable (_ ∨ _))
def opMul : PyData → PyData → Option PyData
  | .int i, .int j => if mulOk i j then some (.int (i * j)) else none
  | .list xs, .int k => if k < 9223372036854775808 ∧ -9223372036854775808 ≤ k ∧ xs.length * k.toNat ≤ 16777216 then some (.list (List.replicate k.toNat xs).flatten) else none
  | .tuple xs, .int k => if -1000000 ≤ k ∧ k ≤ 8000 ∧ xs.length ≤ 1000 then some (.tuple (List.replicate k.toNat xs).flatten) else none
  | _, _ => none
def opMod : PyData → PyData → Option PyData
  | .int i, .int j => if 0 < j then some (.int (i % j)) else none
  | _, _ => none
def opDiv : PyData → PyData → Option PyData
  | .int i, .int j => if 0 < j ∧ j < 1073741824 then some (.int (i / j)) else none
  | _, _ => none
def opShr : PyData → PyData → Option PyData
  | .int i, .int j => if 0 ≤ j then some (.int (i / 2 ^ j.toNat)) else none
  | _, _ => none
def opShl : PyData → PyData → Option PyData
  | .int i, .int j => if 0 ≤ j ∧ j ≤ 1000000 ∧ i.natAbs < 18446744073709551616 then some (.int (i * 2 ^ j.toNat)) else none
  | _, _ => none
def opAnd : PyData → PyData → Option PyData
  | .int i, .int j => some (.int (Builtin.bitAnd i j))
  | _, _ => none
def opXor : PyData → PyData → Option PyData
  | .int i, .int j => some (.int (Builtin.bitXor i j))
  | _, _ => none
def opNeg : PyData → Option PyData
  | .int i => some (.int (-i))
  | _ => none
section
variable {K : PySem.W.Frag} {X : Cx}
theorem os_int {g : Int → Int → V} {C : Int → Int → Prop} {op : PyData → PyData → Option PyData} (h : ∀ dx dy d, op dx dy = some d → ∃ i j, dx = .int i ∧ dy = .int j ∧ C i j ∧ ∀ S, Dq K S (g i j) d) : OpS K (rI C g) op := by
  intro S H x y dx dy Q hs hx hy d e q
  obtain ⟨i, j, rfl, rfl, hc, hd⟩ := h _ _ _ e
  cases hx
  cases hy
  exact ⟨i, j, rfl, rfl, hc, q S H _ (.refl hs) (hd S)⟩
theorem os_int0 {g : Int → Int → V} {op : PyData → PyData → Option PyData} (h : ∀ dx dy d, op dx dy = some d → ∃ i j, dx = .int i ∧ dy = .int j ∧ ∀ S, Dq K S (g i j) d) : OpS K (rI0 g) op := by
  intro S H x y dx dy Q hs hx hy d e q
  obtain ⟨i, j, rfl, rfl, hd⟩ := h _ _ _ e
  cases hx
  cases hy
  exact ⟨i, j, rfl, rfl, q S H _ (.refl hs) (hd S)⟩
theorem os_sub : OpS K (rI0 fun i j => .int (i - j)) opSub := os_int0 fun dx dy d e => by
  unfold opSub at e
  split at e <;> cases e
  exact ⟨_, _, rfl, rfl, fun _ => .int _⟩
theorem os_mod : OpS K (rI (fun _ j => 0 < j) fun i j => .int (i % j)) opMod := os_int fun dx dy d e => by
  unfold opMod at e
  split at e
  · split at e <;> cases e
    exact ⟨_, _, rfl, rfl, by assumption, fun _ => .int _⟩
  · cases e
theorem os_div : OpS K (rI CDiv fun i j => .int (i / j)) opDiv := os_int fun dx dy d e => by
  unfold opDiv at e
  split at e
  · split at e <;> cases e
    exact ⟨_, _, rfl, rfl, by assumption, fun _ => .int _⟩
  · cases e
theorem os_shr : OpS K (rI (fun _ j => 0 ≤ j) fun i j => .int (i / 2 ^ j.toNat)) opShr := os_int fun dx dy d e => by
  unfold opShr at e
  split at e
  · split at e <;> cases e
    exact ⟨_, _, rfl, rfl, by assumption, fun _ => .int _⟩
  · cases e
theorem os_shl : OpS K (rI CPow fun i j => .int (i * 2 ^ j.toNat)) opShl := os_int fun dx dy d e => by
  unfold opShl at e
  split at e
  · rename_i i j
    split at e
    · rename_i hc
      cases e
      exact ⟨i, j, rfl, rfl, ⟨hc.1, hc.2.1, hc.2.2⟩, fun _ => .int _⟩
    · cases e
  · cases e
theorem os_and : OpS K (rI0 fun i j => .int (Builtin.bitAnd i j)) opAnd := os_int0 fun dx dy d e => by
  unfold opAnd at e
  split at e <;> cases e
  exact ⟨_, _, rfl, rfl, fun _ => .int _⟩
theorem os_xor : OpS K (rI0 fun i j => .int (Builtin.bitXor i j)) opXor := os_int0 fun dx dy d e => by
  unfold opXor at e
  split at e <;> cases e
  exact ⟨_, _, rfl, rfl, fun _ => .int _⟩
theorem us_neg : UnS K (rU fun i => .int (-i)) opNeg := by
  intro S H x dx Q hs hx d e q
  unfold opNeg at e
  split at e <;> cases e
  cases hx
  exact ⟨_, rfl, q S H _ (.refl hs) (.int _)⟩
/-! lists that are read -/
def rCatL : R2 := fun x y H Q => ∃ l b xs zs, x = .ref l ∧ y = .ref b ∧ Rd H l (.lst xs) ∧ Rd H b (.lst zs) ∧ xs.length + zs.length ≤ sizeLine ∧ ∀ p, H p = none → Q (.ref p) (upd H p (.lst (xs ++ zs)))
theorem op_catL : OpR X (binaryOp .Add) rCatL := by
  intro pins s σ H x y v u Q I rx ry h
  obtain ⟨l, b, xs, zs, rfl, rfl, hH, hB, hz, q⟩ := h
  cases rx
  cases ry
  obtain ⟨z, its, n, r, e⟩ := hH.ok I.hok
  obtain ⟨z2, its2, n2, r2, e2⟩ := hB.ok I.hok
  have hl := r.length
  have hl2 := r2.length
  refine PySem.P.add_list e e2 ?_ (by rw [List.size_toArray, List.size_toArray]; omega)
  have ea : its.toArray ++ its2.toArray = (its ++ its2).toArray := by simp
  rw [ea]
  exact ⟨.ref _, _, I.lnew (t' := s.toks) (r.append r2) (by rw [List.length_append]; omega), rfl, q _ I.fresh⟩
def rAddD (K : PySem.W.Frag) : R2 := fun x y H Q => (rI0 (fun i j => .int (i + j)) x y H Q) ∨ ((∃ i j, x = .str i ∧ y = .str j ∧ i.length + j.length ≤ sizeLine ∧ Q (.str (i ++ j)) H) ∨ (rCatA K x y H Q ∨ rCatL x y H Q))
theorem or_add : OpR X (binaryOp .Add) (rAddD X.K) := OpR.or op_add (OpR.or op_add_str (OpR.or op_catA op_catL))
theorem os_add : OpS K (rAddD K) opAdd := by
  intro S H x y dx dy Q hs hx hy d e q
  unfold opAdd at e
  split at e
  · cases e; cases hx; cases hy
    exact .inl ⟨_, _, rfl, rfl, q S H _ (.refl hs) (.int _)⟩
  · split at e <;> cases e
    rename_i hl
    cases hx; cases hy
    exact .inr (.inl ⟨_, _, rfl, rfl, by rw [sizeLine_eq]; exact hl, q S H _ (.refl hs) (.str _)⟩)
  · rename_i xs ys
    split at e <;> cases e
    rename_i hl
    cases hx with
    | tup h1 h2 =>
      cases hy with
      | tup h3 h4 =>
        refine .inr (.inr (.inl ⟨_, _, _, _, rfl, rfl, sqT_mono hs h1, sqT_mono hs h3, by rw [DqAll.length h2, DqAll.length h4, sizeLine_eq]; exact hl, fun e0 => ?_, fun _ e0 => ?_, fun _ _ p hp => ?_⟩))
        · subst e0
          cases h2
          exact q S H _ (.refl hs) (.tup h3 h4)
        · subst e0
          cases h4
          exact q S H _ (.refl hs) (.tup h1 (by simpa using h2))
        · exact q _ _ _ (.new hs hp) (.tup (.of upd_same) (dps_mono (same_upd (hs.free hp)) _ _ (DqAll.append h2 h4)))
  · rename_i xs ys
    split at e <;> cases e
    rename_i hl
    cases hx with
    | lst h1 h2 =>
      cases hy with
      | lst h3 h4 =>
        exact .inr (.inr (.inr ⟨_, _, _, _, rfl, rfl, rd_mono hs h1, rd_mono hs h3, by rw [DqAll.length h2, DqAll.length h4, sizeLine_eq]; exact hl, fun p hp =>
          q _ _ _ (.new hs hp) (.lst (.of upd_same) (dps_mono (same_upd (hs.free hp)) _ _ (DqAll.append h2 h4)))⟩))
  · cases e
def rRepL : R2 := fun x y H Q => ∃ l k xs, x = .ref l ∧ y = .int k ∧ Rd H l (.lst xs) ∧ -(2 ^ 63) ≤ k ∧ k < 2 ^ 63 ∧ xs.length * k.toNat ≤ sizeLine ∧
  ∀ p, H p = none → Q (.ref p) (upd H p (.lst (List.replicate k.toNat xs).flatten))
theorem op_repL : OpR X (binaryOp .Mult) rRepL := by
  intro pins s σ H x y v u Q I rx ry h
  obtain ⟨l, k, xs, rfl, rfl, hH, h1, h2, hz, q⟩ := h
  cases rx
  obtain ⟨t, rfl⟩ := ry
  obtain ⟨z, its, n, r, e⟩ := hH.ok I.hok
  have hl := r.length
  have hlen : its.toArray.size * k.toNat ≤ sizeLine := by rw [List.size_toArray, ← hl]; exact hz
  have hcap : ¬ its.toArray.size * k.toNat > (2 ^ 63 - 1) / 8 := by
    have : (sizeLine : Nat) ≤ (2 ^ 63 - 1) / 8 := by decide
    omega
  have hfit : ¬ (!Builtin.List.listFitsIndex k) = true := by
    rw [fitsIndex_both h1 h2]
    exact Bool.false_ne_true
  have hlong : ¬ Builtin.List.listTooLong (its.toArray.size * k.toNat) = true := by
    rw [notLongL hlen]
    exact Bool.false_ne_true
  have hnew : List.foldl (fun x1 x2 => x1 ++ x2) #[] (List.replicate (if its.toArray.isEmpty = true then 0 else k.toNat) its.toArray) = (List.replicate k.toNat its).flatten.toArray := by
    rw [size_rep]
    cases its with
    | nil => simp
    | cons a r' => rw [if_neg (by simp)]
  refine wpAny_binaryOp_repeat_ref (T := "list") (U := "int") (by decide) ⟨_, e, rfl⟩ (fun s' => typeIs_int s' k t) noFill_list_mul F.fills_int_mul F.slot_int_rmul repeat_list F.slot_int_index.lookup
    (call_meets F.slot_int_rmul (typeIs_int s k t) F.entry_int_rmul (F.args_int_rmul_2 _ _) (int___rmul___int_list k t l its.toArray n)
      ⟨e, rfl, ⟨_, e, rfl⟩, call_meets F.slot_list_mul ⟨_, e, rfl⟩ F.entry_list_mul (F.args_list_mul_2 _ _) (AutoListH.list___mul___list_int_3 l its.toArray n k t hfit hcap hlong) ⟨e, ?_⟩⟩)
  rw [hnew]
  exact ⟨.ref _, _, I.lnew (t' := s.toks) (r.rep k.toNat) (by rw [PyProof.Rows.lm_len_rep_flat, Nat.mul_comm]; exact hz), rfl, q _ I.fresh⟩
def rMulD (K : PySem.W.Frag) : R2 := fun x y H Q => (rI CMul (fun i j => .int (i * j)) x y H Q) ∨ (rRepL x y H Q ∨ rRepA K x y H Q)
theorem or_mul : OpR X (binaryOp .Mult) (rMulD X.K) := OpR.or op_mul (OpR.or op_repL op_repA)
theorem os_mul : OpS K (rMulD K) opMul := by
  intro S H x y dx dy Q hs hx hy d e q
  unfold opMul at e
  split at e
  · split at e <;> cases e
    rename_i hl
    cases hx; cases hy
    exact .inl ⟨_, _, rfl, rfl, hl, q S H _ (.refl hs) (.int _)⟩
  · rename_i xs k
    split at e <;> cases e
    rename_i hl
    cases hy
    cases hx with
    | lst h1 h2 =>
      exact .inr (.inl ⟨_, _, _, rfl, rfl, rd_mono hs h1, hl.2.1, hl.1, by rw [DqAll.length h2, sizeLine_eq]; exact hl.2.2, fun p hp =>
        q _ _ _ (.new hs hp) (.lst (.of upd_same) (dps_mono (same_upd (hs.free hp)) _ _ (DqAll.rep h2 _)))⟩)
  · rename_i xs k
    split at e <;> cases e
    rename_i hl
    cases hy
    cases hx with
    | tup h1 h2 =>
      refine .inr (.inr ⟨_, _, _, rfl, rfl, sqT_mono hs h1, hl.1, hl.2.1, by rw [DqAll.length h2]; exact hl.2.2, fun z => ?_, fun _ z p hp => ?_, fun _ _ p hp =>
        q _ _ _ (.new hs hp) (.tup (.of upd_same) (dps_mono (same_upd (hs.free hp)) _ _ (DqAll.rep h2 _)))⟩)
      · refine q S H _ (.refl hs) (.tup h1 ?_)
        rcases z with z | z
        · subst z
          cases h2
          simpa using DqAll.nil
        · subst z
          simpa using h2
      · refine q _ _ _ (.new hs hp) (.tup (.of upd_same) ?_)
        have e0 : k.toNat = 0 := by omega
        rw [e0]
        exact .nil
  · cases e
/-! comparisons -/
def opLt : PyData → PyData → Option PyData
  | .int i, .int j => some (.bool (decide (i < j)))
  | .str i, .str j => some (.bool (decide (i.cps.toList < j.cps.toList)))
  | _, _ => none
def opLe : PyData → PyData → Option PyData
  | .int i, .int j => some (.bool (decide (i ≤ j)))
  | .str i, .str j => some (.bool (!decide (j.cps.toList < i.cps.toList)))
  | _, _ => none
def opGt : PyData → PyData → Option PyData
  | .int i, .int j => some (.bool (decide (j < i)))
  | _, _ => none
def opGe : PyData → PyData → Option PyData
  | .int i, .int j => some (.bool (decide (j ≤ i)))
  | _, _ => none
def opEq : PyData → PyData → Option PyData
  | .int i, .int j => some (.bool (decide (i = j)))
  | .str i, .str j => some (.bool (decide (i = j)))
  | .bool i, .bool j => some (.bool (decide (i = j)))
  | x, y => if SeqAt.shaped x = true ∧ SeqAt.shaped y = true then some (.bool (PyData.eqv x y)) else none
def bnot : PyData → PyData
  | .bool b => .bool (!b)
  | x => x
def opNe (x y : PyData) : Option PyData := (opEq x y).map bnot
def isNone : PyData → Bool
  | .none => true
  | _ => false
theorem os_gt : OpS K (rI0 fun i j => .bl (decide (j < i))) opGt := os_int0 fun dx dy d e => by
  unfold opGt at e
  split at e <;> cases e
  exact ⟨_, _, rfl, rfl, fun _ => .bl _⟩
theorem os_ge : OpS K (rI0 fun i j => .bl (decide (j ≤ i))) opGe := os_int0 fun dx dy d e => by
  unfold opGe at e
  split at e <;> cases e
  exact ⟨_, _, rfl, rfl, fun _ => .bl _⟩
def rLtD : R2 := fun x y H Q => (rI0 (fun i j => .bl (decide (i < j))) x y H Q) ∨ (∃ i j, x = .str i ∧ y = .str j ∧ Q (.bl (decide (i.cps.toList < j.cps.toList))) H)
theorem or_lt : OpR X (compareOp .Lt) rLtD := OpR.or op_lt op_lt_str
theorem os_lt : OpS K rLtD opLt := by
  intro S H x y dx dy Q hs hx hy d e q
  unfold opLt at e
  split at e <;> cases e <;> cases hx <;> cases hy
  · exact .inl ⟨_, _, rfl, rfl, q S H _ (.refl hs) (.bl _)⟩
  · exact .inr ⟨_, _, rfl, rfl, q S H _ (.refl hs) (.bl _)⟩
def rLeD : R2 := fun x y H Q => (rI0 (fun i j => .bl (decide (i ≤ j))) x y H Q) ∨ (∃ i j, x = .str i ∧ y = .str j ∧ Q (.bl (!decide (j.cps.toList < i.cps.toList))) H)
theorem or_le : OpR X (compareOp .LtE) rLeD := OpR.or op_le op_le_str
theorem os_le : OpS K rLeD opLe := by
  intro S H x y dx dy Q hs hx hy d e q
  unfold opLe at e
  split at e <;> cases e <;> cases hx <;> cases hy
  · exact .inl ⟨_, _, rfl, rfl, q S H _ (.refl hs) (.bl _)⟩
  · exact .inr ⟨_, _, rfl, rfl, q S H _ (.refl hs) (.bl _)⟩
def rEqq (K : PySem.W.Frag) : R2 := fun x y H Q => rEq x y H Q ∨ rEqD K x y H Q
theorem or_eq (hu : X.A.units + 64 < cLine) : OpR X (compareOp .Eq) (rEqq X.K) := OpR.or op_eq (op_eqD hu)
theorem dec_i {i j : Int} : decide (V.int i = V.int j) = decide (i = j) := by rw [dec_int]; exact Bool.beq_eq_decide_eq i j
theorem dec_s {i j : Str} : decide (V.str i = V.str j) = decide (i = j) := by rw [dec_str]; exact Bool.beq_eq_decide_eq i j
theorem dec_b {i j : Bool} : decide (V.bl i = V.bl j) = decide (i = j) := by rw [dec_bl]; exact Bool.beq_eq_decide_eq i j
theorem lay_of {d : PyData} (h : SeqAt.shaped d = true) : d.canLay0 = true := by
  unfold SeqAt.shaped at h
  simp only [Bool.and_eq_true] at h
  exact h.1
theorem os_eq : OpS K (rEqq K) opEq := by
  intro S H x y dx dy Q hs hx hy d e q
  unfold opEq at e
  split at e
  · cases e; cases hx; cases hy
    exact .inl ⟨rfl, by rw [dec_i]; exact q S H _ (.refl hs) (.bl _)⟩
  · cases e; cases hx; cases hy
    exact .inl ⟨rfl, by rw [dec_s]; exact q S H _ (.refl hs) (.bl _)⟩
  · cases e; cases hx; cases hy
    exact .inl ⟨rfl, by rw [dec_b]; exact q S H _ (.refl hs) (.bl _)⟩
  · split at e <;> cases e
    rename_i hl
    exact .inr ⟨dx, dy, dq_dp _ _ (dp_mono hs _ _ hx) (lay_of hl.1), dq_dp _ _ (dp_mono hs _ _ hy) (lay_of hl.2), hl.1, hl.2, q S H _ (.refl hs) (.bl _)⟩
def rNeq (K : PySem.W.Frag) : R2 := fun x y H Q => rNe x y H Q ∨ rNeD K x y H Q
theorem or_ne (hu : X.A.units + 64 < cLine) : OpR X (compareOp .NotEq) (rNeq X.K) := OpR.or op_ne (op_neD hu)
theorem os_ne : OpS K (rNeq K) opNe := by
  intro S H x y dx dy Q hs hx hy d e q
  unfold opNe opEq at e
  split at e
  · cases e; cases hx; cases hy
    exact .inl ⟨rfl, by rw [dec_i]; exact q S H _ (.refl hs) (.bl _)⟩
  · cases e; cases hx; cases hy
    exact .inl ⟨rfl, by rw [dec_s]; exact q S H _ (.refl hs) (.bl _)⟩
  · cases e; cases hx; cases hy
    exact .inl ⟨rfl, by rw [dec_b]; exact q S H _ (.refl hs) (.bl _)⟩
  · split at e <;> cases e
    rename_i hl
    exact .inr ⟨dx, dy, dq_dp _ _ (dp_mono hs _ _ hx) (lay_of hl.1), dq_dp _ _ (dp_mono hs _ _ hy) (lay_of hl.2), hl.1, hl.2, q S H _ (.refl hs) (.bl _)⟩
def eIsN (f : En → Rs PyData) : En → Rs PyData := fun ρ => (f ρ).bind fun x => .ok (.bool (isNone x))
def eNotN (f : En → Rs PyData) : En → Rs PyData := fun ρ => (f ρ).bind fun x => .ok (.bool (!isNone x))
theorem isN_of {S : Hp} {v : V} {d : PyData} (h : Dq K S v d) : decide (v = .non) = isNone d := by
  cases h <;> rfl
variable {c : Ct} {a : Expr} {f : En → Rs PyData} {pos : Pos}
theorem tIsN_of {σ : St} {H : Hp} {Q : VK} (h : tE X.K X.mg c (eIsN f) σ H Q) : tIsN (tE X.K X.mg c f) σ H Q := by
  obtain ⟨S, ρ, rp, q⟩ := h
  exact ⟨S, ρ, rp, Go.seq q fun S1 H1 x dx o1 hx q1 => by rw [isN_of hx]; exact Go.now (r' := PyData.bool (isNone dx)) q1 o1.sub (.bl _)⟩
theorem tNotN_of {σ : St} {H : Hp} {Q : VK} (h : tE X.K X.mg c (eNotN f) σ H Q) : tNotN (tE X.K X.mg c f) σ H Q := by
  obtain ⟨S, ρ, rp, q⟩ := h
  exact ⟨S, ρ, rp, Go.seq q fun S1 H1 x dx o1 hx q1 => by rw [isN_of hx]; exact Go.now (r' := PyData.bool (!isNone dx)) q1 o1.sub (.bl _)⟩
theorem de_isN {j pos'} (ha : DE X c a f) : DE X c (.Compare a [.Is] [.Constant .none j pos'] pos) (eIsN f) := pe_imp (pe_cmp (pc_isN ha) rfl) fun _ _ _ q => tIsN_of q
theorem de_notN {j pos'} (ha : DE X c a f) : DE X c (.Compare a [.IsNot] [.Constant .none j pos'] pos) (eNotN f) := pe_imp (pe_cmp (pc_notN ha) rfl) fun _ _ _ q => tNotN_of q
theorem dt_isN {j pos'} (ha : DE X c a f) : DT X c (.Compare a [.Is] [.Constant .none j pos'] pos) (bOf (eIsN f)) := pt_imp (pt_cmp (pc_isN ha) rfl) fun _ _ _ q => tTest_of (fun _ q => tIsN_of q) q
theorem dt_notN {j pos'} (ha : DE X c a f) : DT X c (.Compare a [.IsNot] [.Constant .none j pos'] pos) (bOf (eNotN f)) := pt_imp (pt_cmp (pc_notN ha) rfl) fun _ _ _ q => tTest_of (fun _ q => tNotN_of q) q
/-! items, slices -/
def opIx : PyData → PyData → Option PyData
  | .tuple xs, .int i => atI xs i
  | .list xs, .int i => atI xs i
  | .dict [(.none, .list xs)], .int i => atI xs i
  | .str z, .int i => if z.length ≤ 16777216 then (atI z.cps.toList i).map fun c => .str ⟨#[c]⟩ else none
  | _, _ => none
theorem atI_dq {S : Hp} {vs : List V} {ds : List PyData} {i : Int} {d : PyData} (h : DqAll K S vs ds) (e : atI ds i = some d) : ∃ v, atI vs i = some v ∧ Dq K S v d := by
  unfold atI at e ⊢
  rw [DqAll.length h]
  cases e2 : ixN ds.length i with
  | none => rw [e2] at e; cases e
  | some j => rw [e2] at e; exact DqAll.get' h e
theorem os_ix : OpS K (rIx K) opIx := by
  intro S H x y dx dy Q hs hx hy d e q
  unfold opIx at e
  split at e
  · cases hy
    cases hx with
    | tup h1 h2 =>
      obtain ⟨v, e1, hv⟩ := atI_dq h2 e
      exact .inr (.inl ⟨_, _, _, _, rfl, rfl, sqT_mono hs h1, e1, q S H _ (.refl hs) hv⟩)
  · cases hy
    cases hx with
    | lst h1 h2 =>
      obtain ⟨v, e1, hv⟩ := atI_dq h2 e
      exact .inl ⟨_, _, _, _, rfl, rfl, .inl (rd_mono hs h1), e1, q S H _ (.refl hs) hv⟩
  · cases hy
    cases hx with
    | dct h1 h2 h3 => exact (dct_ne h3).elim
    | scr h1 h2 =>
      obtain ⟨v, e1, hv⟩ := atI_dq h2 e
      exact .inl ⟨_, _, _, _, rfl, rfl, hs.seq h1, e1, q S H _ (.refl hs) hv⟩
  · rename_i z i
    cases hy; cases hx
    split at e
    · rename_i hl
      cases e2 : atI z.cps.toList i with
      | none => rw [e2] at e; cases e
      | some c =>
        rw [e2] at e; cases e
        exact .inr (.inr ⟨_, _, _, rfl, rfl, by rw [sizeLine_eq]; exact hl, e2, q S H _ (.refl hs) (.str _)⟩)
    · cases e
  · cases e
def cutD {α : Type} (xs : List α) (lo hi : Option Int) : List α := (xs.drop (HT.sIx xs.length 0 lo)).take (HT.sIx xs.length xs.length hi - HT.sIx xs.length 0 lo)
def opSl : PyData → Option Int → Option Int → Option PyData
  | .tuple xs, lo, hi => some (.tuple (cutD xs lo hi))
  | .list xs, lo, hi => some (.list (cutD xs lo hi))
  | .dict [(.none, .list xs)], lo, hi => some (.list (cutD xs lo hi))
  | .str z, lo, hi => if z.length ≤ 16777216 then some (.str (cutS z lo hi)) else none
  | _, _, _ => none
theorem cut_dq {S : Hp} {vs : List V} {ds : List PyData} {lo hi : Option Int} (h : DqAll K S vs ds) : DqAll K S (cutV vs lo hi) (cutD ds lo hi) := by
  unfold cutV cutD
  rw [DqAll.length h]
  exact DqAll.take _ (DqAll.drop _ h)
def rSlD (K : PySem.W.Frag) : V → Option Int → Option Int → Hp → VK → Prop := fun x lo hi H Q => rSlA K x lo hi H Q ∨ (rSlL K x lo hi H Q ∨ rSlS x lo hi H Q)
theorem or_sl : SlR X (rSlD X.K) := SlR.or sl_tupA (SlR.or sl_list sl_str)
theorem cutD_whole {α : Type} {xs : List α} {lo hi : Option Int} (h : HT.sIx xs.length 0 lo = 0 ∧ HT.sIx xs.length xs.length hi = xs.length) : cutD xs lo hi = xs := by
  unfold cutD
  rw [h.1, h.2, List.drop_zero, Nat.sub_zero, List.take_length]
theorem os_sl : SlS K (rSlD K) opSl := by
  intro S H x dx lo hi Q hs hx d e q
  unfold opSl at e
  split at e
  · cases e
    cases hx with
    | tup h1 h2 =>
      refine .inl ⟨_, _, rfl, sqT_mono hs h1, fun hw => ?_, fun _ p hp => ?_⟩
      · refine q S H _ (.refl hs) ?_
        rw [cutD_whole (by rw [← DqAll.length h2]; exact hw)]
        exact .tup h1 h2
      · exact q _ _ _ (.new hs hp) (.tup (.of upd_same) (dps_mono (same_upd (hs.free hp)) _ _ (cut_dq h2)))
  · cases e
    cases hx with
    | lst h1 h2 =>
      exact .inr (.inl ⟨_, _, rfl, .inl (rd_mono hs h1), fun p hp => q _ _ _ (.new hs hp) (.lst (.of upd_same) (dps_mono (same_upd (hs.free hp)) _ _ (cut_dq h2)))⟩)
  · cases e
    cases hx with
    | dct h1 h2 h3 => exact (dct_ne h3).elim
    | scr h1 h2 =>
      exact .inr (.inl ⟨_, _, rfl, hs.seq h1, fun p hp => q _ _ _ (.new hs hp) (.lst (.of upd_same) (dps_mono (same_upd (hs.free hp)) _ _ (cut_dq h2)))⟩)
  · split at e <;> cases e
    rename_i hl
    cases hx
    exact .inr (.inr ⟨_, rfl, by rw [sizeLine_eq]; exact hl, q S H _ (.refl hs) (.str _)⟩)
  · cases e
/-! built-in calls -/
def fLen : List PyData → Option PyData
  | [.tuple xs] => some (.int xs.length)
  | [.list xs] => some (.int xs.length)
  | [.dict [(.none, .list xs)]] => some (.int xs.length)
  | [.str z] => if z.length ≤ 16777216 then some (.int z.length) else none
  | _ => none
theorem dqs1 {S : Hp} {vs : List V} {d : PyData} (h : DqAll K S vs [d]) : ∃ v, vs = [v] ∧ Dq K S v d := by
  cases h with
  | cons a b => cases b; exact ⟨_, rfl, a⟩
theorem dqs2 {S : Hp} {vs : List V} {d e : PyData} (h : DqAll K S vs [d, e]) : ∃ v u, vs = [v, u] ∧ Dq K S v d ∧ Dq K S u e := by
  cases h with
  | cons a b =>
    obtain ⟨u, rfl, hu⟩ := dqs1 b
    exact ⟨_, u, rfl, a, hu⟩
theorem cs_len : CallS K (fun xs H Q => ∃ x n, xs = [x] ∧ LenV K x H n ∧ Q (.int n) H) fLen := by
  intro S H vs ds Q hs hv d e q
  unfold fLen at e
  split at e
  · cases e
    obtain ⟨v, rfl, hx⟩ := dqs1 hv
    cases hx with
    | tup h1 h2 => exact ⟨_, _, rfl, .inr ⟨_, sqT_mono hs h1, rfl⟩, by rw [DqAll.length h2]; exact q S H _ (.refl hs) (.int _)⟩
  · cases e
    obtain ⟨v, rfl, hx⟩ := dqs1 hv
    cases hx with
    | lst h1 h2 => exact ⟨_, _, rfl, .inl ⟨_, .inl (rd_mono hs h1), rfl⟩, by rw [DqAll.length h2]; exact q S H _ (.refl hs) (.int _)⟩
  · cases e
    obtain ⟨v, rfl, hx⟩ := dqs1 hv
    cases hx with
    | dct h1 h2 h3 => exact (dct_ne h3).elim
    | scr h1 h2 => exact ⟨_, _, rfl, .inl ⟨_, hs.seq h1, rfl⟩, by rw [DqAll.length h2]; exact q S H _ (.refl hs) (.int _)⟩
  · split at e <;> cases e
    rename_i hl
    obtain ⟨v, rfl, hx⟩ := dqs1 hv
    cases hx
    exact ⟨_, _, rfl, ⟨by rw [sizeLine_eq]; exact hl, rfl⟩, q S H _ (.refl hs) (.int _)⟩
  · cases e
def fMax : List PyData → Option PyData
  | [.int i, .int j] => some (.int (if j > i then j else i))
  | _ => none
def fMin : List PyData → Option PyData
  | [.int i, .int j] => some (.int (if j < i then j else i))
  | _ => none
theorem cs_max : CallS K (fun xs H Q => ∃ i j, xs = [.int i, .int j] ∧ Q (.int (if j > i then j else i)) H) fMax := by
  intro S H vs ds Q hs hv d e q
  unfold fMax at e
  split at e <;> cases e
  obtain ⟨v, u, rfl, h1, h2⟩ := dqs2 hv
  cases h1; cases h2
  exact ⟨_, _, rfl, q S H _ (.refl hs) (.int _)⟩
theorem cs_min : CallS K (fun xs H Q => ∃ i j, xs = [.int i, .int j] ∧ Q (.int (if j < i then j else i)) H) fMin := by
  intro S H vs ds Q hs hv d e q
  unfold fMin at e
  split at e <;> cases e
  obtain ⟨v, u, rfl, h1, h2⟩ := dqs2 hv
  cases h1; cases h2
  exact ⟨_, _, rfl, q S H _ (.refl hs) (.int _)⟩
def fTuple : List PyData → Option PyData
  | [.list xs] => some (.tuple xs)
  | [.tuple xs] => some (.tuple xs)
  | _ => none
theorem cs_tuple : CallS K (fun xs H Q => ∃ p ys, xs = [.ref p] ∧ ((SqL K H p ys ∧ ∀ l, H l = none → Q (.ref l) (upd H l (.tup ys))) ∨ (SqT K H p ys ∧ Q (.ref p) H))) fTuple := by
  intro S H vs ds Q hs hv d e q
  unfold fTuple at e
  split at e <;> cases e <;> obtain ⟨v, rfl, hx⟩ := dqs1 hv
  · cases hx with
    | lst h1 h2 => exact ⟨_, _, rfl, .inl ⟨.inl (rd_mono hs h1), fun p hp => q _ _ _ (.new hs hp) (.tup (.of upd_same) (dps_mono (same_upd (hs.free hp)) _ _ h2))⟩⟩
  · cases hx with
    | tup h1 h2 => exact ⟨_, _, rfl, .inr ⟨sqT_mono hs h1, q S H _ (.refl hs) (.tup h1 h2)⟩⟩
def fList : List PyData → Option PyData
  | [.list xs] => some (.list xs)
  | [.tuple xs] => some (.list xs)
  | _ => none
theorem cs_list : CallS K (fun xs H Q => ∃ p ys, xs = [.ref p] ∧ (SqL K H p ys ∨ SqT K H p ys) ∧ ∀ l, H l = none → Q (.ref l) (upd H l (.lst ys))) fList := by
  intro S H vs ds Q hs hv d e q
  unfold fList at e
  split at e <;> cases e <;> obtain ⟨v, rfl, hx⟩ := dqs1 hv
  · cases hx with
    | lst h1 h2 => exact ⟨_, _, rfl, .inl (.inl (rd_mono hs h1)), fun p hp => q _ _ _ (.new hs hp) (.lst (.of upd_same) (dps_mono (same_upd (hs.free hp)) _ _ h2))⟩
  · cases hx with
    | tup h1 h2 => exact ⟨_, _, rfl, .inr (sqT_mono hs h1), fun p hp => q _ _ _ (.new hs hp) (.lst (.of upd_same) (dps_mono (same_upd (hs.free hp)) _ _ h2))⟩
def bools : List PyData → Option (List Bool)
  | [] => some []
  | .bool b :: r => (bools r).map (b :: ·)
  | _ => none
theorem bools_dq {S : Hp} : ∀ {ds : List PyData} {vs : List V} {bs : List Bool}, DqAll K S vs ds → bools ds = some bs → vs = bs.map V.bl
  | [], _, _, h, e => by cases h; cases e; rfl
  | d :: ds, _, bs, h, e => by
    cases h with
    | cons a b =>
      cases d with
      | bool k =>
        unfold bools at e
        cases e2 : bools ds with
        | none => rw [e2] at e; cases e
        | some r => rw [e2] at e; cases e; cases a; rw [bools_dq b e2]; rfl
      | _ => cases e
def fAll : List PyData → Option PyData
  | [.list xs] => (bools xs).map fun bs => .bool (bs.all id)
  | _ => none
def fAny : List PyData → Option PyData
  | [.list xs] => (bools xs).map fun bs => .bool (bs.any id)
  | _ => none
theorem cs_all : CallS K (rAll K) fAll := by
  intro S H vs ds Q hs hv d e q
  unfold fAll at e
  split at e
  · rename_i xs
    cases e2 : bools xs with
    | none => rw [e2] at e; cases e
    | some bs =>
      rw [e2] at e; cases e
      obtain ⟨v, rfl, hx⟩ := dqs1 hv
      cases hx with
      | lst h1 h2 => exact ⟨_, bs, rfl, .inl (by rw [← bools_dq h2 e2]; exact rd_mono hs h1), q S H _ (.refl hs) (.bl _)⟩
  · cases e
theorem cs_any : CallS K (rAny K) fAny := by
  intro S H vs ds Q hs hv d e q
  unfold fAny at e
  split at e
  · rename_i xs
    cases e2 : bools xs with
    | none => rw [e2] at e; cases e
    | some bs =>
      rw [e2] at e; cases e
      obtain ⟨v, rfl, hx⟩ := dqs1 hv
      cases hx with
      | lst h1 h2 => exact ⟨_, bs, rfl, .inl (by rw [← bools_dq h2 e2]; exact rd_mono hs h1), q S H _ (.refl hs) (.bl _)⟩
  · cases e
/-! isinstance of a built-in class -/
def tyN : PyData → String
  | .none => "NoneType"
  | .bool _ => "bool"
  | .int _ => "int"
  | .str _ => "str"
  | .list _ => "list"
  | .tuple _ => "tuple"
  | .dict [(.none, .list _)] => "list"
  | .dict _ => "dict"
def isTy (T : String) (d : PyData) : Bool := tyN d == T || (T == "int" && tyN d == "bool")
theorem tyX_of {S H : Hp} {v : V} {d : PyData} (hs : Same S H) (h : Dq K S v d) : TyX K H v (.type (tyN d)) := by
  cases h with
  | non => exact .base .non
  | bl b => exact .base (.bl b)
  | int b => exact .base (.int b)
  | str b => exact .base (.str b)
  | lst h1 h2 =>
    rcases h1 with h1 | ⟨o, h1⟩
    · exact .base (.lst (hs _ _ h1))
    · exact .base (.frz (hs _ _ h1))
  | tup h1 h2 =>
    rcases sqT_mono hs h1 with (h1 | ⟨o, h1⟩) | ⟨o, its, n, hk, hc, _⟩
    · exact .base (.tup h1)
    · exact .fTuple h1
    · exact .kTuple hk hc
  | scr h1 h2 =>
    rcases hs.seq h1 with (h1 | ⟨o, h1⟩) | ⟨o, its, n, hk, hc, _⟩
    · exact .base (.lst h1)
    · exact .base (.frz h1)
    · exact .kList hk hc
  | dct h1 h2 h3 =>
    rename_i kvs
    have : tyN (.dict kvs) = "dict" := by
      unfold tyN
      split <;> first | rfl | (rename_i z; cases z; exact (dct_ne h3).elim) | (rename_i z; cases z)
    rw [this]
    exact .fDict (hs _ _ h1)
def eIsi (T : String) (f : En → Rs PyData) : En → Rs PyData := fun ρ => (f ρ).bind fun x => .ok (.bool (isTy T x))
theorem de_isi {T : String} {x : Str} {p p2 : Pos} (hg : Gl X "isinstance") (hm : X.mg "isinstance" = none) (hg2 : Gl X x) (hm2 : X.mg x = none) (hv2 : bootBuiltins x = some (.type T)) (hk : ∀ d, kitB (tyN d) T = some (isTy T d)) (ha : DE X c a f) (hn2 : x ≠ "__name__" := by decide) (hdb2 : (x == ("__debug__" : Str)) = false := by decide)
    (hv : bootBuiltins "isinstance" = some (.builtin "isinstance") := by decide +kernel)
    (he : starEach (a :: [.Name x p2]) X.env = (false, eval a X.env) :: starEach [.Name x p2] X.env := by rfl) (hpl : (backTo pos (starEach [.Name x p2] X.env)).any (·.1) = false := by rfl) (he2 : starEach [.Name x p2] X.env = (false, eval (.Name x p2) X.env) :: starEach [] X.env := by rfl) :
    DE X c (.Call (.Name "isinstance" p) [a, .Name x p2] [] pos) (eIsi T f) := by
  refine pe_imp (pe_callB call_isi hg hm hv (pa_cons ha (pa_cons (pe_bltn (v := .ty T) hg2 hm2 hv2 rfl hn2 hdb2) pa_nil he2) he) (by decide) (by decide) he hpl) fun σ H Q ⟨S, ρ, rp, q⟩ => ?_
  exact ⟨S, ρ, rp, Go.seq q fun S1 H1 x dx o1 hx q1 => ⟨x, .ty T, _, _, _, rfl, .ty T, tyX_of o1.sub hx, kit_ty (hk dx), Go.now (r' := PyData.bool (isTy T dx)) q1 o1.sub (.bl _)⟩⟩
theorem tyN_mem (d : PyData) : tyN d ∈ ["NoneType", "bool", "int", "str", "list", "tuple", "dict"] := by unfold tyN; split <;> simp
theorem kB_of {T : String} (h : ∀ s ∈ ["NoneType", "bool", "int", "str", "list", "tuple", "dict"], kitB s T = some (s == T || (T == "int" && s == "bool"))) (d : PyData) : kitB (tyN d) T = some (isTy T d) := h _ (tyN_mem d)
theorem kB_int : ∀ d, kitB (tyN d) "int" = some (isTy "int" d) := kB_of (by decide +kernel)
theorem kB_bool : ∀ d, kitB (tyN d) "bool" = some (isTy "bool" d) := kB_of (by decide +kernel)
theorem kB_str : ∀ d, kitB (tyN d) "str" = some (isTy "str" d) := kB_of (by decide +kernel)
theorem kB_tuple : ∀ d, kitB (tyN d) "tuple" = some (isTy "tuple" d) := kB_of (by decide +kernel)
theorem kB_list : ∀ d, kitB (tyN d) "list" = some (isTy "list" d) := kB_of (by decide +kernel)
end
end D2

namespace D2
open PySem PySem.Spec PyProof.Rows L2
def zipD (xs ys : List PyData) : List PyData := List.zipWith (fun x y => PyData.tuple [x, y]) xs ys
def zips : List PyData → Rs (List PyData)
  | [.tuple xs, .tuple ys] => .ok (zipD xs ys)
  | [.list xs, .list ys] => .ok (zipD xs ys)
  | _ => .no
def enumFrom : Nat → List PyData → List PyData
  | _, [] => []
  | n, x :: xs => .tuple [.int n, x] :: enumFrom (n + 1) xs
def enums : List PyData → Rs (List PyData)
  | [.list xs] => .ok (enumFrom 0 xs)
  | _ => .no
section
variable {K : PySem.W.Frag} {H0 S S' H : Hp} {X : Cx} {c : Ct} {tg e : Expr} {f : En → Rs PyData} {fa : En → Rs (List PyData)} {pos : Pos}
theorem zipD_get {xs ys : List PyData} {i : Nat} {d : PyData} (h : (zipD xs ys)[i]? = some d) : ∃ x y, xs[i]? = some x ∧ ys[i]? = some y ∧ d = .tuple [x, y] := by
  unfold zipD at h
  rw [List.getElem?_zipWith] at h
  cases e1 : xs[i]? with
  | none => rw [e1] at h; cases h
  | some x =>
    cases e2 : ys[i]? with
    | none => rw [e1, e2] at h; cases h
    | some y => rw [e1, e2] at h; cases h; exact ⟨x, y, rfl, rfl, rfl⟩
theorem new_pair {S1 H1 : Hp} {T : Addr} {x y : V} {dx dy : PyData} (h : Same S1 H1) (hT : H1 T = none) (hx : Dq K S1 x dx) (hy : Dq K S1 y dy) : ∃ S2, Old H1 S1 S2 (upd H1 T (.tup [x, y])) ∧ Dq K S2 (.ref T) (.tuple [dx, dy]) :=
  ⟨_, .new h hT, .tup (.of upd_same) (.cons (dp_mono (same_upd (h.free hT)) _ _ hx) (.cons (dp_mono (same_upd (h.free hT)) _ _ hy) .nil))⟩
theorem walks_zipT {a b : Addr} {vs ws : List V} {xs ys : List PyData} (ha : SqT K S a vs) (hx : DqAll K S vs xs) (hb : SqT K S b ws) (hy : DqAll K S ws ys) : Walks K (RZ.ItzT K a b) H0 S (zipD xs ys) := by
  refine ⟨fun i S1 H s1 s2 _ hi => ?_, fun i S1 H x H' s1 s2 _ y d ed => ?_, fun S1 H s1 s2 _ => ?_⟩
  · obtain ⟨x, y, e1, e2, _⟩ := zipD_get (List.getElem?_eq_getElem hi)
    obtain ⟨v, h1, _⟩ := DqAll.get' hx e1
    obtain ⟨w, h2, _⟩ := DqAll.get' hy e2
    exact ⟨vs, ws, v, w, sqT_mono (s1.trans s2) ha, sqT_mono (s1.trans s2) hb, h1, h2⟩
  · obtain ⟨T, x1, y1, rfl, hT, rfl, h1, h2⟩ := y
    obtain ⟨x0, y0, e1, e2, rfl⟩ := zipD_get ed
    obtain ⟨v, e3, hv⟩ := DqAll.get' hx e1
    obtain ⟨w, e4, hw⟩ := DqAll.get' hy e2
    have q1 := h1 vs (sqT_mono (s1.trans s2) ha)
    have q2 := h2 ws (sqT_mono (s1.trans s2) hb)
    rw [e3] at q1; cases q1
    rw [e4] at q2; cases q2
    exact new_pair s2 hT (dp_mono s1 _ _ hv) (dp_mono s1 _ _ hw)
  · refine ⟨vs, ws, sqT_mono (s1.trans s2) ha, sqT_mono (s1.trans s2) hb, ?_⟩
    rw [DqAll.length hx, DqAll.length hy, zipD, List.length_zipWith]
    omega
theorem walks_zipL {a b : Addr} {vs ws : List V} {xs ys : List PyData} (ha : SqL K S a vs) (hx : DqAll K S vs xs) (hb : SqL K S b ws) (hy : DqAll K S ws ys) : Walks K (Itz K a b) H0 S (zipD xs ys) := by
  refine ⟨fun i S1 H s1 s2 _ hi => ?_, fun i S1 H x H' s1 s2 _ y d ed => ?_, fun S1 H s1 s2 _ => ?_⟩
  · obtain ⟨x, y, e1, e2, _⟩ := zipD_get (List.getElem?_eq_getElem hi)
    obtain ⟨v, h1, _⟩ := DqAll.get' hx e1
    obtain ⟨w, h2, _⟩ := DqAll.get' hy e2
    exact ⟨vs, ws, v, w, (s1.trans s2).seq ha, (s1.trans s2).seq hb, h1, h2⟩
  · obtain ⟨T, x1, y1, rfl, hT, rfl, h1, h2⟩ := y
    obtain ⟨x0, y0, e1, e2, rfl⟩ := zipD_get ed
    obtain ⟨v, e3, hv⟩ := DqAll.get' hx e1
    obtain ⟨w, e4, hw⟩ := DqAll.get' hy e2
    have q1 := h1 vs ((s1.trans s2).seq ha)
    have q2 := h2 ws ((s1.trans s2).seq hb)
    rw [e3] at q1; cases q1
    rw [e4] at q2; cases q2
    exact new_pair s2 hT (dp_mono s1 _ _ hv) (dp_mono s1 _ _ hw)
  · refine ⟨vs, ws, (s1.trans s2).seq ha, (s1.trans s2).seq hb, ?_⟩
    rw [DqAll.length hx, DqAll.length hy, zipD, List.length_zipWith]
    omega
theorem di_zip {e2 : Expr} {p tpos : Pos} {elts : List Expr} {kk : Nat} (hg : Gl X "zip") (hm : X.mg "zip" = none) (ha : DA X c [e, e2] fa)
    (hs : starEach [e, e2] X.env = (false, eval e X.env) :: starEach [e2] X.env := by rfl) (hpl : (backTo pos (starEach [e2] X.env)).any (·.1) = false := by rfl) :
    DI X c (.Tuple elts kk tpos) (.Call (.Name "zip" p) [e, e2] [] pos) (iRg zips fa) := by
  refine pi_imp (RZ.pi_zipA hg hm ha hs hpl) fun σ H Q ⟨S, ρ, rp, q⟩ => ⟨S, ρ, rp, Go.seq q fun S1 H1 x dx o1 hx q1 => ?_⟩
  unfold zips at q1
  split at q1
  · obtain ⟨v, u, rfl, h1, h2⟩ := dqs2 hx
    cases h1 with
    | tup a1 a2 =>
      cases h2 with
      | tup b1 b2 => exact ⟨_, _, _, _, rfl, .inr ⟨sqT_mono o1.sub a1, sqT_mono o1.sub b1, Go.now q1 o1.sub (walks_zipT a1 a2 b1 b2)⟩⟩
  · obtain ⟨v, u, rfl, h1, h2⟩ := dqs2 hx
    cases h1 with
    | lst a1 a2 =>
      cases h2 with
      | lst b1 b2 => exact ⟨_, _, _, _, rfl, .inl ⟨.inl (rd_mono o1.sub a1), .inl (rd_mono o1.sub b1), Go.now q1 o1.sub (walks_zipL (.inl a1) a2 (.inl b1) b2)⟩⟩
  · exact q1.elim
theorem enum_get : ∀ {xs : List PyData} {n i : Nat} {d : PyData}, (enumFrom n xs)[i]? = some d → ∃ x, xs[i]? = some x ∧ d = .tuple [.int ((n + i : Nat) : Int), x]
  | [], _, _, _, h => by simp [enumFrom] at h
  | x :: xs, n, 0, d, h => by simp [enumFrom] at h; subst h; exact ⟨x, rfl, rfl⟩
  | x :: xs, n, i + 1, d, h => by
    obtain ⟨y, h1, h2⟩ := enum_get (xs := xs) (n := n + 1) (i := i) (d := d) (by simpa [enumFrom] using h)
    refine ⟨y, by simpa using h1, ?_⟩
    rw [h2]
    congr 4
    omega
theorem enum_len : ∀ (xs : List PyData) (n : Nat), (enumFrom n xs).length = xs.length
  | [], _ => rfl
  | x :: xs, n => by simp [enumFrom, enum_len xs (n + 1)]
theorem walks_enum {a : Addr} {vs : List V} {xs : List PyData} (ha : SqL K S a vs) (hx : DqAll K S vs xs) : Walks K (Ite K a) H0 S (enumFrom 0 xs) := by
  refine ⟨fun i S1 H s1 s2 _ hi => ?_, fun i S1 H x H' s1 s2 _ y d ed => ?_, fun S1 H s1 s2 _ => ?_⟩
  · obtain ⟨x, e1, _⟩ := enum_get (List.getElem?_eq_getElem hi)
    obtain ⟨v, h1, _⟩ := DqAll.get' hx e1
    exact ⟨vs, v, (s1.trans s2).seq ha, h1⟩
  · obtain ⟨T, x1, rfl, hT, rfl, h1⟩ := y
    obtain ⟨x0, e1, rfl⟩ := enum_get ed
    obtain ⟨v, e3, hv⟩ := DqAll.get' hx e1
    have q1 := h1 vs ((s1.trans s2).seq ha)
    rw [e3] at q1; cases q1
    rw [Nat.zero_add]
    exact new_pair s2 hT (.int _) (dp_mono s1 _ _ hv)
  · exact ⟨vs, (s1.trans s2).seq ha, by rw [DqAll.length hx, enum_len]; exact Nat.le_refl _⟩
theorem di_enum {a : Expr} {p tpos : Pos} {elts : List Expr} {kk : Nat} (hg : Gl X "enumerate") (hm : X.mg "enumerate" = none) (ha : DA X c [a] fa) (hs : starEach [a] X.env = [(false, eval a X.env)] := by rfl) :
    DI X c (.Tuple elts kk tpos) (.Call (.Name "enumerate" p) [a] [] pos) (iRg enums fa) := by
  refine pi_imp (pi_enum hg hm ha hs) fun σ H Q ⟨S, ρ, rp, q⟩ => ⟨S, ρ, rp, Go.seq q fun S1 H1 x dx o1 hx q1 => ?_⟩
  unfold enums at q1
  split at q1
  · obtain ⟨v, rfl, h1⟩ := dqs1 hx
    cases h1 with
    | lst a1 a2 => exact ⟨_, _, rfl, .inl (rd_mono o1.sub a1), Go.now q1 o1.sub (walks_enum (.inl a1) a2)⟩
  · exact q1.elim
/-- a module's whole number -/
theorem de_gI {x : Str} {i : Int} (hg : Gl X x) (h : ∃ u, X.mg x = some u ∧ RelV (.int i) u) (hd : (x == ("__debug__" : Str)) = false := by decide) : DE X c (.Name x pos) (eC (.int i)) := by
  obtain ⟨u, h1, h2⟩ := h
  exact de_globI hg h1 h2 hd
theorem de_gS {x y : Str} (hg : Gl X x) (h : ∃ u, X.mg x = some u ∧ RelV (.str y) u) (hd : (x == ("__debug__" : Str)) = false := by decide) : DE X c (.Name x pos) (eC (.str y)) := by
  obtain ⟨u, h1, h2⟩ := h
  exact de_globS hg h1 h2 hd
/-- a list, a tuple or a text that is walked -/
def signs (z : Str) : List PyData := z.cps.toList.map fun c => .str ⟨#[c]⟩
def asIt : PyData → Rs (List PyData)
  | .tuple xs => .ok xs
  | .list xs => .ok xs
  | .dict [(.none, .list xs)] => .ok xs
  | .str z => .ok (signs z)
  | _ => .no
def iSq (f : En → Rs PyData) : En → Rs (List PyData) := fun ρ => (f ρ).bind asIt
theorem walks_str (z : Str) : Walks K (Its z) H0 S (signs z) := by
  have hl : (signs z).length = z.cps.size := by simp [signs]
  refine ⟨fun i S1 H s1 s2 _ hi => ?_, fun i S1 H x H' s1 s2 _ y d ed => ?_, fun S1 H s1 s2 _ => ?_⟩
  · rw [hl] at hi; exact hi
  · obtain ⟨rfl, c, ec, rfl⟩ := y
    have hi : i < z.cps.size := by rw [← hl]; exact (List.getElem?_eq_some_iff.mp ed).1
    have e2 : z.cps.toList[i]? = some c := by rw [Array.getElem?_toList]; exact ec
    unfold signs at ed
    rw [List.getElem?_map, e2] at ed
    cases ed
    exact ⟨S1, .refl s2, .str _⟩
  · show z.cps.size ≤ (signs z).length
    rw [hl]
    exact Nat.le_refl _
theorem di_seq (hl : DE X c e f) : DI X c tg e (iSq f) := by
  refine ⟨fun pins s σ H R I ⟨S, ρ, rp, q⟩ => ?_⟩
  refine thn (hl.run pins s σ H (fun x H1 => (∃ a, x = .ref a ∧ ((∃ xs, SqL X.K H1 a xs) ∧ R (Itl X.K a) H1)) ∨ ((∃ a, x = .ref a ∧ ((∃ xs, SqT X.K H1 a xs) ∧ R (Itt X.K a) H1)) ∨ ∃ z, x = .str z ∧ R (Its z) H1)) I ⟨S, ρ, rp, Go.seq q fun S1 H1 x dx o1 hx q1 => ?_⟩) fun v s1 ⟨x, H1, I1, r1, q1⟩ => ?_
  · unfold asIt at q1
    split at q1
    · cases hx with
      | tup h1 h2 => exact .inr (.inl ⟨_, rfl, ⟨_, sqT_mono o1.sub h1⟩, Go.now q1 o1.sub (walks_tup h1 h2)⟩)
    · cases hx with
      | lst h1 h2 => exact .inl ⟨_, rfl, ⟨_, .inl (rd_mono o1.sub h1)⟩, Go.now q1 o1.sub (walks_list (.inl h1) h2)⟩
    · cases hx with
      | dct h1 h2 h3 => exact (dct_ne h3).elim
      | scr h1 h2 => exact .inl ⟨_, rfl, ⟨_, o1.sub.seq h1⟩, Go.now q1 o1.sub (walks_list h1 h2)⟩
    · cases hx
      exact .inr (.inr ⟨_, rfl, Go.now q1 o1.sub (walks_str _)⟩)
    · exact q1.elim
  · rcases q1 with ⟨a, e, ⟨xs, hq⟩, q⟩ | ⟨a, e, ⟨xs, hq⟩, q⟩ | ⟨x0, ex, q⟩
    · subst e
      cases r1
      obtain ⟨its, rv, p, hz⟩ := I1.list hq
      refine wpAny_pyIter_list p.isList ?_
      refine ⟨s1.heap.objs.size, [s1.heap.objs.size], _, _, H1, rfl, I1.kept (t' := s1.toks) fun b o e => Heap.get?_push_of_some _ e, turn_list a _, ⟨_, Heap.get?_push_size _ rfl, rfl, rfl⟩, fun b hb => ?_, q⟩
      have e : b = s1.heap.objs.size := by simpa using hb
      subst e
      exact I1.fpOk (Nat.le_refl _) (I1.hok.fresh (Nat.le_refl _))
    · subst e
      cases r1
      obtain ⟨its, rv, p, hz⟩ := I1.tuple hq
      refine wpAny_pyIter_tuple (show s1.heap.IsTuple a its.toArray from p) ?_
      refine ⟨s1.heap.objs.size, [s1.heap.objs.size], _, _, H1, rfl, I1.kept (t' := s1.toks) fun b o e => Heap.get?_push_of_some _ e, turn_tuple a _, ⟨_, Heap.get?_push_size _ rfl, rfl, rfl⟩, fun b hb => ?_, q⟩
      have e : b = s1.heap.objs.size := by simpa using hb
      subst e
      exact I1.fpOk (Nat.le_refl _) (I1.hok.fresh (Nat.le_refl _))
    · subst ex
      obtain ⟨t, rfl⟩ := r1
      cases ha : x0.cps.all (· < 128)
      · exact wpAny_pyIter_wide ha (pi_one (tk := s1.toks) I1 _ (turn_str _ x0 t "str_iterator" (.inr rfl)) ⟨_, Heap.get?_push_size _ rfl, rfl, rfl⟩ q)
      · exact wpAny_pyIter_ascii ha (pi_one (tk := s1.toks) I1 _ (turn_str _ x0 t "str_ascii_iterator" (.inl rfl)) ⟨_, Heap.get?_push_size _ rfl, rfl, rfl⟩ q)
/-! ### raise -/
/-- X(), X an own exception class without own __init__ -/
theorem pmk_own0 {x : Str} {C : Addr} {bmB : List Value} {BB newId initId : String} {p p2 : Pos} (F : ExcBaseFacts BB newId initId bmB) (q : PySem.W.excIn X.K C bmB newId = true) (gC : X.mg x = some (.ref C)) (kC : PySem.W.keepIn X.K (.ref C) = true) (r : Raises X (.ref C)) (hg : Gl X x) (hdb : (x == ("__debug__" : Str)) = false := by decide) :
    L2H.PMk5 X (.Call (.Name x p) [] [] p2) (fun σ H Q => Q (.ref C) none H) := by
  intro pins s σ H Q I h
  refine wpAny_Call_Name_kw (ld_glob I hg gC ?_ hdb)
  refine PySem.W.callWith_K0 I.kIn kC ?_
  show wpAny _ _ (call (.ref C) []) _ _ _
  obtain ⟨bm, N, nm, qn, bs, hdct, sn, sub, ab, col, dd, k0, k1, k2, k3, k5, mN, hC, hN, hni, T⟩ := exc_obj I.kIn q
  refine wpAny_call_exc_subT F T hC hN hni (fun h' e hm => ?_) (Nat.zero_le _)
  exact L2H.mk_of5 I hm r h (I.hok.gone hm.new)
theorem ds_raise {hot : List Str} {x : Str} {C : Addr} {bmB : List Value} {BB newId initId : String} {p p2 : Pos} (hc : X.calm = true) (tk : TakesH hot X c.W) (F : ExcBaseFacts BB newId initId bmB) (q : PySem.W.excIn X.K C bmB newId = true) (gC : X.mg x = some (.ref C)) (kC : PySem.W.keepIn X.K (.ref C) = true) (r : Raises X (.ref C)) (hg : Gl X x) (hdb : (x == ("__debug__" : Str)) = false := by decide) :
    DS X c (.Raise (some (.Call (.Name x p) [] [] p2)) none pos) (sRaise x) :=
  ps_imp (L2N.ps_raise hc (xe_cold tk) (pmk_own0 F q gC kC r hg hdb).pmk) fun D σ H ⟨S, ρ, rp, p⟩ => p S σ H _ _ (.refl _) rp gC rfl
end
end D2

namespace D2
open PySem PySem.Spec PyProof.Rows L2
/-- turns enough for any while -/
def bigF : Nat := 10000000
/-- what the top says of an own exception class -/
structure ExT (K : PySem.W.Frag) (mg : Str → Option Value) (x : Str) (C : Addr) : Prop where
  g : mg x = some (.ref C)
  q : PySem.W.excIn K C [.type "ValueError", .type "Exception", .type "BaseException", .type "object"] "ValueError.__new__" = true
  k : PySem.W.keepIn K (.ref C) = true
  b : PySem.W.subIn K (.ref C) (.type "BaseException") = some true
  t : PySem.W.typeIn K (.ref C) = some (.type "type")
/-- the law's script -/
abbrev scr (ns : List Int) : PyData := .dict [(.none, .list (ns.map PyData.int))]
def spLaw (K : PySem.W.Frag) : Sp := fun vs H Q _ => ∃ (a : Addr) (ns : List Int), vs = [.ref a] ∧ SqL K H a (ns.map V.int) ∧ ns.length ≤ 63 ∧ ∀ H', Q (.bl true) H'
theorem law_spG {hot : List Str} {P : Program} {w : World} {K : PySem.W.Frag} {mg : Str → Option Value} {base : Heap} {k : Nat} {f : Addr} {fd : FuncData} {ps : List Str} {g : List PyData → Rs PyData} (h : ∀ ns : List Int, ns.length ≤ 63 → g [scr ns] = .ok (.bool true))
    (F : FnOk P w K mg base (CXh hot mg P w) k f fd ps (spD K mg g)) : FnOk P w K mg base (L2.CX P w) k f fd ps (spLaw K) :=
  (fnok_weak F).imp fun vs H Q E ⟨a, ns, e, hs, hl, q⟩ => ⟨H, [scr ns], .refl _, by rw [e]; exact .cons (.scr hs (ints_dps ns)) .nil, by
    rw [h ns hl]
    intro S' H' v _ hv
    cases hv
    exact q H'⟩
theorem cx_no {P : Program} {w : World} {H : Hp} {s : Shared} {e : Value} {s' : Shared} (h : L2.CX P w [] H s (fun _ _ _ => False) e s') : False := by
  obtain ⟨_, _, _, _, _, _, _, _, _, _, _, _, z⟩ := h
  exact z.elim

/-! ### t[::-1] -/
section
variable {prog : Program} {w : World} {A : Around} {E : Value → Shared → Prop} {s : Shared}
theorem applied_rev {sl : Addr} {vl vu vs : Value} {n : Nat} {Q : Int × Int × Nat → Shared → Prop} (hs : s.heap.IsSliceOf sl vl vu vs) (pl : IsPart vl none) (pu : IsPart vu none) (ps : IsPart vs (some (-1)))
    (h : Q ((n : Int) - 1, -1, n) s) : wpAny (model prog w) A (Builtin.Slice.sliceApplied (.ref sl) (pure (n : Int))) Q E s := by
  obtain ⟨os, hos, hcs, hds⟩ := id hs
  unfold Builtin.Slice.sliceApplied Builtin.Slice.sliceFields
  refine wpAny_bind (wpAny_bind (wpAny_field hos hds (x := vl) rfl (wpAny_bind (wpAny_field hos hds (x := vu) rfl (wpAny_bind (wpAny_field hos hds (x := vs) rfl (wpAny_pure ?_)))))))
  refine wpAny_bind (HT.slicePart_ ps ?_)
  show wpAny _ _ (if ((-1 : Int) == 0) = true then _ else _) _ _ s
  rw [if_neg (by decide)]
  refine wpAny_bind (HT.slicePart_ pl (wpAny_bind (HT.slicePart_ pu (wpAny_bind (wpAny_pure ?_)))))
  show wpAny _ _ (pure ((n : Int) - 1, (-1 : Int), Builtin.Slice.slicePlaces ((n : Int) - 1) (-1) (-1))) _ _ s
  have e : Builtin.Slice.slicePlaces ((n : Int) - 1) (-1) (-1) = n := by
    unfold Builtin.Slice.slicePlaces
    rw [if_neg (by decide)]
    by_cases hn : (n : Int) - 1 > -1
    · rw [if_pos hn]
      have : ((n : Int) - 1 - -1 - 1) / - -1 + 1 = (n : Int) := by
        have e2 : (- -1 : Int) = 1 := rfl
        rw [e2, Int.ediv_one]
        omega
      rw [this]
      rfl
    · rw [if_neg hn]
      omega
  rw [e]
  exact wpAny_pure h
theorem filterMap_some {α β : Type} {f : α → Option β} {g : α → β} : ∀ {l : List α}, (∀ m ∈ l, f m = some (g m)) → l.filterMap f = l.map g
  | [], _ => rfl
  | a :: l, h => by
    rw [List.filterMap_cons, h a List.mem_cons_self, List.map_cons, filterMap_some fun m hm => h m (List.mem_cons_of_mem _ hm)]
theorem pick_rev (xs : Array Value) : ((List.range xs.size).filterMap fun (m : Nat) => xs[(((xs.size : Nat) : Int) - 1 + (m : Int) * -1).toNat]?).toArray = xs.toList.reverse.toArray := by
  congr 1
  refine List.ext_getElem? fun i => ?_
  have e : (List.range xs.size).filterMap (fun (m : Nat) => xs[(((xs.size : Nat) : Int) - 1 + (m : Int) * -1).toNat]?) = (List.range xs.size).map fun m => (xs.toList.reverse).getD m Value.none := by
    refine filterMap_some fun m hm => ?_
    have hm' : m < xs.size := by simpa using hm
    have e1 : (((xs.size : Nat) : Int) - 1 + (m : Int) * -1).toNat = xs.size - 1 - m := by omega
    rw [e1]
    have h2 : xs.size - 1 - m < xs.size := by omega
    rw [Array.getElem?_eq_getElem h2]
    simp [List.getD, List.getElem?_reverse, hm', h2]
  rw [e]
  by_cases hi : i < xs.size
  · simp [hi, List.getD]
  · simp [hi]
theorem getItem_tuple_rev {t sl : Addr} {items : Array Value} {vl vu vs : Value} {Q : Value → Shared → Prop} (ht : IsTup s.heap t items) (hs : s.heap.IsSliceOf sl vl vu vs) (pl : IsPart vl none) (pu : IsPart vu none) (ps : IsPart vs (some (-1)))
    (h : Q (.ref s.heap.objs.size) { s with heap := s.heap.push { cls := .type "tuple", data := .seq items.toList.reverse.toArray } })
    (hsz : items.size ≤ sizeLine) : wpAny (model prog w) A (getItem (.ref t) (.ref sl)) Q E s := by
  have htake : sizeOk (.seq items.toList.reverse.toArray) := by
    show items.toList.reverse.toArray.size ≤ sizeLine
    rw [List.size_toArray, List.length_reverse, Array.length_toList]
    omega
  obtain ⟨os, hos, hcs, hds⟩ := id hs
  have hTs : s.TypeIs (.ref sl) "slice" := ⟨os, hos, hcs⟩
  unfold getItem
  try with_reducible refine wpAny_holding ?_
  first | refine wpAny_bind (wpAny_pure ?_) | skip
  refine wpAny_bind (wpAny_sequenceKey ht.typeIs (by decide) ?_)
  refine wpAny_bind (wpAny_callSpecial?_slot (name := Str.ofString "__getitem__") ht.typeIs PyProof.Rows.slot_tuple_getitem
    (wpAny_call_entry PyProof.Rows.slot_tuple_getitem ht.typeIs entry_tuple_getitem ?_ (args_tuple_getitem _ _)))
  show wpAny _ _ (Builtin.Tuple.tupleItemsOf (.ref t) >>= _) _ _ s
  refine wpAny_bind (tupleItemsOf_ ht ?_)
  refine wpAny_bind (wpAny_typeOf hTs ?_)
  rw [if_pos (by decide)]
  refine wpAny_bind (applied_rev hs pl pu ps ?_)
  have hno : ¬ ((((items.size : Nat) : Int) - 1 == 0 && (-1 : Int) == 1 && items.size == items.size) = true) := by
    intro q
    rw [Bool.and_eq_true, Bool.and_eq_true] at q
    exact absurd q.1.2 (by decide)
  show wpAny _ _ (if (((items.size : Nat) : Int) - 1 == 0 && (-1 : Int) == 1 && items.size == items.size) = true then _ else _) _ _ s
  rw [if_neg hno, pick_rev]
  first
    | exact wpAny_bind (m := Builtin.Tuple.tupleExact _) (wpAny_newObj_type (wpAny_pure ⟨_, rfl, wpAny_pure h⟩) htake)
    | exact wpAny_bind (m := Builtin.Tuple.tupleExact _) (wpAny_newObj_type (wpAny_bind (wpAny_pure (wpAny_pure ⟨_, rfl, wpAny_pure h⟩))) htake)
    | exact wpAny_bind (wpAny_bind (m := Builtin.Tuple.tupleExact _) (wpAny_newObj_type (wpAny_pure (wpAny_pure ⟨_, rfl, wpAny_pure h⟩)) htake))
    | exact wpAny_bind (wpAny_bind (m := Builtin.Tuple.tupleExact _) (wpAny_newObj_type (wpAny_pure ⟨_, rfl, wpAny_pure h⟩) htake))
end
def opRev : PyData → Option PyData
  | .tuple xs => some (.tuple xs.reverse)
  | .list xs => some (.list xs.reverse)
  | _ => none
def eRev (f : En → Rs PyData) : En → Rs PyData := fun ρ => (f ρ).bind fun x => ofO (opRev x)
section
variable {X : Cx} {c : Ct} {e : Expr} {f : En → Rs PyData}
def tRevT (K : PySem.W.Frag) (te : TE) : TE := fun σ H Q => te σ H fun x H1 => ∃ a xs, x = .ref a ∧ ((SqL K H1 a xs ∧ ∀ p, H1 p = none → Q (.ref p) (upd H1 p (.lst xs.reverse))) ∨ (SqT K H1 a xs ∧ ∀ p, H1 p = none → Q (.ref p) (upd H1 p (.tup xs.reverse))))
theorem pe_revT {te : TE} {k : Nat} {p1 p2 p3 pos : Pos} (he : PE X e te) : PE X (.Subscript e (.Slice none none (some (.UnaryOp .USub (.Constant (.int 1) k p1) p2)) p3) pos) (tRevT X.K te) := by
  refine ⟨fun pins s σ H Q I h => ?_⟩
  refine Subscript_ (thn (he.run pins s σ H _ I h) fun v s1 ⟨x, H1, I1, r1, q1⟩ => ?_)
  obtain ⟨a, xs, ex, q⟩ := q1
  subst ex
  cases r1
  have hst : PO X (some (.UnaryOp .USub (.Constant (.int 1) k p1) p2)) (tPart (tUn (rU fun i => .int (-i)) (tC (.int 1)))) := po_some (pe_un un_neg pe_int)
  refine wpAny_Slice (thn (po_none.run pins s1 σ H1 (fun o H2 => o = none ∧ H2 = H1) I1 ⟨rfl, rfl⟩) fun vl s2 ⟨l, H2, I2, pl, el, e2⟩ => ?_)
  subst el e2
  refine thn (po_none.run pins s2 σ H2 (fun o H3 => o = none ∧ H3 = H2) I2 ⟨rfl, rfl⟩) fun vu s3 ⟨u, H3, I3, pu, eu, e3⟩ => ?_
  subst eu e3
  refine thn (hst.run pins s3 σ H3 (fun o H4 => o = some (-1) ∧ H4 = H3) I3 ⟨1, rfl, -1, rfl, rfl, rfl⟩) fun vs s4 ⟨o, H4, I4, ps, eo, e4⟩ => ?_
  subst eo e4
  have I5 : Inv X pins σ H4 { s4 with heap := s4.heap.push { cls := .type "slice", data := .fields #[vl, vu, vs] } } := I4.kept (t' := s4.toks) fun b ob q => Heap.get?_push_of_some _ q
  show wpAny (model X.prog X.w) X.A (subscriptTail e (.Slice none none (some (.UnaryOp .USub (.Constant (.int 1) k p1) p2)) p3) (.ref a) (.ref s4.heap.objs.size)) (EP X pins σ Q) X.xe { s4 with heap := s4.heap.push { cls := .type "slice", data := .fields #[vl, vu, vs] } }
  rcases q with ⟨hx, q⟩ | ⟨hx, q⟩
  · obtain ⟨its, r, ht, hz⟩ := I5.list hx
    have hlen := r.length
    refine tail_any (ops := [.ref a, .ref s4.heap.objs.size]) ht.isList.typeIs (PySem.slot_list_getitem.lookup) ?_ (by with_unfolding_all rfl)
    refine wpAny_getItem_list_slice ht.isList (Heap.IsSliceOf.new _ vl vu vs) pl pu ps (by decide) ?_ (by rw [List.size_toArray]; omega)
    rw [PySem.W.krv_pick]
    refine ⟨.ref _, _, I5.laid (t' := s4.toks) (o := .lst xs.reverse) (fun b ob q => Heap.get?_push_of_some _ q) (Nat.le_refl _) ?_, rfl, q _ (I5.hok.fresh (Nat.le_refl _))⟩
    exact ⟨by rw [List.length_reverse]; exact hz, _, 0, r.reverse, Heap.get?_push_size _ rfl⟩
  · obtain ⟨its, r, ht, hz⟩ := I5.tuple hx
    have hlen := r.length
    refine tail_any (ops := [.ref a, .ref s4.heap.objs.size]) ht.typeIs (PyProof.Rows.slot_tuple_getitem.lookup) ?_ (by with_unfolding_all rfl)
    refine getItem_tuple_rev ht (Heap.IsSliceOf.new _ vl vu vs) pl pu ps ?_ (by rw [List.size_toArray]; omega)
    refine ⟨.ref _, _, I5.laid (t' := s4.toks) (o := .tup xs.reverse) (fun b ob q => Heap.get?_push_of_some _ q) (Nat.le_refl _) ?_, rfl, q _ (I5.hok.fresh (Nat.le_refl _))⟩
    exact ⟨by rw [List.length_reverse]; exact hz, _, r.reverse, ⟨_, Heap.get?_push_size _ rfl, rfl, _, rfl⟩⟩
theorem de_rev {k : Nat} {p1 p2 p3 pos : Pos} (he : DE X c e f) : DE X c (.Subscript e (.Slice none none (some (.UnaryOp .USub (.Constant (.int 1) k p1) p2)) p3) pos) (eRev f) := by
  refine pe_imp (pe_revT he) fun σ H Q ⟨S, ρ, rp, q⟩ => ⟨S, ρ, rp, Go.seq q fun S1 H1 x dx o1 hx q1 => ?_⟩
  obtain ⟨d, e, q3⟩ := go_op q1
  unfold opRev at e
  split at e <;> cases e
  · cases hx with
    | tup h1 h2 => exact ⟨_, _, rfl, .inr ⟨sqT_mono o1.sub h1, fun p hp => q3 _ _ _ (.new o1.sub hp) (.tup (.of upd_same) (dps_mono (same_upd (o1.sub.free hp)) _ _ (DqAll.reverse h2)))⟩⟩
  · cases hx with
    | lst h1 h2 => exact ⟨_, _, rfl, .inl ⟨.inl (rd_mono o1.sub h1), fun p hp => q3 _ _ _ (.new o1.sub hp) (.lst (.of upd_same) (dps_mono (same_upd (o1.sub.free hp)) _ _ (DqAll.reverse h2)))⟩⟩
end
end D2

namespace D2
open PySem PySem.Spec PyProof.Rows L2
/-! ### range with a step -/
def rgC (lo c : Int) (n : Nat) : List PyData := (List.range n).map fun (i : Nat) => PyData.int (lo + (i : Int) * c)
def rng3 : List PyData → Rs (List PyData)
  | [.int i, .int j, .int c] => if c ≠ 0 ∧ c.natAbs < 1073741824 ∧ Builtin.Range.small i j c = true ∧ 0 ≤ Builtin.Range.rangeSize i j c then .ok (rgC i c (Builtin.Range.rangeSize i j c).toNat) else .no
  | _ => .no
section
variable {K : PySem.W.Frag} {H0 S S' H : Hp} {X : Cx} {c : Ct} {tg e : Expr} {fa : En → Rs (List PyData)} {pos : Pos}
theorem walks_rgC (lo c : Int) (n : Nat) : Walks K (Itc lo c n) H0 S (rgC lo c n) := by
  have hl : (rgC lo c n).length = n := by simp [rgC]
  refine ⟨fun i S1 H s1 s2 _ hi => by rw [hl] at hi; exact hi, fun i S1 H x H' s1 s2 _ y d ed => ?_, fun S1 H s1 s2 _ => by rw [hl]; exact Nat.le_refl _⟩
  obtain ⟨rfl, rfl⟩ := y
  have hi : i < n := by rw [← hl]; exact (List.getElem?_eq_some_iff.mp ed).1
  simp [rgC, hi] at ed
  subst ed
  exact ⟨S1, .refl s2, .int _⟩
theorem dqs3 {S : Hp} {vs : List V} {d e f : PyData} (h : DqAll K S vs [d, e, f]) : ∃ v u w, vs = [v, u, w] ∧ Dq K S v d ∧ Dq K S u e ∧ Dq K S w f := by
  cases h with
  | cons a b =>
    obtain ⟨u, w, rfl, hu, hw⟩ := dqs2 b
    exact ⟨_, u, w, rfl, a, hu, hw⟩
theorem di_range3 {a b d : Expr} {p : Pos} (hg : Gl X "range") (hm : X.mg "range" = none) (ha : DA X c [a, b, d] fa) (hs : starEach [a, b, d] X.env = (false, eval a X.env) :: starEach [b, d] X.env := by rfl) (hpl : (backTo pos (starEach [b, d] X.env)).any (·.1) = false := by rfl) :
    DI X c tg (.Call (.Name "range" p) [a, b, d] [] pos) (iRg rng3 fa) := by
  refine pi_imp (pi_range3 hg hm ha hs hpl) fun σ H Q ⟨S, ρ, rp, q⟩ => ⟨S, ρ, rp, Go.seq q fun S1 H1 x dx o1 hx q1 => ?_⟩
  unfold rng3 at q1
  split at q1
  · rename_i i j k
    split at q1
    · rename_i hj
      obtain ⟨v, u, w, rfl, h1, h2, h3⟩ := dqs3 hx
      cases h1; cases h2; cases h3
      exact ⟨i, j, k, _, rfl, ⟨hj.1, hj.2.1, hj.2.2.1, (Int.toNat_of_nonneg hj.2.2.2).symm⟩, Go.now q1 o1.sub (walks_rgC i k _)⟩
    · exact q1.elim
  · exact q1.elim
end
/-! ### == of tuples of whole numbers -/
theorem lay_ints : ∀ a : List Int, PyData.canLayAll0 (a.map PyData.int) = true
  | [] => by simp [PyData.canLayAll0]
  | x :: a => by simp [PyData.canLayAll0, PyData.canLay0, lay_ints a]
theorem depth_ints : ∀ a : List Int, PyData.depthAll (a.map PyData.int) = 0
  | [] => by simp [PyData.depthAll]
  | x :: a => by simp [PyData.depthAll, PyData.depth, depth_ints a]
theorem shaped_tN (a : List Int) : SeqAt.shaped (.tuple (a.map PyData.int)) = true := by
  simp [SeqAt.shaped, PyData.canLay0, lay_ints, PyData.depth, depth_ints]
theorem eqv_ints : ∀ a b : List Int, PyData.eqvAll (a.map PyData.int) (b.map PyData.int) = decide (a = b)
  | [], [] => by simp [PyData.eqvAll]
  | [], y :: b => by simp [PyData.eqvAll]
  | x :: a, [] => by simp [PyData.eqvAll]
  | x :: a, y :: b => by
    have := eqv_ints a b
    simp [PyData.eqvAll, PyData.eqv, this]
    rw [Bool.beq_eq_decide_eq]
@[simp] theorem opEq_tN (a b : List Int) : opEq (.tuple (a.map PyData.int)) (.tuple (b.map PyData.int)) = some (.bool (decide (a = b))) := by
  show (if _ then _ else _) = _
  rw [if_pos ⟨shaped_tN a, shaped_tN b⟩]
  simp [PyData.eqv, eqv_ints]
end D2

namespace D2
open PySem PySem.Spec PyProof.Rows L2
/-! ### how the functions are reckoned -/
def Out.thn (o : Out) (G : En → Out) : Out := match o with
  | .nx ρ => G ρ
  | o => o
@[simp] theorem thn_nx (ρ : En) (G : En → Out) : (Out.nx ρ).thn G = G ρ := Eq.trans rfl rfl
@[simp] theorem thn_rt (d : PyData) (G : En → Out) : (Out.rt d).thn G = .rt d := Eq.trans rfl rfl
@[simp] theorem thn_bk (ρ : En) (G : En → Out) : (Out.bk ρ).thn G = .bk ρ := Eq.trans rfl rfl
@[simp] theorem thn_ct (ρ : En) (G : En → Out) : (Out.ct ρ).thn G = .ct ρ := Eq.trans rfl rfl
@[simp] theorem thn_er (x : Ex) (ρ : En) (G : En → Out) : (Out.er x ρ).thn G = .er x ρ := Eq.trans rfl rfl
@[simp] theorem thn_no (G : En → Out) : (Out.no).thn G = .no := Eq.trans rfl rfl
def Out.lp (o : Out) (G : En → Out) : Out := match o with
  | .nx ρ => G ρ
  | .ct ρ => G ρ
  | .bk ρ => .nx ρ
  | o => o
@[simp] theorem lp_nx (ρ : En) (G : En → Out) : (Out.nx ρ).lp G = G ρ := Eq.trans rfl rfl
@[simp] theorem lp_ct (ρ : En) (G : En → Out) : (Out.ct ρ).lp G = G ρ := Eq.trans rfl rfl
@[simp] theorem lp_bk (ρ : En) (G : En → Out) : (Out.bk ρ).lp G = .nx ρ := Eq.trans rfl rfl
@[simp] theorem lp_rt (d : PyData) (G : En → Out) : (Out.rt d).lp G = .rt d := Eq.trans rfl rfl
@[simp] theorem lp_er (x : Ex) (ρ : En) (G : En → Out) : (Out.er x ρ).lp G = .er x ρ := Eq.trans rfl rfl
@[simp] theorem lp_no (G : En → Out) : (Out.no).lp G = .no := Eq.trans rfl rfl
def Out.val : Out → Rs PyData
  | .nx _ => .ok .none
  | .rt d => .ok d
  | .er x _ => .er x
  | _ => .no
@[simp] theorem val_nx (ρ : En) : (Out.nx ρ).val = .ok .none := Eq.trans rfl rfl
@[simp] theorem val_rt (d : PyData) : (Out.rt d).val = .ok d := Eq.trans rfl rfl
@[simp] theorem val_er (x : Ex) (ρ : En) : (Out.er x ρ).val = .er x := Eq.trans rfl rfl
@[simp] theorem val_no : Out.no.val = .no := Eq.trans rfl rfl
def slotR : Option (Option B) → Rs PyData
  | some (some (.d x)) => .ok x
  | _ => .no
@[simp] theorem slotR_d (x : PyData) : slotR (some (some (.d x))) = .ok x := Eq.trans rfl rfl
def optE : Option En → (En → Out) → Out
  | some ρ, k => k ρ
  | none, _ => .no
@[simp] theorem optE_some (ρ : En) (k : En → Out) : optE (some ρ) k = k ρ := Eq.trans rfl rfl
@[simp] theorem optE_none (k : En → Out) : optE none k = .no := Eq.trans rfl rfl
def optR {α : Type} : Option En → (En → Rs α) → Rs α
  | some ρ, k => k ρ
  | none, _ => .no
@[simp] theorem optR_some {α : Type} (ρ : En) (k : En → Rs α) : optR (some ρ) k = k ρ := Eq.trans rfl rfl
@[simp] theorem optR_none {α : Type} (k : En → Rs α) : optR none k = .no := Eq.trans rfl rfl
/-- no error goes on -/
def nE {α β : Type} : Rs α → (α → Rs β) → Rs β
  | .ok a, k => k a
  | _, _ => .no
@[simp] theorem nE_ok {α β : Type} (a : α) (k : α → Rs β) : nE (.ok a) k = k a := Eq.trans rfl rfl
@[simp] theorem nE_er {α β : Type} (x : Ex) (k : α → Rs β) : nE (.er x) k = .no := Eq.trans rfl rfl
@[simp] theorem nE_no {α β : Type} (k : α → Rs β) : nE (.no : Rs α) k = .no := Eq.trans rfl rfl
section
variable {F G b : En → Out} {f g h : En → Rs PyData} {t u : En → Rs Bool} {ρ : En} {fa : En → Rs (List PyData)}
@[simp] theorem ap_eVar {i : Nat} : eVar i ρ = slotR ρ[i]? := by
  unfold eVar slotR
  rfl
@[simp] theorem ap_eC {d : PyData} : eC d ρ = .ok d := Eq.trans rfl rfl
@[simp] theorem ap_eBin {op : PyData → PyData → Option PyData} : eBin op f g ρ = (f ρ).bind fun x => (g ρ).bind fun y => ofO (op x y) := Eq.trans rfl rfl
@[simp] theorem ap_eUn {op : PyData → Option PyData} : eUn op f ρ = (f ρ).bind fun x => ofO (op x) := Eq.trans rfl rfl
@[simp] theorem ap_aNil : aNil ρ = .ok [] := Eq.trans rfl rfl
@[simp] theorem ap_aCons : aCons f fa ρ = (f ρ).bind fun x => (fa ρ).bind fun xs => .ok (x :: xs) := Eq.trans rfl rfl
@[simp] theorem ap_eTup : eTup fa ρ = (fa ρ).bind fun xs => if xs.length ≤ 16777216 then .ok (.tuple xs) else .no := Eq.trans rfl rfl
@[simp] theorem ap_eLst : eLst fa ρ = (fa ρ).bind fun xs => if xs.length ≤ 16777216 then .ok (.list xs) else .no := Eq.trans rfl rfl
@[simp] theorem ap_bOf : bOf f ρ = (f ρ).bind asB := Eq.trans rfl rfl
@[simp] theorem ap_bTruth : bTruth f ρ = (f ρ).bind fun x => ofO (truth x) := Eq.trans rfl rfl
@[simp] theorem ap_bNot : bNot t ρ = (t ρ).bind fun b => .ok (!b) := Eq.trans rfl rfl
@[simp] theorem ap_bAnd : bAnd t u ρ = (t ρ).bind fun b => if b = true then u ρ else .ok false := Eq.trans rfl rfl
@[simp] theorem ap_bOr : bOr t u ρ = (t ρ).bind fun b => if b = true then .ok true else u ρ := Eq.trans rfl rfl
@[simp] theorem ap_eAnd : eAnd f g ρ = (f ρ).bind fun x => (asB x).bind fun b => if b = true then g ρ else .ok (.bool false) := Eq.trans rfl rfl
@[simp] theorem ap_eOr : eOr f g ρ = (f ρ).bind fun x => (asB x).bind fun b => if b = true then .ok (.bool true) else g ρ := Eq.trans rfl rfl
@[simp] theorem ap_eNot : eNot f ρ = (f ρ).bind fun x => (asB x).bind fun b => .ok (.bool (!b)) := Eq.trans rfl rfl
@[simp] theorem ap_eIf : eIf t f g ρ = (t ρ).bind fun b => if b = true then f ρ else g ρ := Eq.trans rfl rfl
@[simp] theorem ap_eChain {op op' : PyData → PyData → Option PyData} : eChain op op' f g h ρ = (f ρ).bind fun x => (g ρ).bind fun y => (ofO (op x y)).bind fun z => (asB z).bind fun b => if b = true then (h ρ).bind fun w => ofO (op' y w) else .ok (.bool false) := Eq.trans rfl rfl
@[simp] theorem ap_eCall {k : List PyData → Rs PyData} : eCall fa k ρ = (fa ρ).bind k := Eq.trans rfl rfl
@[simp] theorem ap_pNone : pNone ρ = .ok none := Eq.trans rfl rfl
@[simp] theorem ap_pSome : pSome f ρ = (f ρ).bind fun x => (asI x).bind fun i => .ok (some i) := Eq.trans rfl rfl
@[simp] theorem ap_eSl {op : PyData → Option Int → Option Int → Option PyData} {l h : En → Rs (Option Int)} : eSl op f l h ρ = (f ρ).bind fun x => (l ρ).bind fun a => (h ρ).bind fun b => ofO (op x a b) := Eq.trans rfl rfl
@[simp] theorem ap_eRev : eRev f ρ = (f ρ).bind fun x => ofO (opRev x) := Eq.trans rfl rfl
@[simp] theorem ap_eIsN : eIsN f ρ = (f ρ).bind fun x => .ok (.bool (isNone x)) := Eq.trans rfl rfl
@[simp] theorem ap_eNotN : eNotN f ρ = (f ρ).bind fun x => .ok (.bool (!isNone x)) := Eq.trans rfl rfl
@[simp] theorem ap_eIsi {T : String} : eIsi T f ρ = (f ρ).bind fun x => .ok (.bool (isTy T x)) := Eq.trans rfl rfl
@[simp] theorem asB_bool (b : Bool) : asB (.bool b) = .ok b := Eq.trans rfl rfl
@[simp] theorem asI_int (i : Int) : asI (.int i) = .ok i := Eq.trans rfl rfl
@[simp] theorem ap_sNil : sNil ρ = .nx ρ := Eq.trans rfl rfl
@[simp] theorem ap_sSeq : sSeq F G ρ = (F ρ).thn G := by unfold sSeq; cases F ρ <;> rfl
@[simp] theorem ap_sDrop : sDrop f ρ = andThen (f ρ) ρ fun _ => .nx ρ := Eq.trans rfl rfl
@[simp] theorem ap_sRet : sRet f ρ = andThen (f ρ) ρ .rt := Eq.trans rfl rfl
@[simp] theorem ap_sRetN : sRetN ρ = .rt .none := Eq.trans rfl rfl
@[simp] theorem ap_sIf : sIf t F G ρ = andThen (t ρ) ρ fun b => if b = true then F ρ else G ρ := Eq.trans rfl rfl
@[simp] theorem ap_sAsg {k : PyData → En → Option En} : sAsg f k ρ = andThen (f ρ) ρ fun x => optE (k x ρ) .nx := by
  unfold sAsg
  cases f ρ with
  | ok x => simp only [andThen_ok]; cases k x ρ <;> rfl
  | er x => rfl
  | no => rfl
@[simp] theorem ap_sSet {i : Nat} : sSet i f ρ = andThen (f ρ) ρ fun x => .nx (ρ.set i (some (.d x))) := Eq.trans rfl rfl
@[simp] theorem ap_sRaise {x : Str} : sRaise x ρ = .er (.plain x) ρ := Eq.trans rfl rfl
@[simp] theorem ap_sBreak : sBreak ρ = .bk ρ := Eq.trans rfl rfl
@[simp] theorem ap_sCont : sCont ρ = .ct ρ := Eq.trans rfl rfl
@[simp] theorem ap_gNm {i : Nat} {x : PyData} : gNm i x ρ = some (ρ.set i (some (.d x))) := Eq.trans rfl rfl
@[simp] theorem ap_gsNil : gsNil [] ρ = some ρ := Eq.trans rfl rfl
@[simp] theorem ap_gsCons {k : PyData → En → Option En} {ks : List PyData → En → Option En} {x : PyData} {r : List PyData} : gsCons k ks (x :: r) ρ = (k x ρ).bind (ks r) := Eq.trans rfl rfl
@[simp] theorem ap_gTp {n : Nat} {ks : List PyData → En → Option En} {xs : List PyData} : gTp n ks (.tuple xs) ρ = if xs.length = n then ks xs ρ else none := Eq.trans rfl rfl
@[simp] theorem ap_sWhile {n : En → Nat} : sWhile n t F ρ = wLoop t F (n ρ) ρ := Eq.trans rfl rfl
theorem wLoop_succ {n : Nat} : wLoop t F (n + 1) ρ = andThen (t ρ) ρ fun k => if k = true then (F ρ).lp (wLoop t F n) else .nx ρ := by
  show andThen (t ρ) ρ _ = _
  congr 1
  funext k
  cases k with
  | false => rfl
  | true => simp only [if_true]; cases F ρ <;> rfl
@[simp] theorem ap_sFor {s : En → Rs (List PyData)} {k : PyData → En → Option En} : sFor s k F ρ = andThen (s ρ) ρ fun xs => fLoop k F xs ρ := Eq.trans rfl rfl
@[simp] theorem fLoop_nil {k : PyData → En → Option En} : fLoop k F [] ρ = .nx ρ := Eq.trans rfl rfl
theorem fLoop_cons {k : PyData → En → Option En} {x : PyData} {xs : List PyData} : fLoop k F (x :: xs) ρ = optE (k x ρ) fun ρ1 => (F ρ1).lp (fLoop k F xs) := by
  show (match k x ρ with | some ρ1 => _ | none => _) = _
  cases k x ρ with
  | none => rfl
  | some ρ1 => simp only [optE_some]; cases F ρ1 <;> rfl
@[simp] theorem ap_iRg {r : List PyData → Rs (List PyData)} : iRg r fa ρ = (fa ρ).bind r := Eq.trans rfl rfl
@[simp] theorem ap_iSq : iSq f ρ = (f ρ).bind asIt := Eq.trans rfl rfl
@[simp] theorem asIt_tuple (xs : List PyData) : asIt (.tuple xs) = .ok xs := Eq.trans rfl rfl
@[simp] theorem asIt_list (xs : List PyData) : asIt (.list xs) = .ok xs := Eq.trans rfl rfl
@[simp] theorem asIt_scr (xs : List PyData) : asIt (.dict [(.none, .list xs)]) = .ok xs := Eq.trans rfl rfl
@[simp] theorem asIt_str (z : Str) : asIt (.str z) = .ok (signs z) := Eq.trans rfl rfl
@[simp] theorem ap_bYes : bYes ρ = .ok true := Eq.trans rfl rfl
@[simp] theorem ap_eLc {own : List Nat} {s : En → Rs (List PyData)} {k : PyData → En → Option En} : eLc own s k t f ρ = (s ρ).bind fun xs => if xs.length ≤ 16777216 then (cLoop k t f (wipeE ρ own) xs).bind fun ys => .ok (.list ys) else .no := Eq.trans rfl rfl
@[simp] theorem cLoop_nil {k : PyData → En → Option En} : cLoop k t f ρ [] = .ok [] := Eq.trans rfl rfl
theorem cLoop_cons {k : PyData → En → Option En} {x : PyData} {xs : List PyData} : cLoop k t f ρ (x :: xs) = optR (k x ρ) fun ρ1 => nE (t ρ1) fun b => if b = true then nE (f ρ1) fun y => nE (cLoop k t f ρ xs) fun ys => .ok (y :: ys) else cLoop k t f ρ xs := by
  show (match k x ρ with | some ρ1 => _ | none => _) = _
  cases k x ρ with
  | none => rfl
  | some ρ1 =>
    simp only [optR_some]
    cases t ρ1 with
    | er x => rfl
    | no => rfl
    | ok b =>
      cases b with
      | false => rfl
      | true =>
        simp only [nE_ok, if_true]
        cases f ρ1 with
        | er x => rfl
        | no => rfl
        | ok y =>
          simp only [nE_ok]
          cases cLoop k t f ρ xs <;> rfl
/-- a comprehension whose turns all go through, each by itself -/
theorem cLoop_map {k : PyData → En → Option En} {α : Type} {e : α → PyData} {r : α → PyData} : ∀ {xs : List α}, (∀ x ∈ xs, ∃ ρ1, k (e x) ρ = some ρ1 ∧ t ρ1 = .ok true ∧ f ρ1 = .ok (r x)) → cLoop k t f ρ (xs.map e) = .ok (xs.map r)
  | [], _ => rfl
  | x :: xs, h => by
    obtain ⟨ρ1, h1, h2, h3⟩ := h x List.mem_cons_self
    rw [List.map_cons, cLoop_cons, h1]
    simp only [optR_some, h2, nE_ok, if_true, h3, cLoop_map fun y hy => h y (List.mem_cons_of_mem _ hy), List.map_cons]
theorem cLoop_filter {k : PyData → En → Option En} {α : Type} {e : α → PyData} {p : α → Bool} {r : α → PyData} : ∀ {xs : List α}, (∀ x ∈ xs, ∃ ρ1, k (e x) ρ = some ρ1 ∧ t ρ1 = .ok (p x) ∧ (p x = true → f ρ1 = .ok (r x))) → cLoop k t f ρ (xs.map e) = .ok ((xs.filter p).map r)
  | [], _ => rfl
  | x :: xs, h => by
    obtain ⟨ρ1, h1, h2, h3⟩ := h x List.mem_cons_self
    have ih := cLoop_filter fun y hy => h y (List.mem_cons_of_mem _ hy)
    rw [List.map_cons, cLoop_cons, h1]
    cases e1 : p x with
    | true => simp only [optR_some, h2, nE_ok, if_true, h3 e1, ih, List.filter_cons, e1, List.map_cons]
    | false => simp only [optR_some, h2, nE_ok, e1, Bool.false_eq_true, if_false, ih, List.filter_cons]
@[simp] theorem wipeE_nil : wipeE ρ [] = ρ := Eq.trans rfl rfl
@[simp] theorem wipeE_cons {v : Nat} {vs : List Nat} : wipeE ρ (v :: vs) = (wipeE ρ vs).set v none := Eq.trans rfl rfl
theorem runB_eq {n m : Nat} {ds : List PyData} : runB n m F ds = if ds.length = n then (F (ds.map (fun d => some (B.d d)) ++ List.replicate (m - n) none)).val else .no := by
  unfold runB
  split
  · cases F _ <;> rfl
  · rfl
/-- a def's run, from its parameters -/
theorem runB_of {n m : Nat} {ds : List PyData} (h : ds.length = n) : runB n m F ds = (F (ds.map (fun d => some (B.d d)) ++ List.replicate (m - n) none)).val := by rw [runB_eq, if_pos h]
end
/-! operators on known kinds -/
@[simp] theorem opAdd_int (i j : Int) : opAdd (.int i) (.int j) = some (.int (i + j)) := Eq.trans rfl rfl
@[simp] theorem opAdd_tup (xs ys : List PyData) : opAdd (.tuple xs) (.tuple ys) = if xs.length + ys.length ≤ 16777216 then some (.tuple (xs ++ ys)) else none := Eq.trans rfl rfl
@[simp] theorem opAdd_lst (xs ys : List PyData) : opAdd (.list xs) (.list ys) = if xs.length + ys.length ≤ 16777216 then some (.list (xs ++ ys)) else none := Eq.trans rfl rfl
@[simp] theorem opAdd_str (x y : Str) : opAdd (.str x) (.str y) = if x.length + y.length ≤ 16777216 then some (.str (x ++ y)) else none := Eq.trans rfl rfl
@[simp] theorem opSub_int (i j : Int) : opSub (.int i) (.int j) = some (.int (i - j)) := Eq.trans rfl rfl
@[simp] theorem opMul_int (i j : Int) : opMul (.int i) (.int j) = if mulOk i j then some (.int (i * j)) else none := Eq.trans rfl rfl
@[simp] theorem opMul_lst (xs : List PyData) (k : Int) : opMul (.list xs) (.int k) = if k < 9223372036854775808 ∧ -9223372036854775808 ≤ k ∧ xs.length * k.toNat ≤ 16777216 then some (.list (List.replicate k.toNat xs).flatten) else none := Eq.trans rfl rfl
@[simp] theorem opMul_tup (xs : List PyData) (k : Int) : opMul (.tuple xs) (.int k) = if -1000000 ≤ k ∧ k ≤ 8000 ∧ xs.length ≤ 1000 then some (.tuple (List.replicate k.toNat xs).flatten) else none := Eq.trans rfl rfl
@[simp] theorem opMod_int (i j : Int) : opMod (.int i) (.int j) = if 0 < j then some (.int (i % j)) else none := Eq.trans rfl rfl
@[simp] theorem opDiv_int (i j : Int) : opDiv (.int i) (.int j) = if 0 < j ∧ j < 1073741824 then some (.int (i / j)) else none := Eq.trans rfl rfl
@[simp] theorem opShr_int (i j : Int) : opShr (.int i) (.int j) = if 0 ≤ j then some (.int (i / 2 ^ j.toNat)) else none := Eq.trans rfl rfl
@[simp] theorem opShl_int (i j : Int) : opShl (.int i) (.int j) = if 0 ≤ j ∧ j ≤ 1000000 ∧ i.natAbs < 18446744073709551616 then some (.int (i * 2 ^ j.toNat)) else none := Eq.trans rfl rfl
@[simp] theorem opAnd_int (i j : Int) : opAnd (.int i) (.int j) = some (.int (Builtin.bitAnd i j)) := Eq.trans rfl rfl
@[simp] theorem opXor_int (i j : Int) : opXor (.int i) (.int j) = some (.int (Builtin.bitXor i j)) := Eq.trans rfl rfl
@[simp] theorem opNeg_int (i : Int) : opNeg (.int i) = some (.int (-i)) := Eq.trans rfl rfl
@[simp] theorem opLt_int (i j : Int) : opLt (.int i) (.int j) = some (.bool (decide (i < j))) := Eq.trans rfl rfl
@[simp] theorem opLe_int (i j : Int) : opLe (.int i) (.int j) = some (.bool (decide (i ≤ j))) := Eq.trans rfl rfl
@[simp] theorem opGt_int (i j : Int) : opGt (.int i) (.int j) = some (.bool (decide (j < i))) := Eq.trans rfl rfl
@[simp] theorem opGe_int (i j : Int) : opGe (.int i) (.int j) = some (.bool (decide (j ≤ i))) := Eq.trans rfl rfl
@[simp] theorem opEq_int (i j : Int) : opEq (.int i) (.int j) = some (.bool (decide (i = j))) := Eq.trans rfl rfl
@[simp] theorem opEq_str (i j : Str) : opEq (.str i) (.str j) = some (.bool (decide (i = j))) := Eq.trans rfl rfl
@[simp] theorem opEq_bool (i j : Bool) : opEq (.bool i) (.bool j) = some (.bool (decide (i = j))) := Eq.trans rfl rfl
@[simp] theorem opNe_bool (i j : Bool) : opNe (.bool i) (.bool j) = some (.bool (!decide (i = j))) := Eq.trans rfl rfl
@[simp] theorem opNe_int (i j : Int) : opNe (.int i) (.int j) = some (.bool (!decide (i = j))) := Eq.trans rfl rfl
@[simp] theorem opNe_str (i j : Str) : opNe (.str i) (.str j) = some (.bool (!decide (i = j))) := Eq.trans rfl rfl
@[simp] theorem opIx_tup (xs : List PyData) (i : Int) : opIx (.tuple xs) (.int i) = atI xs i := Eq.trans rfl rfl
@[simp] theorem opIx_lst (xs : List PyData) (i : Int) : opIx (.list xs) (.int i) = atI xs i := Eq.trans rfl rfl
@[simp] theorem opIx_scr (xs : List PyData) (i : Int) : opIx (.dict [(.none, .list xs)]) (.int i) = atI xs i := Eq.trans rfl rfl
@[simp] theorem opSl_tup (xs : List PyData) (l h : Option Int) : opSl (.tuple xs) l h = some (.tuple (cutD xs l h)) := Eq.trans rfl rfl
@[simp] theorem opSl_lst (xs : List PyData) (l h : Option Int) : opSl (.list xs) l h = some (.list (cutD xs l h)) := Eq.trans rfl rfl
@[simp] theorem opSl_scr (xs : List PyData) (l h : Option Int) : opSl (.dict [(.none, .list xs)]) l h = some (.list (cutD xs l h)) := Eq.trans rfl rfl
@[simp] theorem opRev_tup (xs : List PyData) : opRev (.tuple xs) = some (.tuple xs.reverse) := Eq.trans rfl rfl
@[simp] theorem opRev_lst (xs : List PyData) : opRev (.list xs) = some (.list xs.reverse) := Eq.trans rfl rfl
@[simp] theorem fLen_tup (xs : List PyData) : fLen [.tuple xs] = some (.int xs.length) := Eq.trans rfl rfl
@[simp] theorem fLen_lst (xs : List PyData) : fLen [.list xs] = some (.int xs.length) := Eq.trans rfl rfl
@[simp] theorem fLen_scr (xs : List PyData) : fLen [.dict [(.none, .list xs)]] = some (.int xs.length) := Eq.trans rfl rfl
@[simp] theorem fMax_int (i j : Int) : fMax [.int i, .int j] = some (.int (if j > i then j else i)) := Eq.trans rfl rfl
@[simp] theorem fMin_int (i j : Int) : fMin [.int i, .int j] = some (.int (if j < i then j else i)) := Eq.trans rfl rfl
@[simp] theorem fTuple_lst (xs : List PyData) : fTuple [.list xs] = some (.tuple xs) := Eq.trans rfl rfl
@[simp] theorem fTuple_tup (xs : List PyData) : fTuple [.tuple xs] = some (.tuple xs) := Eq.trans rfl rfl
@[simp] theorem fList_lst (xs : List PyData) : fList [.list xs] = some (.list xs) := Eq.trans rfl rfl
@[simp] theorem fList_tup (xs : List PyData) : fList [.tuple xs] = some (.list xs) := Eq.trans rfl rfl
@[simp] theorem truth_int (i : Int) : truth (.int i) = some (i != 0) := Eq.trans rfl rfl
@[simp] theorem truth_bool (i : Bool) : truth (.bool i) = some i := Eq.trans rfl rfl
@[simp] theorem truth_none : truth .none = some false := Eq.trans rfl rfl
@[simp] theorem truth_tup (xs : List PyData) : truth (.tuple xs) = some (!xs.isEmpty) := Eq.trans rfl rfl
@[simp] theorem truth_lst (xs : List PyData) : truth (.list xs) = some (!xs.isEmpty) := Eq.trans rfl rfl
@[simp] theorem truth_scr (xs : List PyData) : truth (.dict [(.none, .list xs)]) = some (!xs.isEmpty) := Eq.trans rfl rfl
theorem rgOk_of {i : Int} (h : -1000000000 < i) (h2 : i < 1000000000) : rgOk i := ⟨by omega, by omega⟩
@[simp] theorem rng1_int (j : Int) (h : -1000000000 < j) (h2 : j < 1000000000) : rng1 [.int j] = .ok (rgD 0 j.toNat) := if_pos (rgOk_of h h2)
@[simp] theorem rng2_int (i j : Int) (h : -1000000000 < i) (h2 : i < 1000000000) (h3 : -1000000000 < j) (h4 : j < 1000000000) : rng2 [.int i, .int j] = .ok (rgD i (j - i).toNat) := if_pos ⟨rgOk_of h h2, rgOk_of h3 h4⟩
theorem rng3_int (i j c : Int) : rng3 [.int i, .int j, .int c] = if c ≠ 0 ∧ c.natAbs < 1073741824 ∧ Builtin.Range.small i j c = true ∧ 0 ≤ Builtin.Range.rangeSize i j c then .ok (rgC i c (Builtin.Range.rangeSize i j c).toNat) else .no := rfl
theorem rgC_8 : rng3 [.int 7, .int (-1), .int (-1)] = .ok [.int 7, .int 6, .int 5, .int 4, .int 3, .int 2, .int 1, .int 0] := by
  have e1 : Builtin.Range.rangeSize 7 (-1) (-1) = 8 := by decide
  have e2 : Builtin.Range.small 7 (-1) (-1) = true := by decide
  rw [rng3_int, if_pos ⟨by decide, by decide, e2, by rw [e1]; decide⟩, e1]
  rfl
theorem rgD_succ (lo : Int) (n : Nat) : rgD lo (n + 1) = .int lo :: rgD (lo + 1) n := by
  unfold rgD
  rw [List.range_succ_eq_map, List.map_cons, List.map_map]
  congr 1
  · simp
  · refine List.map_congr_left fun i _ => ?_
    simp only [Function.comp]
    congr 1
    omega
@[simp] theorem rgD_zero (lo : Int) : rgD lo 0 = [] := Eq.trans rfl rfl
theorem mulOk_l {i j : Int} (h : -18446744073709551616 < i) (h2 : i < 18446744073709551616) : mulOk i j := .inl ⟨h, h2⟩
theorem mulOk_r {i j : Int} (h : -18446744073709551616 < j) (h2 : j < 18446744073709551616) : mulOk i j := .inr ⟨h, h2⟩
/-- cuts by natural places -/
theorem cutD_nat {α : Type} (xs : List α) (a b : Nat) (h : a ≤ b) : cutD xs (some (a : Int)) (some (b : Int)) = (xs.drop a).take (b - a) := by
  unfold cutD
  rw [HT.sIx_nat, HT.sIx_nat]
  by_cases h1 : b ≤ xs.length
  · rw [Nat.min_eq_left h1, Nat.min_eq_left (by omega)]
  · by_cases h2 : a ≤ xs.length
    · rw [Nat.min_eq_left h2, Nat.min_eq_right (by omega)]
      rw [List.take_of_length_le (by simp), List.take_of_length_le (by simp; omega)]
    · rw [Nat.min_eq_right (show xs.length ≤ b by omega), Nat.min_eq_right (show xs.length ≤ a by omega), List.drop_eq_nil_of_le (Nat.le_refl _), List.drop_eq_nil_of_le (by omega)]
      simp
theorem cutD_to {α : Type} (xs : List α) (b : Nat) : cutD xs none (some (b : Int)) = xs.take b := by
  unfold cutD
  rw [HT.sIx_none, HT.sIx_nat, List.drop_zero, Nat.sub_zero]
  by_cases h : b ≤ xs.length
  · rw [Nat.min_eq_left h]
  · rw [Nat.min_eq_right (by omega), List.take_of_length_le (Nat.le_refl _), List.take_of_length_le (by omega)]
theorem cutD_from {α : Type} (xs : List α) (a : Nat) : cutD xs (some (a : Int)) none = xs.drop a := by
  unfold cutD
  rw [HT.sIx_none, HT.sIx_nat]
  by_cases h : a ≤ xs.length
  · rw [Nat.min_eq_left h, List.take_of_length_le (by simp)]
  · rw [Nat.min_eq_right (by omega), List.drop_eq_nil_of_le (Nat.le_refl _), List.drop_eq_nil_of_le (by omega)]
    simp
theorem cutD_map {α β : Type} (f : α → β) (xs : List α) (l h : Option Int) : cutD (xs.map f) l h = (cutD xs l h).map f := by
  unfold cutD
  rw [List.length_map, List.map_take, List.map_drop]
theorem atI_map {α β : Type} (f : α → β) (xs : List α) (i : Int) : atI (xs.map f) i = (atI xs i).map f := by
  unfold atI
  rw [List.length_map]
  cases ixN xs.length i <;> simp
theorem atI_of {α : Type} {xs : List α} {i : Int} {j : Nat} (h : i = (j : Int)) (hj : j < xs.length) : atI xs i = some xs[j] := by
  subst h
  exact atI_nat (List.getElem?_eq_getElem hj)
abbrev tN (l : List Int) : PyData := .tuple (l.map PyData.int)
theorem fLoop_inv {g : PyData → En → Option En} {F : En → Out} {P : En → Prop} : ∀ {xs : List PyData} {ρ : En}, (∀ x ∈ xs, ∀ ρ, P ρ → ∃ ρ1 ρ', g x ρ = some ρ1 ∧ (F ρ1 = .nx ρ' ∨ F ρ1 = .ct ρ') ∧ P ρ') → P ρ → ∃ ρ', fLoop g F xs ρ = .nx ρ' ∧ P ρ'
  | [], ρ, _, p => ⟨ρ, rfl, p⟩
  | x :: xs, ρ, h, p => by
    obtain ⟨ρ1, ρ', h1, h2, p'⟩ := h x List.mem_cons_self ρ p
    obtain ⟨ρ2, h3, p2⟩ := fLoop_inv (fun y hy => h y (List.mem_cons_of_mem _ hy)) p'
    refine ⟨ρ2, ?_, p2⟩
    rw [fLoop_cons, h1]
    rcases h2 with h2 | h2 <;> simp [h2, h3]
/-- it goes on, and P holds behind -/
def Goes (P : En → Prop) (o : Out) : Prop := ∃ ρ', (o = .nx ρ' ∨ o = .ct ρ') ∧ P ρ'
theorem Goes.nx {P : En → Prop} {ρ : En} (h : P ρ) : Goes P (.nx ρ) := ⟨ρ, .inl rfl, h⟩
theorem fLoop_goes {g : PyData → En → Option En} {F : En → Out} {P : En → Prop} {xs : List PyData} {ρ : En} (h : ∀ x ∈ xs, ∀ ρ, P ρ → ∃ ρ1, g x ρ = some ρ1 ∧ Goes P (F ρ1)) (p : P ρ) : ∃ ρ', fLoop g F xs ρ = .nx ρ' ∧ P ρ' :=
  fLoop_inv (fun x hx ρ p => let ⟨ρ1, h1, ρ', h2, h3⟩ := h x hx ρ p; ⟨ρ1, ρ', h1, h2, h3⟩) p
theorem thn_ex {o : Out} {G : En → Out} {P : En → Prop} {Q : Out → Prop} (h : ∃ ρ2, o = .nx ρ2 ∧ P ρ2) (h2 : ∀ ρ2, P ρ2 → Q (G ρ2)) : Q (o.thn G) := by
  obtain ⟨ρ2, rfl, p⟩ := h
  exact h2 ρ2 p
theorem thn_eq {o : Out} {G : En → Out} {r : Out} (ρ2 : En) (h : o = .nx ρ2) (h2 : G ρ2 = r) : o.thn G = r := by rw [h]; exact h2
/-- the same, with the number of the turn -/
theorem fLoop_ix {g : PyData → En → Option En} {F : En → Out} {P : Nat → En → Prop} : ∀ {xs : List PyData} {n : Nat} {ρ : En}, (∀ i x, xs[i]? = some x → ∀ ρ, P (n + i) ρ → ∃ ρ1 ρ', g x ρ = some ρ1 ∧ (F ρ1 = .nx ρ' ∨ F ρ1 = .ct ρ') ∧ P (n + i + 1) ρ') → P n ρ → ∃ ρ', fLoop g F xs ρ = .nx ρ' ∧ P (n + xs.length) ρ'
  | [], n, ρ, _, p => ⟨ρ, rfl, p⟩
  | x :: xs, n, ρ, h, p => by
    obtain ⟨ρ1, ρ', h1, h2, p'⟩ := h 0 x rfl ρ p
    obtain ⟨ρ2, h3, p2⟩ := fLoop_ix (n := n + 1) (P := P) (fun i y hy ρ q => by
      have := h (i + 1) y hy ρ (by rw [← Nat.add_assoc, Nat.add_right_comm]; exact q)
      rwa [show n + (i + 1) + 1 = n + 1 + i + 1 by omega] at this) p'
    refine ⟨ρ2, ?_, by rw [List.length_cons, show n + (xs.length + 1) = n + 1 + xs.length by omega]; exact p2⟩
    rw [fLoop_cons, h1]
    rcases h2 with h2 | h2 <;> simp [h2, h3]
theorem bools_map : ∀ bs : List Bool, bools (bs.map PyData.bool) = some bs
  | [] => rfl
  | b :: bs => by
    show (bools (bs.map PyData.bool)).map _ = _
    rw [bools_map bs]
    rfl
@[simp] theorem fAll_map (bs : List Bool) : fAll [.list (bs.map PyData.bool)] = some (.bool (bs.all id)) := by
  show (bools _).map _ = _
  rw [bools_map]
  rfl
@[simp] theorem fAny_map (bs : List Bool) : fAny [.list (bs.map PyData.bool)] = some (.bool (bs.any id)) := by
  show (bools _).map _ = _
  rw [bools_map]
  rfl
theorem zip_self (xs : List PyData) : zipD xs xs = xs.map fun x => .tuple [x, x] := by
  induction xs with
  | nil => rfl
  | cons x xs ih => rw [List.map_cons, ← ih]; rfl
/-- what «same» answers True of, twice: no lists, so deep -/
def okD : Nat → PyData → Bool
  | 0, _ => false
  | n + 1, .tuple xs => decide (xs.length ≤ 16777216) && xs.all (okD n)
  | _, .list _ => false
  | _, .dict _ => false
  | _, _ => true
theorem okD_tN (n : Nat) (l : List Int) (h : l.length ≤ 16777216) : okD (n + 2) (tN l) = true := by
  simp [okD, h]
end D2

namespace D2
open PySem PySem.Spec PyProof.Rows L2
/-! ### try: body, except X: suite, .. (no suite raises) -/
/-- of the class named, does it lie below the clause's? -/
abbrev Rel := Str → Option Bool
def noEr : Out → Out
  | .er _ _ => .no
  | o => o
def pick (x : Ex) (ρ : En) : List (Rel × (En → Out)) → Out
  | [] => .er x ρ
  | (r, G) :: l => match r x.cls with
    | some true => noEr (G ρ)
    | some false => pick x ρ l
    | none => .no
def sTry (F : En → Out) (l : List (Rel × (En → Out))) : En → Out := fun ρ => match F ρ with
  | .er x ρ' => pick x ρ' l
  | o => o
section
variable {X : Cx} {c : Ct} {pos : Pos} {F : En → Out}
def RelOf (X : Cx) (r : Rel) (cv : Value) : Prop := ∀ n C b, r n = some b → X.mg n = some C → PySem.W.exmOne X.K C cv = some b
end
/-- what is never reached -/
def sNo : En → Out := fun _ => .no
def eNo : En → Rs PyData := fun _ => .no
theorem ds_no {X : Cx} {c : Ct} {st : Stmt} : DS X c st sNo := ⟨fun pins s σ H D I ⟨_, _, _, h⟩ => (show False from h).elim⟩
theorem de_no {X : Cx} {c : Ct} {e : Expr} : DE X c e eNo := ⟨fun pins s σ H Q I ⟨_, _, _, h⟩ => (show False from h).elim⟩
theorem dt_no {X : Cx} {c : Ct} {e : Expr} : DT X c e (bTruth eNo) := ⟨fun pins s σ H Q I ⟨_, _, _, h⟩ => (show False from h).elim⟩
theorem exm_of {K : PySem.W.Frag} {A : Value} {S : Addr} {b : Bool} (h1 : PySem.W.subIn K (.ref S) (.type "BaseException") = some true) (h2 : PySem.W.isClsIn K S = true) (h3 : PySem.W.typeIn K (.ref S) = some (.type "type")) (h4 : PySem.W.subIn K A (.ref S) = some b) :
    PySem.W.exmOne K A (.ref S) = some b := by
  have e1 : (PySem.W.subIn K (.ref S) (.type "BaseException") == some true) = true := by rw [h1] <;> rfl
  have e2 : ((PySem.W.clsIn K S).isSome && PySem.W.typeIn K (.ref S) == some (.type "type")) = true := by
    have h2' : (PySem.W.clsIn K S).isSome = true := h2
    rw [h2', h3] <;> rfl
  show (if (PySem.W.subIn K (.ref S) (.type "BaseException") == some true) = true then (if ((PySem.W.clsIn K S).isSome && PySem.W.typeIn K (.ref S) == some (.type "type")) = true then PySem.W.subIn K A (.ref S) else none) else none) = some b
  rw [if_pos e1, if_pos e2]
  exact h4
/-- the table of the classes told -/
def relT (t : List (Str × Bool)) : Rel := fun n => t.lookup n
theorem rel_of {X : Cx} {cv : Value} {t : List (Str × Bool)} (h : ∀ p ∈ t, ∀ C, X.mg p.1 = some C → PySem.W.exmOne X.K C cv = some p.2) : RelOf X (relT t) cv := by
  intro n C b e m
  unfold relT at e
  induction t with
  | nil => cases e
  | cons p t ih =>
    obtain ⟨k, v⟩ := p
    rw [List.lookup_cons] at e
    by_cases q : (n == k) = true
    · rw [q] at e
      cases e
      have := eq_of_beq q
      subst this
      exact h (n, b) List.mem_cons_self C m
    · rw [Bool.not_eq_true] at q
      rw [q] at e
      exact ih (fun p hp => h p (List.mem_cons_of_mem _ hp)) e
section
variable (x : Ex) (ρ : En) (r : Rel) (G : En → Out) (l : List (Rel × (En → Out)))
@[simp] theorem pick_nil : pick x ρ [] = .er x ρ := Eq.trans rfl rfl
@[simp] theorem pick_cons : pick x ρ ((r, G) :: l) = match r x.cls with
    | some true => noEr (G ρ)
    | some false => pick x ρ l
    | none => .no := Eq.trans rfl rfl
@[simp] theorem noEr_nx : noEr (.nx ρ) = .nx ρ := Eq.trans rfl rfl
@[simp] theorem noEr_rt (d : PyData) : noEr (.rt d) = .rt d := Eq.trans rfl rfl
@[simp] theorem noEr_ct : noEr (.ct ρ) = .ct ρ := Eq.trans rfl rfl
@[simp] theorem noEr_bk : noEr (.bk ρ) = .bk ρ := Eq.trans rfl rfl
@[simp] theorem relT_hit (k : Str) (b : Bool) (t : List (Str × Bool)) (n : Str) : relT ((k, b) :: t) n = if n == k then some b else relT t n := by
  unfold relT
  rw [List.lookup_cons]
  cases n == k <;> rfl
@[simp] theorem cls_plain (c : Str) : (Ex.plain c).cls = c := Eq.trans rfl rfl
@[simp] theorem cls_wth (c f : Str) (x : PyData) : (Ex.wth c f x).cls = c := Eq.trans rfl rfl
end
theorem sTry_nx {F : En → Out} {l} {ρ ρ' : En} (h : F ρ = .nx ρ') : sTry F l ρ = .nx ρ' := by unfold sTry; rw [h]
theorem sTry_rt {F : En → Out} {l} {ρ : En} {d : PyData} (h : F ρ = .rt d) : sTry F l ρ = .rt d := by unfold sTry; rw [h]
theorem sTry_er {F : En → Out} {l} {ρ ρ' : En} {x : Ex} (h : F ρ = .er x ρ') : sTry F l ρ = pick x ρ' l := by unfold sTry; rw [h]
def tryK (l : List (Rel × (En → Out))) : Out → Out
  | .er x ρ => pick x ρ l
  | o => o
@[simp] theorem sTry_ap (F : En → Out) (l) (ρ : En) : sTry F l ρ = tryK l (F ρ) := by unfold sTry tryK; rfl
@[simp] theorem tryK_nx (l) (ρ : En) : tryK l (.nx ρ) = .nx ρ := Eq.trans rfl rfl
@[simp] theorem tryK_rt (l) (d : PyData) : tryK l (.rt d) = .rt d := Eq.trans rfl rfl
@[simp] theorem tryK_ct (l) (ρ : En) : tryK l (.ct ρ) = .ct ρ := Eq.trans rfl rfl
@[simp] theorem tryK_bk (l) (ρ : En) : tryK l (.bk ρ) = .bk ρ := Eq.trans rfl rfl
@[simp] theorem tryK_er (l) (x : Ex) (ρ : En) : tryK l (.er x ρ) = pick x ρ l := Eq.trans rfl rfl
end D2

namespace D2
open PySem PySem.Spec PyProof.Rows L2
/-! ### lists that the frame alone holds -/
mutual
/-- no list and no dict in it -/
def plain : PyData → Bool
  | .tuple xs => plainAll xs
  | .list _ => false
  | .dict _ => false
  | _ => true
def plainAll : List PyData → Bool
  | [] => true
  | d :: ds => plain d && plainAll ds
end
def frzB : Option B → Option B
  | some (.l xs) => some (.d (.list xs))
  | o => o
/-- the slot's list is changed no more -/
def frz1 : Nat → En → En
  | _, [] => []
  | 0, b :: ρ => frzB b :: ρ
  | i + 1, b :: ρ => b :: frz1 i ρ
def borR : Rs PyData → Rs PyData
  | .ok d => if plain d = true then .ok d else .no
  | .er (.plain c) => .er (.plain c)
  | _ => .no
def borB {α : Type} : Rs α → Rs α
  | .ok d => .ok d
  | .er (.plain c) => .er (.plain c)
  | _ => .no
def borA : Rs (List PyData) → Rs (List PyData)
  | .ok d => if plainAll d = true then .ok d else .no
  | .er (.plain c) => .er (.plain c)
  | _ => .no
def eB (i : Nat) (f : En → Rs PyData) : En → Rs PyData := fun ρ => borR (f (frz1 i ρ))
def bB {α : Type} (i : Nat) (f : En → Rs α) : En → Rs α := fun ρ => borB (f (frz1 i ρ))
def aB (i : Nat) (f : En → Rs (List PyData)) : En → Rs (List PyData) := fun ρ => borA (f (frz1 i ρ))
def sFrz (i : Nat) (F : En → Out) : En → Out := fun ρ => F (frz1 i ρ)

theorem frz1_l : ∀ {i : Nat} {ρ : En} {xs : List PyData}, ρ[i]? = some (some (.l xs)) → frz1 i ρ = ρ.set i (some (.d (.list xs)))
  | i, [], xs, h => by simp at h
  | 0, b :: ρ, xs, h => by
    simp at h
    subst h
    rfl
  | i + 1, b :: ρ, xs, h => by
    simp at h
    rw [frz1, frz1_l h]
    rfl
theorem frz1_no : ∀ {i : Nat} {ρ : En}, (∀ xs, ρ[i]? ≠ some (some (.l xs))) → frz1 i ρ = ρ
  | i, [], h => by cases i <;> rfl
  | 0, b :: ρ, h => by
    rw [frz1]
    cases b with
    | none => rfl
    | some b =>
      cases b with
      | l xs => exact absurd rfl (h xs)
      | d _ => rfl
      | k _ => rfl
      | f _ => rfl
      | t _ => rfl
  | i + 1, b :: ρ, h => by
    rw [frz1, frz1_no fun xs => by simpa using h xs]
section
variable {K : PySem.W.Frag} {wd : World} {mg : Str → Option Value} {H0 S0 S H : Hp} {ρ : En} {σ : St} {a : Addr} {vs : List V}
theorem same_updS {o : HO} (hS : S a = none) : Same S (upd S a o) := fun b u q => by rw [upd_ne (ne_of_none q hS)]; exact q
/-- the list joins what is shared -/
theorem old_frz (o : Old H0 S0 S H) {u : HO} (hS : S a = none) (hH : H a = some u) (h0 : H0 a = none) : Old H0 S0 (upd S a u) H := by
  refine ⟨o.ext, fun b v q => ?_, o.s0.trans (same_updS hS), fun b v q => ?_⟩
  · by_cases hb : b = a
    · subst hb; rw [upd_same] at q; rw [← q]; exact hH
    · rw [upd_ne hb] at q; exact o.sub b v q
  · rw [upd_ne (ne_of_none q h0)]; exact o.old b v q
theorem repFrz1 (r : Rep K wd H0 S0 S ρ σ H) {i : Nat} {xs : List PyData} (e : ρ[i]? = some (some (.l xs))) :
    ∃ a vs, S a = none ∧ H a = some (.lst vs) ∧ Rep K wd H0 S0 (upd S a (.lst vs)) (D2.frz1 i ρ) σ H := by
  obtain ⟨v, e1, a, vs, rfl, h1, h2, h3, h4⟩ := r.slot i _ e
  refine ⟨a, vs, h2, h1, ?_⟩
  rw [frz1_l e]
  have sm : Same S (upd S a (.lst vs)) := same_updS h2
  refine ⟨old_frz r.old h2 h1 h3, fun j b eb => ?_, fun j l b c hn e1 e2 o1 o2 => ?_, by simpa using r.len⟩
  · rcases getE_set eb with ⟨rfl, eq⟩ | ⟨hn, eb⟩
    · cases Option.some.inj eq
      exact ⟨_, e1, .lst (.of upd_same) (dps_mono sm _ _ h4)⟩
    · obtain ⟨w, e3, h5⟩ := r.slot j b eb
      refine ⟨w, e3, ?_⟩
      cases b with
      | d x => exact dp_mono sm _ _ h5
      | l ys =>
        obtain ⟨a', ws, rfl, q1, q2, q3, q4⟩ := h5
        have hne : a' ≠ a := fun z => r.apart i j _ _ hn e eb rfl rfl (by rw [e1, e3, z])
        exact ⟨a', ws, rfl, q1, by rw [upd_ne hne]; exact q2, q3, dps_mono sm _ _ q4⟩
      | k ys =>
        obtain ⟨a', ws, rfl, q1, q2, q3, q4⟩ := h5
        have hne : a' ≠ a := fun z => r.apart i j _ _ hn e eb rfl rfl (by rw [e1, e3, z])
        exact ⟨a', ws, rfl, q1, by rw [upd_ne hne]; exact q2, q3, Paired.mapP q4 fun p q z => ⟨z.1, dp_mono sm _ _ z.2⟩⟩
      | f ys =>
        obtain ⟨a', u, ws, rfl, q1, q3, q4⟩ := h5
        exact ⟨a', u, ws, rfl, q1, q3, Paired.mapP q4 fun p q z => ⟨z.1, dp_mono sm _ _ z.2⟩⟩
      | t ys =>
        obtain ⟨a', ws, rfl, q1, q2, q3, q4⟩ := h5
        have hne : a' ≠ a := fun z => r.apart i j _ _ hn e eb rfl rfl (by rw [e1, e3, z])
        exact ⟨a', ws, rfl, q1, by rw [upd_ne hne]; exact q2, q3, Paired.mapP q4 fun p q z => ⟨z.1, dp_mono sm _ _ z.2⟩⟩
  · rcases getE_set e1 with ⟨rfl, eb⟩ | ⟨_, e1'⟩
    · cases Option.some.inj eb; cases o1
    · rcases getE_set e2 with ⟨rfl, eb⟩ | ⟨_, e2'⟩
      · cases Option.some.inj eb; cases o2
      · exact r.apart j l b c hn e1' e2' o1 o2
/-- without the one cell -/
def but (S : Hp) (a : Addr) : Hp := fun b => if b = a then none else S b
theorem but_ne {b : Addr} (h : b ≠ a) : but S a b = S b := if_neg h
theorem but_self : but S a a = none := if_pos rfl
theorem rd_but {b : Addr} {u : HO} (hS : S a = some (.lst vs)) (hu : ∀ ys, u ≠ .lst ys) (h : Rd S b u) : Rd (but S a) b u := by
  rcases h with h | ⟨o, h⟩
  · have : b ≠ a := fun z => by subst z; rw [hS] at h; exact hu _ (Option.some.inj h).symm
    exact .inl (by rw [but_ne this]; exact h)
  · have : b ≠ a := fun z => by subst z; rw [hS] at h; cases h
    exact .inr ⟨o, by rw [but_ne this]; exact h⟩
theorem dq_but (hS : S a = some (.lst vs)) (d : PyData) (v : V) (h : Dq K S v d) (p : plain d = true) : Dq K (but S a) v d :=
  Dq.rec (motive_1 := fun v d _ => plain d = true → Dq K (but S a) v d) (motive_2 := fun vs ds _ => plainAll ds = true → DqAll K (but S a) vs ds)
    (fun _ => .non) (fun b _ => .bl b) (fun b _ => .int b) (fun b _ => .str b) (fun h1 _ ih l => by simp [plain] at l)
    (fun h1 _ ih l => .tup (by
      rcases h1 with h1 | h1
      · exact .inl (rd_but hS (fun ys z => by cases z) h1)
      · exact .inr h1) (ih (by simpa [plain] using l)))
    (fun _ _ _ l => by simp [plain] at l) (fun _ _ _ _ l => by simp [plain] at l) (fun _ => .nil) (fun _ _ i1 i2 l => by
      rw [plainAll, Bool.and_eq_true] at l
      exact .cons (i1 l.1) (i2 l.2)) h p
theorem dqs_but (hS : S a = some (.lst vs)) : ∀ (ds : List PyData) (ws : List V), DqAll K S ws ds → plainAll ds = true → DqAll K (but S a) ws ds
  | [], _, h, _ => by cases h; exact .nil
  | d :: ds, _, h, p => by
    rw [plainAll, Bool.and_eq_true] at p
    cases h with
    | cons h1 h2 => exact .cons (dq_but hS d _ h1 p.1) (dqs_but hS ds _ h2 p.2)
theorem old_but {S' H' : Hp} (hS : S a = none) (hH : H a = some (.lst vs)) (o : Old H (upd S a (.lst vs)) S' H') : Old H S (but S' a) H' ∧ S' a = some (.lst vs) := by
  refine ⟨⟨o.ext, fun b u q => ?_, fun b u q => ?_, fun b u q => ?_⟩, o.s0 a _ upd_same⟩
  · by_cases hb : b = a
    · subst hb; rw [but_self] at q; cases q
    · rw [but_ne hb] at q; exact o.sub b u q
  · have hb : b ≠ a := fun z => by subst z; rw [hS] at q; cases q
    rw [but_ne hb]
    exact o.s0 b u (by rw [upd_ne hb]; exact q)
  · by_cases hb : b = a
    · subst hb; rw [but_self, hS]
    · rw [but_ne hb, o.old b u q, upd_ne hb]
theorem go_borR {r : Rs PyData} {Q : VK} {E : XK} (hS : S a = none) (hH : H a = some (.lst vs)) (g : Go K mg (Dq K) S H (borR r) Q E) : Go K mg (Dq K) (upd S a (.lst vs)) H r Q E := by
  cases r with
  | ok d =>
    intro S' H' v o hv
    by_cases p : plain d = true
    · simp only [borR, if_pos p] at g
      obtain ⟨o2, e⟩ := old_but hS hH o
      exact g _ H' v o2 (dq_but e d v hv p)
    · simp only [borR, if_neg p] at g
      exact g.elim
  | er x =>
    cases x with
    | plain c =>
      intro S' H' C d o m e
      exact g _ H' C d (old_but hS hH o).1 m e
    | wth c f x => exact g.elim
  | no => exact g.elim
theorem go_borB {α β : Type} {R : β → α → Prop} {r : Rs α} {Q : β → Hp → Prop} {E : XK} (hS : S a = none) (hH : H a = some (.lst vs)) (g : Go K mg (fun _ => R) S H (borB r) Q E) : Go K mg (fun _ => R) (upd S a (.lst vs)) H r Q E := by
  cases r with
  | ok d => exact fun S' H' v o hv => g _ H' v (old_but hS hH o).1 hv
  | er x =>
    cases x with
    | plain c =>
      intro S' H' C d o m e
      exact g _ H' C d (old_but hS hH o).1 m e
    | wth c f x => exact g.elim
  | no => exact g.elim
theorem go_borA {r : Rs (List PyData)} {Q : List V → Hp → Prop} {E : XK} (hS : S a = none) (hH : H a = some (.lst vs)) (g : Go K mg (DqAll K) S H (borA r) Q E) : Go K mg (DqAll K) (upd S a (.lst vs)) H r Q E := by
  cases r with
  | ok d =>
    intro S' H' v o hv
    by_cases p : plainAll d = true
    · simp only [borA, if_pos p] at g
      obtain ⟨o2, e⟩ := old_but hS hH o
      exact g _ H' v o2 (dqs_but e d v hv p)
    · simp only [borA, if_neg p] at g
      exact g.elim
  | er x =>
    cases x with
    | plain c =>
      intro S' H' C d o m e
      exact g _ H' C d (old_but hS hH o).1 m e
    | wth c f x => exact g.elim
  | no => exact g.elim
theorem go_unR {r : Rs PyData} {Q : VK} {E : XK} (g : Go K mg (Dq K) S H (borR r) Q E) : Go K mg (Dq K) S H r Q E := by
  cases r with
  | ok d =>
    by_cases p : plain d = true
    · simp only [borR, if_pos p] at g; exact g
    · simp only [borR, if_neg p] at g; exact g.elim
  | er x => cases x with
    | plain c => exact g
    | wth c f x => exact g.elim
  | no => exact g
theorem go_unB {α β : Type} {R : Hp → β → α → Prop} {r : Rs α} {Q : β → Hp → Prop} {E : XK} (g : Go K mg R S H (borB r) Q E) : Go K mg R S H r Q E := by
  cases r with
  | ok d => exact g
  | er x => cases x with
    | plain c => exact g
    | wth c f x => exact g.elim
  | no => exact g
theorem go_unA {r : Rs (List PyData)} {Q : List V → Hp → Prop} {E : XK} (g : Go K mg (DqAll K) S H (borA r) Q E) : Go K mg (DqAll K) S H r Q E := by
  cases r with
  | ok d =>
    by_cases p : plainAll d = true
    · simp only [borA, if_pos p] at g; exact g
    · simp only [borA, if_neg p] at g; exact g.elim
  | er x => cases x with
    | plain c => exact g
    | wth c f x => exact g.elim
  | no => exact g
end
section
variable {X : Cx} {c : Ct} {a b e : Expr} {es : List Expr} {pos : Pos} {f g : En → Rs PyData} {fa : En → Rs (List PyData)} {ft : En → Rs Bool} {i : Nat}
theorem frz_cases (i : Nat) (ρ : En) : (∃ xs, ρ[i]? = some (some (.l xs))) ∨ frz1 i ρ = ρ := by
  by_cases h : ∃ xs, ρ[i]? = some (some (.l xs))
  · exact .inl h
  · exact .inr (frz1_no fun xs z => h ⟨xs, z⟩)
theorem de_bor (i : Nat) (h : DE X c e f) : DE X c e (eB i f) := pe_imp h fun σ H Q ⟨S, ρ, rp, q⟩ => by
  rcases frz_cases i ρ with ⟨xs, e⟩ | e
  · obtain ⟨a, vs, h1, h2, r2⟩ := repFrz1 rp e
    exact ⟨_, _, r2, go_borR h1 h2 q⟩
  · unfold eB at q
    rw [e] at q
    exact ⟨S, ρ, rp, go_unR q⟩
theorem dt_bor (i : Nat) (h : DT X c e ft) : DT X c e (bB i ft) := pt_imp h fun σ H Q ⟨S, ρ, rp, q⟩ => by
  rcases frz_cases i ρ with ⟨xs, e⟩ | e
  · obtain ⟨a, vs, h1, h2, r2⟩ := repFrz1 rp e
    exact ⟨_, _, r2, go_borB h1 h2 q⟩
  · unfold bB at q
    rw [e] at q
    exact ⟨S, ρ, rp, go_unB q⟩
theorem da_bor (i : Nat) (h : DA X c es fa) : DA X c es (aB i fa) := pa_imp h fun σ H Q ⟨S, ρ, rp, q⟩ => by
  rcases frz_cases i ρ with ⟨xs, e⟩ | e
  · obtain ⟨a, vs, h1, h2, r2⟩ := repFrz1 rp e
    exact ⟨_, _, r2, go_borA h1 h2 q⟩
  · unfold aB at q
    rw [e] at q
    exact ⟨S, ρ, rp, go_unA q⟩
theorem ds_frz (i : Nat) {st : Stmt} {F : En → Out} (h : DS X c st F) : DS X c st (sFrz i F) := ps_imp h fun D σ H ⟨S, ρ, rp, p⟩ => by
  rcases frz_cases i ρ with ⟨xs, e⟩ | e
  · obtain ⟨a, vs, h1, h2, r2⟩ := repFrz1 rp e
    exact ⟨_, _, r2, Post.mono p (same_updS h1)⟩
  · unfold sFrz at p
    rw [e] at p
    exact ⟨S, ρ, rp, p⟩
/-! new lists -/
def GoN (K : PySem.W.Frag) (mg : Str → Option Value) (S H : Hp) (r : Rs (List PyData)) (Q : VK) (E : XK) : Prop :=
  match r with
  | .ok xs => ∀ S' H' p vs, Old H S S' H' → H' p = none → DqAll K S' vs xs → Q (.ref p) (upd H' p (.lst vs))
  | .er x => ∀ S' H' C d, Old H S S' H' → mg x.cls = some C → ExOk K S' H' x d → E C d H'
  | .no => False
def tNw (K : PySem.W.Frag) (mg : Str → Option Value) (c : Ct) (f : En → Rs (List PyData)) : TE := fun σ H Q => ∃ S ρ, Rep K c.wd c.H0 c.S0 S ρ σ H ∧ GoN K mg S H (f ρ) Q (fun C d H' => c.W C d σ H')
abbrev DN (X : Cx) (c : Ct) (e : Expr) (f : En → Rs (List PyData)) : Prop := PE X e (tNw X.K X.mg c f)
theorem GoN.step {K : PySem.W.Frag} {mg : Str → Option Value} {S H S' H' : Hp} {r : Rs (List PyData)} {Q : VK} {E : XK} (g : GoN K mg S H r Q E) (o : Old H S S' H') : GoN K mg S' H' r Q E := by
  cases r with
  | ok a => exact fun S2 H2 p vs o2 h1 h2 => g S2 H2 p vs (o.trans o2) h1 h2
  | er x => exact fun S2 H2 C d o2 m e => g S2 H2 C d (o.trans o2) m e
  | no => exact g
theorem GoN.seq {α β : Type} {K : PySem.W.Frag} {mg : Str → Option Value} {R : Hp → β → α → Prop} {S H : Hp} {r : Rs α} {k : α → Rs (List PyData)} {Q : β → Hp → Prop} {Q' : VK} {E : XK} (h : GoN K mg S H (r.bind k) Q' E)
    (f : ∀ S1 H1 b a, Old H S S1 H1 → R S1 b a → GoN K mg S1 H1 (k a) Q' E → Q b H1) : Go K mg R S H r Q E := by
  cases r with
  | ok a => exact fun S1 H1 b o rb => f S1 H1 b a o rb (GoN.step (r := k a) h o)
  | er x => exact h
  | no => exact h
def nLst (f : En → Rs (List PyData)) : En → Rs (List PyData) := fun ρ => (f ρ).bind fun xs => if xs.length ≤ 16777216 then .ok xs else .no
theorem dn_lst (ha : DA X c es fa) : DN X c (.List es pos) (nLst fa) := by
  refine pe_imp (pe_lst ha) fun σ H Q ⟨S, ρ, rp, q⟩ => ?_
  refine ⟨S, ρ, rp, GoN.seq q fun S1 H1 xs dxs o1 hx q1 => ?_⟩
  by_cases hl : dxs.length ≤ 16777216
  · rw [if_pos hl] at q1
    exact ⟨by rw [DqAll.length hx, sizeLine_eq]; exact hl, fun p hp => q1 _ _ _ _ (.refl o1.sub) hp hx⟩
  · rw [if_neg hl] at q1
    exact q1.elim
/-- [..] * n -/
def nRep (f g : En → Rs PyData) : En → Rs (List PyData) := fun ρ => (f ρ).bind fun x => (g ρ).bind fun y => match x, y with
  | .list xs, .int k => if 0 ≤ k ∧ k ≤ 100000 ∧ xs.length ≤ 100 then .ok (List.replicate k.toNat xs).flatten else .no
  | _, _ => .no
theorem dn_rep (ha : DE X c a f) (hb : DE X c b g) : DN X c (.BinOp a .Mult b pos) (nRep f g) := by
  refine pe_imp (pe_op op_repL ha hb) fun σ H Q ⟨S, ρ, rp, q⟩ => ?_
  refine ⟨S, ρ, rp, GoN.seq q fun S1 H1 x dx o1 hx q1 => ?_⟩
  refine ⟨S1, ρ, rp.step o1, GoN.seq q1 fun S2 H2 y dy o2 hy q2 => ?_⟩
  cases dx with
  | list xs =>
    cases dy with
    | int k =>
      dsimp only at q2
      by_cases hk : 0 ≤ k ∧ k ≤ 100000 ∧ xs.length ≤ 100
      · rw [if_pos hk] at q2
        have hx2 := dp_mono o2.s0 _ _ hx
        cases hx2 with
        | lst h1 h2 =>
          cases hy
          have hl := DqAll.length h2
          refine ⟨_, k, _, rfl, rfl, rd_mono o2.sub h1, by omega, by omega, ?_, fun p hp => q2 _ _ p _ (.refl o2.sub) hp (DqAll.rep h2 k.toNat)⟩
          have e1 : k.toNat ≤ 100000 := by omega
          rw [sizeLine_eq, hl]
          have e2 := Nat.mul_le_mul hk.2.2 e1
          omega
      · rw [if_neg hk] at q2
        exact q2.elim
    | _ => exact (show False from q2).elim
  | _ => exact (show False from q2).elim
/-- a + b -/
def nCat (f g : En → Rs PyData) : En → Rs (List PyData) := fun ρ => (f ρ).bind fun x => (g ρ).bind fun y => match x, y with
  | .list xs, .list ys => if xs.length + ys.length ≤ 16777216 then .ok (xs ++ ys) else .no
  | _, _ => .no
theorem dn_cat (ha : DE X c a f) (hb : DE X c b g) : DN X c (.BinOp a .Add b pos) (nCat f g) := by
  refine pe_imp (pe_op op_catL ha hb) fun σ H Q ⟨S, ρ, rp, q⟩ => ?_
  refine ⟨S, ρ, rp, GoN.seq q fun S1 H1 x dx o1 hx q1 => ?_⟩
  refine ⟨S1, ρ, rp.step o1, GoN.seq q1 fun S2 H2 y dy o2 hy q2 => ?_⟩
  cases dx with
  | list xs =>
    cases dy with
    | list ys =>
      dsimp only at q2
      by_cases hk : xs.length + ys.length ≤ 16777216
      · rw [if_pos hk] at q2
        have hx2 := dp_mono o2.s0 _ _ hx
        cases hx2 with
        | lst h1 h2 =>
          cases hy with
          | lst h3 h4 =>
            exact ⟨_, _, _, _, rfl, rfl, rd_mono o2.sub h1, rd_mono o2.sub h3, by rw [DqAll.length h2, DqAll.length h4, sizeLine_eq]; exact hk, fun p hp => q2 _ _ p _ (.refl o2.sub) hp (DqAll.append h2 h4)⟩
      · rw [if_neg hk] at q2
        exact q2.elim
    | _ => exact (show False from q2).elim
  | _ => exact (show False from q2).elim
/-- list(e), from a list or a tuple -/
def nList (f : En → Rs (List PyData)) : En → Rs (List PyData) := fun ρ => (f ρ).bind fun xs => match xs with
  | [.list ys] => .ok ys
  | [.tuple ys] => .ok ys
  | _ => .no
theorem go_borN {K : PySem.W.Frag} {mg : Str → Option Value} {S H : Hp} {ad : Addr} {vs : List V} {r : Rs (List PyData)} {Q : VK} {E : XK} (hS : S ad = none) (hH : H ad = some (.lst vs)) (g : GoN K mg S H (borA r) Q E) : GoN K mg (upd S ad (.lst vs)) H r Q E := by
  cases r with
  | ok d =>
    intro S' H' p v o hp hv
    by_cases pl : plainAll d = true
    · simp only [borA, if_pos pl] at g
      obtain ⟨o2, e⟩ := old_but hS hH o
      exact g _ H' p v o2 hp (dqs_but e d v hv pl)
    · simp only [borA, if_neg pl] at g
      exact g.elim
  | er x =>
    cases x with
    | plain c =>
      intro S' H' C d o m e
      exact g _ H' C d (old_but hS hH o).1 m e
    | wth c f x => exact g.elim
  | no => exact g.elim
theorem go_unN {K : PySem.W.Frag} {mg : Str → Option Value} {S H : Hp} {r : Rs (List PyData)} {Q : VK} {E : XK} (g : GoN K mg S H (borA r) Q E) : GoN K mg S H r Q E := by
  cases r with
  | ok d =>
    by_cases p : plainAll d = true
    · simp only [borA, if_pos p] at g; exact g
    · simp only [borA, if_neg p] at g; exact g.elim
  | er x => cases x with
    | plain c => exact g
    | wth c f x => exact g.elim
  | no => exact g
theorem dn_bor (i : Nat) (h : DN X c e fa) : DN X c e (aB i fa) := pe_imp h fun σ H Q ⟨S, ρ, rp, q⟩ => by
  rcases frz_cases i ρ with ⟨xs, e⟩ | e
  · obtain ⟨a, vs, h1, h2, r2⟩ := repFrz1 rp e
    exact ⟨_, _, r2, go_borN h1 h2 q⟩
  · unfold aB at q
    rw [e] at q
    exact ⟨S, ρ, rp, go_unN q⟩
/-- a comprehension -/
def nLc (own : List Nat) (s : En → Rs (List PyData)) (g : PyData → En → Option En) (t : En → Rs Bool) (f : En → Rs PyData) : En → Rs (List PyData) := fun ρ => (s ρ).bind fun xs => if xs.length ≤ 16777216 then cLoop g t f (wipeE ρ own) xs else .no
theorem old_butH {H1 S1 S2 H : Hp} {D : Addr} (o : Old H1 S1 S2 H) (hD : H1 D = none) (hS2 : S2 D = none) : Old H1 S1 S2 (but H D) := by
  refine ⟨fun b u z => ?_, fun b u z => ?_, o.s0, o.old⟩
  · rw [but_ne (ne_of_none z hD)]; exact o.ext b u z
  · rw [but_ne (ne_of_none z hS2)]; exact o.sub b u z
theorem upd_but {H : Hp} {D : Addr} {u : HO} (h : H D = some u) : upd (but H D) D u = H := by
  funext b
  by_cases hb : b = D
  · subst hb; rw [upd_same, h]
  · rw [upd_ne hb, but_ne hb]
theorem lcN_of {own : List (Str × Nat)} {ws : List Nat} {s : En → Rs (List PyData)} {g : PyData → En → Option En} {t : En → Rs Bool} {f : En → Rs PyData} (hw : ∀ i ∈ ws, i ∈ own.map (·.2)) {σ : St} {H : Hp} {Q : VK}
    (q : tNw X.K X.mg c (nLc (own.map (·.2)) s g t f) σ H Q) : tLc (tI X.K X.mg c s) (tG X.K c.in1 ws g) (tT X.K X.mg c.in1 t) (tE X.K X.mg c.in1 f) (own.map (·.2)) σ H Q := by
  obtain ⟨S, ρ, rp, q⟩ := q
  refine ⟨S, ρ, rp, GoN.seq q fun S1 H1 J xs o1 wk q1 => fun D hD => ?_⟩
  by_cases hxl : xs.length ≤ 16777216
  · rw [if_pos hxl] at q1
    cases e : cLoop g t f (wipeE ρ (own.map (·.2))) xs with
    | er x => exact (cLoop_ner e).elim
    | no => rw [e] at q1; exact q1.elim
    | ok ys =>
      rw [e] at q1
      refine comp_turns wk hxl (rp.step o1) hD hw e fun S' H' vs o' h1 h2 hd => ?_
      have z := q1 S' (but H' D) D vs (old_butH o' hD h1) but_self hd
      rw [upd_but h2] at z
      exact z
  · rw [if_neg hxl] at q1
    exact q1.elim
/-! the slot takes it -/
def sOwn (i : Nat) (f : En → Rs (List PyData)) : En → Out := fun ρ => andThen (f ρ) ρ fun xs => .nx (ρ.set i (some (.l xs)))
theorem repOwn {K : PySem.W.Frag} {wd : World} {H0 S0 S H : Hp} {ρ : En} {σ : St} (r : Rep K wd H0 S0 S ρ σ H) {p : Addr} {vs : List V} {xs : List PyData} (i : Nat) (hp : H p = none) (h : DqAll K S vs xs) : Rep K wd H0 S0 S (ρ.set i (some (.l xs))) (σ.set i (some (.ref p))) (upd H p (.lst vs)) := by
  have hs : S p = none := r.sub.free hp
  have h0 : H0 p = none := r.old.ext.free hp
  have r2 := r.write (o := .lst vs) (r.fresh hp) h0 hs
  refine ⟨r2.old, fun j b e => ?_, fun j l b d hn e1 e2 o1 o2 => ?_, by simpa using r.len⟩
  · rcases getE_set e with ⟨rfl, eb⟩ | ⟨hn, e⟩
    · have hi : i < ρ.length := by
        by_cases hi : i < ρ.length
        · exact hi
        · rw [List.getElem?_eq_none (by simpa using hi)] at e; cases e
      cases Option.some.inj eb
      exact ⟨.ref p, List.getElem?_set_self (by rw [← r.len]; exact hi), p, vs, rfl, upd_same, hs, h0, h⟩
    · obtain ⟨w, e1, h1⟩ := r2.slot j b e
      exact ⟨w, by rw [List.getElem?_set_ne hn]; exact e1, h1⟩
  · have fr := r.fresh hp
    have hlen : ∀ {j : Nat} {b : B}, (ρ.set i (some (.l xs)))[j]? = some (some b) → i = j → (σ.set i (some (.ref p)))[j]? = some (some (.ref p)) := by
      intro j b e hij
      subst hij
      have hi : i < ρ.length := by
        by_cases hi : i < ρ.length
        · exact hi
        · rw [List.getElem?_eq_none (by simpa using hi)] at e; cases e
      exact List.getElem?_set_self (by rw [← r.len]; exact hi)
    by_cases hj : i = j
    · have hl : i ≠ l := fun z => hn (hj.symm.trans z)
      rw [hlen e1 hj, List.getElem?_set_ne hl]
      rw [List.getElem?_set_ne hl] at e2
      exact fun z => fr l d e2 o2 z.symm
    · rw [List.getElem?_set_ne hj] at e1 ⊢
      by_cases hl : i = l
      · rw [hlen e2 hl]
        exact fun z => fr j b e1 o1 z
      · rw [List.getElem?_set_ne hl] at e2 ⊢
        exact r.apart j l b d hn e1 e2 o1 o2
theorem go_thenN {K : PySem.W.Frag} {mg : Str → Option Value} {S H : Hp} {σ : St} {ρ : En} {D : Ends} {k : List PyData → Out} {Q : VK} {r : Rs (List PyData)} (rp : Rep K c.wd c.H0 c.S0 S ρ σ H) (p : Post K mg c S D (andThen r ρ k))
    (h : ∀ S1 H1 q vs a, Old H S S1 H1 → H1 q = none → DqAll K S1 vs a → Rep K c.wd c.H0 c.S0 S1 ρ σ H1 → Post K mg c S1 D (k a) → Q (.ref q) (upd H1 q (.lst vs))) : GoN K mg S H r Q (fun C d H' => c.W C d σ H') := by
  cases r with
  | ok a => exact fun S1 H1 q vs o hq rb => h S1 H1 q vs a o hq rb (rp.step o) (Post.mono p o.s0)
  | er x => exact fun S1 H1 C d o m ex => p S1 σ H1 C d o.s0 (rp.step o) m ex
  | no => exact p
theorem ds_own {i : Nat} {x : Str} {pos' : Pos} (hN : X.N.Nodup) (hi : X.N[i]? = some x) (hx : Loc X.env.scope x) (he : DN X c e fa) (hs : swapsWith e (some (.Name x pos')) pos.line X.env = pure false := by rfl) (hf : X.fn x = true ∨ X.env.scope.names.lookup x = some .local := by first | exact .inl rfl | exact .inr rfl | assumption) :
    DS X c (.Assign [.Name x pos'] e pos) (sOwn i fa) := by
  refine ps_imp (ps_set hN hi hx he hs hf) fun D σ H ⟨S, ρ, rp, p⟩ => ⟨S, ρ, rp, go_thenN rp p fun S1 H1 q vs xs o hq hx r1 p1 => ?_⟩
  exact p1 S1 _ _ (.refl _) (repOwn r1 i hq hx)
theorem ds_ownLc {i : Nat} {y : Str} {py : Pos} {elt tg iter : Expr} {ifs : List Expr} {scope : Scope} {own : List (Str × Nat)} {ws ow : List Nat} {pos spos : Pos} {s : En → Rs (List PyData)} {g : PyData → En → Option En} {t : En → Rs Bool} {f : En → Rs PyData} (hc : X.calm = true) (hN : X.N.Nodup) (hy : X.N[i]? = some y) (hyl : X.env.scope.names.lookup y = some .local)
    (hsw : swapsWith (.ListComp elt [⟨tg, iter, ifs, 0⟩] scope pos) (some (.Name y py)) spos.line X.env = pure true) (hi : DI X c tg iter s) (ok : BlkOk X.N X.env.scope scope own) (hw : ∀ i ∈ ws, i ∈ ow)
    (hg : ∀ (s : Shared) (H : Hp) (C : Addr) (cl : List (Str × Addr)) (fp : List Addr), DG (X.blk s H scope (compEnvC scope cl C X.env) fp) c.in1 tg ws g) (ht : ∀ (s : Shared) (H : Hp) (C : Addr) (cl : List (Str × Addr)) (fp : List Addr), DTs (X.blk s H scope (compEnvC scope cl C X.env) fp) c.in1 ifs t)
    (he : ∀ (s : Shared) (H : Hp) (C : Addr) (cl : List (Str × Addr)) (fp : List Addr), DE (X.blk s H scope (compEnvC scope cl C X.env) fp) c.in1 elt f) (hs : ∀ x, foldedSetIterable iter X.env x = pure x := by intro _; rfl) (ho : own.map (·.2) = ow := by rfl) :
    DS X c (.Assign [.Name y py] (.ListComp elt [⟨tg, iter, ifs, 0⟩] scope pos) spos) (sOwn i (nLc ow s g t f)) := by
  subst ho
  refine ps_imp (ps_setLc (te := tE X.K X.mg c.in1 f) (tt := tT X.K X.mg c.in1 t) (g := tG X.K c.in1 ws g) hc hN hy hyl hsw hi ok hg ht he hs) fun D σ H ⟨S, ρ, rp, p⟩ => ?_
  exact lcN_of hw ⟨S, ρ, rp, go_thenN (k := fun xs => .nx (ρ.set i (some (.l xs)))) rp p fun S1 H1 q vs xs o hq hx r1 p1 => p1 S1 _ _ (.refl _) (repOwn r1 i hq hx)⟩
/-- the slot's list has another content -/
theorem repRewr {K : PySem.W.Frag} {wd : World} {H0 S0 S H : Hp} {ρ : En} {σ : St} (r : Rep K wd H0 S0 S ρ σ H) {i : Nat} {a : Addr} {vs' : List V} {xs xs' : List PyData} (e : ρ[i]? = some (some (.l xs))) (hσ : σ[i]? = some (some (.ref a))) (h : DqAll K S vs' xs') :
    Rep K wd H0 S0 S (ρ.set i (some (.l xs'))) σ (upd H a (.lst vs')) := by
  obtain ⟨v, e1, a', ws, ev, h1, h2, h3, h4⟩ := r.slot i _ e
  subst ev
  rw [hσ] at e1
  cases Option.some.inj (Option.some.inj e1)
  have ap : Apart (ρ.set i none) σ a := fun j b eb o z => by
    rcases getE_set eb with ⟨rfl, eq⟩ | ⟨hn, eb⟩
    · cases eq
    · exact r.apart i j _ _ hn e eb rfl o (by rw [hσ, z])
  have r2 := (r.forget i).write (o := .lst vs') ap h3 h2
  refine ⟨r2.old, fun j b eb => ?_, fun j l b d hn e1 e2 o1 o2 => ?_, by simpa using r.len⟩
  · rcases getE_set eb with ⟨rfl, eq⟩ | ⟨hn, eb⟩
    · cases Option.some.inj eq
      exact ⟨_, hσ, a, vs', rfl, upd_same, h2, h3, h⟩
    · exact r2.slot j b (by rw [List.getElem?_set_ne hn]; exact eb)
  · have old : ∀ {j : Nat} {b : B}, (ρ.set i (some (.l xs')))[j]? = some (some b) → owned b = true → ∃ b', ρ[j]? = some (some b') ∧ owned b' = true := by
      intro j b eb o
      rcases getE_set eb with ⟨rfl, eq⟩ | ⟨hn, eb⟩
      · exact ⟨_, e, rfl⟩
      · exact ⟨b, eb, o⟩
    obtain ⟨b', q1, q2⟩ := old e1 o1
    obtain ⟨d', q3, q4⟩ := old e2 o2
    exact r.apart j l b' d' hn q1 q3 q2 q4
/-! methods of the slot's list -/
def sApp (i : Nat) (f : En → Rs PyData) : En → Out := fun ρ => match ρ[i]? with
  | some (some (.l xs)) => andThen (f ρ) ρ fun d => if xs.length < 16777216 then .nx (ρ.set i (some (.l (xs ++ [d])))) else .no
  | _ => .no
theorem ds_app (i : Nat) {x : Str} {p1 p2 p3 : Pos} (he : DE X c e f) (hN : X.N[i]? = some x := by rfl) (hv : Vis X.env.scope x := by first | exact Or.inl rfl | exact Or.inr (Or.inl rfl) | exact Or.inr (Or.inr rfl)) (hd : (x == ("__debug__" : Str)) = false := by decide)
    (hcd : (x == ("__classdict__" : Str)) = false := by decide) (hs : swapsWith (.Call (.Attribute (.Name x p1) "append" p2) [e] [] p3) none pos.line X.env = pure false := by rfl)
    (hbase : attributeBase (.Name x p1) "append" X.env (eval (.Name x p1) X.env) = eval (.Name x p1) X.env := by rfl)
    (hfew : ((backTo p3 (starEach [e] X.env)).all (fun x => !x.1) && (backToKw p3 (keywordEach [] X.env)).all (fun x => x.1.isSome)
      && decide (([e] : List Expr).length + ([] : List Keyword).length + (if ([] : List Keyword).isEmpty then 0 else 1) < 30)) = true := by rfl)
    (hline : (p2.endLine == p3.line) = true := by rfl) (hst : starEach [e] X.env = (false, eval e X.env) :: starEach [] X.env := by rfl) (hplain : (backTo p3 (starEach [] X.env)).any (·.1) = false := by rfl) :
    DS X c (.Expr (.Call (.Attribute (.Name x p1) "append" p2) [e] [] p3) pos) (sApp i f) := by
  refine ps_imp (ps_expr (pe_bm PySem.F.plainAttrs_list PySem.F.slot_list_append PySem.F.type_list_append mt_append (pe_var hN hv hd hcd) (pa_cons he pa_nil hst) hbase hfew hline hst hplain) hs) fun D σ H ⟨S, ρ, rp, p⟩ => ?_
  unfold sApp at p
  cases hρ : ρ[i]? with
  | none => rw [hρ] at p; exact p.elim
  | some o =>
    rw [hρ] at p
    cases o with
    | none => exact p.elim
    | some b =>
      cases b with
      | d _ => exact p.elim
      | k _ => exact p.elim
      | f _ => exact p.elim
      | t _ => exact p.elim
      | l xs =>
        obtain ⟨v, e1, a, vs, rfl, h1, h2, h3, h4⟩ := rp.slot i _ hρ
        refine ⟨.ref a, e1, .inl ⟨rfl, vs, .inl (.inl h1)⟩, S, ρ, rp, go_then rp p fun S1 H1 v d o1 hd r1 p1 => ?_⟩
        by_cases hl : xs.length < 16777216
        · rw [if_pos hl] at p1
          have h4' := dps_mono o1.s0 _ _ h4
          refine ⟨a, vs, v, rfl, rfl, o1.ext _ _ h1, by rw [DqAll.length h4, sizeLine_eq]; exact hl, ?_⟩
          exact p1 S1 _ _ (.refl _) (repRewr r1 hρ e1 (DqAll.append h4' (DqAll.one hd)))
        · rw [if_neg hl] at p1
          exact p1.elim
/-! x.extend(e) -/
open PySem.AutoSeq1 in
theorem list_extend_tup (l : Addr) (items : Array Value) (n : Nat) (b : Addr) (items2 : Array Value) (n2 : Nat) (dd : Option Addr) (sl : Array (Option Value)) (hs0 : ¬(!items.isEmpty && Builtin.List.listTooLong (items.size + items2.size)) = true) (hs1 : items.size ≤ sizeLine) (hs2 : items.size + items2.size ≤ sizeLine + 1) :
    Meets (Builtin.«list.extend» ⟨[.ref l, .ref b], []⟩) (fun _ R s => s.heap.get? l = some { cls := .type "list", dict := none, data := .seq items n, slots := #[] } ∧ s.heap.get? b = some { cls := .type "tuple", dict := dd, data := .seq items2 n2, slots := sl } ∧ R (.ok (.ret Value.none)) { s with heap := s.heap.update l (Obj.mapSeq fun x => x ++ items2), toks := s.toks }) :=
  .of_wp fun prog w A R s h => by
    obtain ⟨hp, g, d, tk, os⟩ := s; obtain ⟨hl, hb, h⟩ := h; have f1 := PySem.AutoSeq1.idx_int; have f2 := PySem.AutoSeq1.sub_tuple_tuple; have f3 := PySem.AutoSeq1.sub_list_list; have f4 := PySem.AutoSeq1.sub_tuple_list; have f5 := PySem.AutoSeq1.sub_list_tuple;
    have hz' : (items ++ items2).size ≤ sizeLine + 1 := by rw [Array.size_append]; exact hs2
    wp_walk using (wpAny_updateSeq hl rfl (hz := hs1) (_hz' := hz')), wpAny_loadPart' hl, wpAny_loadPart' hb; exact ⟨_, rfl, h⟩
def rExtT (K : PySem.W.Frag) : V → List V → Hp → VK → Prop := fun x vs H Q => ∃ l b xs zs, x = .ref l ∧ vs = [.ref b] ∧ H l = some (.lst xs) ∧ SqT K H b zs ∧ xs.length + zs.length ≤ sizeLine ∧ Q .non (upd H l (.lst (xs ++ zs)))
theorem mt_extT : MtM X "list.extend" (rExtT X.K) := by
  intro pins s σ H x vs v us Q I rx rv h
  obtain ⟨l, b, xs, zs, rfl, rfl, hH, hB, hz, q⟩ := h
  cases rx
  obtain ⟨u, rfl, ru⟩ := rv.one
  cases ru
  obtain ⟨z, its, n, r, hl, e⟩ := I.lstM hH
  obtain ⟨its2, r2, ⟨o2, e2, c2, n2, d2⟩, z2⟩ := I.tuple hB
  obtain ⟨oc, od, oda, osl⟩ := o2
  dsimp only at c2 d2
  subst c2 d2
  have hl2 := r2.length
  have hsz : its.toArray.size + its2.toArray.size ≤ sizeLine := by rw [List.size_toArray, List.size_toArray]; omega
  have hlong : ¬ (!its.toArray.isEmpty && Builtin.List.listTooLong (its.toArray.size + its2.toArray.size)) = true := by
    rw [notLongL hsz, Bool.and_false]
    exact Bool.false_ne_true
  refine call_meets PySem.F.slot_list_extend ⟨_, e, rfl⟩ PySem.F.entry_list_extend (PySem.F.args_list_extend_2 _ _)
    (list_extend_tup l its.toArray n b its2.toArray n2 od osl hlong (by rw [List.size_toArray]; omega) (by omega)) ⟨e, e2, ?_⟩
  refine ⟨.non, _, I.lset (its' := its ++ its2) hH e (by simp) (r.append r2) ?_, rfl, q⟩
  rw [List.length_append]
  omega
def rExtA (K : PySem.W.Frag) : V → List V → Hp → VK → Prop := fun x xs H Q => rExtend x xs H Q ∨ rExtT K x xs H Q
theorem mt_extA : MtM X "list.extend" (rExtA X.K) := MtR.or mt_extend mt_extT
def sExt (i : Nat) (f : En → Rs PyData) : En → Out := fun ρ => match ρ[i]? with
  | some (some (.l xs)) => andThen (f ρ) ρ fun d => match d with
    | .tuple ys => if xs.length + ys.length ≤ 16777216 then .nx (ρ.set i (some (.l (xs ++ ys)))) else .no
    | _ => .no
  | _ => .no
theorem ds_ext (i : Nat) {x : Str} {p1 p2 p3 : Pos} (he : DE X c e f) (hN : X.N[i]? = some x := by rfl) (hv : Vis X.env.scope x := by first | exact Or.inl rfl | exact Or.inr (Or.inl rfl) | exact Or.inr (Or.inr rfl)) (hd : (x == ("__debug__" : Str)) = false := by decide)
    (hcd : (x == ("__classdict__" : Str)) = false := by decide) (hs : swapsWith (.Call (.Attribute (.Name x p1) "extend" p2) [e] [] p3) none pos.line X.env = pure false := by rfl)
    (hbase : attributeBase (.Name x p1) "extend" X.env (eval (.Name x p1) X.env) = eval (.Name x p1) X.env := by rfl)
    (hfew : ((backTo p3 (starEach [e] X.env)).all (fun x => !x.1) && (backToKw p3 (keywordEach [] X.env)).all (fun x => x.1.isSome)
      && decide (([e] : List Expr).length + ([] : List Keyword).length + (if ([] : List Keyword).isEmpty then 0 else 1) < 30)) = true := by rfl)
    (hline : (p2.endLine == p3.line) = true := by rfl) (hst : starEach [e] X.env = (false, eval e X.env) :: starEach [] X.env := by rfl) (hplain : (backTo p3 (starEach [] X.env)).any (·.1) = false := by rfl) :
    DS X c (.Expr (.Call (.Attribute (.Name x p1) "extend" p2) [e] [] p3) pos) (sExt i f) := by
  refine ps_imp (ps_expr (pe_bm PySem.F.plainAttrs_list PySem.F.slot_list_extend PySem.F.type_list_extend mt_extA (pe_var hN hv hd hcd) (pa_cons he pa_nil hst) hbase hfew hline hst hplain) hs) fun D σ H ⟨S, ρ, rp, p⟩ => ?_
  unfold sExt at p
  cases hρ : ρ[i]? with
  | none => rw [hρ] at p; exact p.elim
  | some o =>
    rw [hρ] at p
    cases o with
    | none => exact p.elim
    | some b =>
      cases b with
      | d _ => exact p.elim
      | k _ => exact p.elim
      | f _ => exact p.elim
      | t _ => exact p.elim
      | l xs =>
        obtain ⟨v, e1, a, vs, rfl, h1, h2, h3, h4⟩ := rp.slot i _ hρ
        refine ⟨.ref a, e1, .inl ⟨rfl, vs, .inl (.inl h1)⟩, S, ρ, rp, go_then rp p fun S1 H1 v d o1 hd r1 p1 => ?_⟩
        cases d with
        | tuple ys =>
          dsimp only at p1
          by_cases hl : xs.length + ys.length ≤ 16777216
          · rw [if_pos hl] at p1
            have h4' := dps_mono o1.s0 _ _ h4
            cases hd with
            | tup q1 q2 =>
              refine .inr ⟨a, _, vs, _, rfl, rfl, o1.ext _ _ h1, sqT_mono o1.sub q1, by rw [DqAll.length h4, DqAll.length q2, sizeLine_eq]; exact hl, ?_⟩
              exact p1 S1 _ _ (.refl _) (repRewr r1 hρ e1 (DqAll.append h4' q2))
          · rw [if_neg hl] at p1
            exact p1.elim
        | _ => exact (show False from p1).elim
/-! x[k] = e -/
def sPut (i : Nat) (fi f : En → Rs PyData) : En → Out := fun ρ => match ρ[i]? with
  | some (some (.l xs)) => andThen (f ρ) ρ fun d => andThen (fi ρ) ρ fun k => match k with
    | .int k => (match ixN xs.length k with
      | some j => .nx (ρ.set i (some (.l (xs.set j d))))
      | none => .no)
    | _ => .no
  | _ => .no
theorem ds_put (i : Nat) {x : Str} {ei : Expr} {fi : En → Rs PyData} {p1 p2 : Pos} (he : DE X c e f) (hi : DE X c ei fi) (hN : X.N[i]? = some x := by rfl) (hv : Vis X.env.scope x := by first | exact Or.inl rfl | exact Or.inr (Or.inl rfl) | exact Or.inr (Or.inr rfl)) (hd : (x == ("__debug__" : Str)) = false := by decide)
    (hcd : (x == ("__classdict__" : Str)) = false := by decide)
    (ha : ∀ v, assign (.Subscript (.Name x p1) ei p2) X.env v = (do
      let ov ← holding [v] (eval (.Name x p1) X.env)
      let iv ← holding [v, ov] (eval ei X.env)
      standAt p2
      holding [v, ov, iv] (setItem ov iv v)
      release [v, ov, iv] []) := by intro _; rfl)
    (hs : swapsWithSole [.Subscript (.Name x p1) ei p2] e pos.line X.env = pure false := by rfl) (hw : swappedStores [.Subscript (.Name x p1) ei p2] e X.env = pure none := by rfl)
    (h1 : (assignEach [.Subscript (.Name x p1) ei p2] X.env).map (·.2) = [assign (.Subscript (.Name x p1) ei p2) X.env] := by rfl) :
    DS X c (.Assign [.Subscript (.Name x p1) ei p2] e pos) (sPut i fi f) := by
  refine ps_imp (ps_asg he (pg_sub (pe_var hN hv hd hcd) hi set_list ha) hs hw h1) fun D σ H ⟨S, ρ, rp, p⟩ => ?_
  unfold sPut at p
  cases hρ : ρ[i]? with
  | none => rw [hρ] at p; exact p.elim
  | some o =>
    rw [hρ] at p
    cases o with
    | none => exact p.elim
    | some b =>
      cases b with
      | d _ => exact p.elim
      | k _ => exact p.elim
      | f _ => exact p.elim
      | t _ => exact p.elim
      | l xs =>
        obtain ⟨v0, e1, a, vs, rfl, h1, h2, h3, h4⟩ := rp.slot i _ hρ
        refine ⟨S, ρ, rp, go_then rp p fun S1 H1 v d o1 hd r1 p1 => ?_⟩
        refine ⟨.ref a, e1, S1, ρ, r1, go_then r1 p1 fun S2 H2 iv k o2 hk r2 p2 => ?_⟩
        cases k with
        | int k =>
          dsimp only at p2
          cases hk
          cases hj : ixN xs.length k with
          | none => rw [hj] at p2; exact p2.elim
          | some j =>
            rw [hj] at p2
            have o12 := o1.trans o2
            refine ⟨a, vs, k, j, rfl, rfl, o12.ext _ _ h1, by rw [DqAll.length h4]; exact hj, ?_⟩
            exact p2 S2 _ _ (.refl _) (repRewr r2 hρ e1 (DqAll.set (dp_mono o2.s0 _ _ hd) j (dps_mono o12.s0 _ _ h4)))
        | _ => exact (show False from p2).elim
/-! x.pop() -/
def sPop (i : Nat) : En → Out := fun ρ => match ρ[i]? with
  | some (some (.l xs)) => if xs = [] then .no else .nx (ρ.set i (some (.l xs.dropLast)))
  | _ => .no
theorem DqAll.dropLast {K : PySem.W.Frag} {S : Hp} {vs : List V} {ds : List PyData} (h : DqAll K S vs ds) : DqAll K S vs.dropLast ds.dropLast := by
  rw [List.dropLast_eq_take, List.dropLast_eq_take, DqAll.length h]
  exact DqAll.take _ h
theorem ds_pop (i : Nat) {x : Str} {p1 p2 p3 : Pos} (hN : X.N[i]? = some x := by rfl) (hv : Vis X.env.scope x := by first | exact Or.inl rfl | exact Or.inr (Or.inl rfl) | exact Or.inr (Or.inr rfl)) (hd : (x == ("__debug__" : Str)) = false := by decide)
    (hcd : (x == ("__classdict__" : Str)) = false := by decide) (hs : swapsWith (.Call (.Attribute (.Name x p1) "pop" p2) [] [] p3) none pos.line X.env = pure false := by rfl)
    (hbase : attributeBase (.Name x p1) "pop" X.env (eval (.Name x p1) X.env) = eval (.Name x p1) X.env := by rfl) (hline : (p2.endLine == p3.line) = true := by rfl) :
    DS X c (.Expr (.Call (.Attribute (.Name x p1) "pop" p2) [] [] p3) pos) (sPop i) := by
  refine ps_imp (ps_expr (pe_bm0 PySem.F.plainAttrs_list PySem.F.slot_list_pop PySem.F.type_list_pop mt_pop (pe_var hN hv hd hcd) hbase hline) hs) fun D σ H ⟨S, ρ, rp, p⟩ => ?_
  unfold sPop at p
  cases hρ : ρ[i]? with
  | none => rw [hρ] at p; exact p.elim
  | some o =>
    rw [hρ] at p
    cases o with
    | none => exact p.elim
    | some b =>
      cases b with
      | d _ => exact p.elim
      | k _ => exact p.elim
      | f _ => exact p.elim
      | t _ => exact p.elim
      | l xs =>
        obtain ⟨v, e1, a, vs, rfl, h1, h2, h3, h4⟩ := rp.slot i _ hρ
        by_cases hx : xs = []
        · simp only [if_pos hx] at p; exact p.elim
        · simp only [if_neg hx] at p
          have hl := DqAll.length h4
          have hpos := List.length_pos_iff.mpr hx
          have hi : vs.length - 1 < vs.length := by omega
          exact ⟨.ref a, e1, .inl ⟨rfl, vs, .inl (.inl h1)⟩, a, vs, vs[vs.length - 1], rfl, rfl, h1, List.getElem?_eq_getElem hi, p S _ _ (.refl _) (repRewr rp hρ e1 (DqAll.dropLast h4))⟩
end
/-! ### to be reckoned with -/
section
variable (i : Nat) (ρ : En) (b : Option B) (xs ys : List PyData) (d : PyData) (f fi : En → Rs PyData) (fa : En → Rs (List PyData)) (ft : En → Rs Bool) (F : En → Out)
@[simp] theorem frz1_0 : frz1 0 (b :: ρ) = frzB b :: ρ := Eq.trans rfl rfl
@[simp] theorem frz1_s : frz1 (i + 1) (b :: ρ) = b :: frz1 i ρ := Eq.trans rfl rfl
@[simp] theorem frzB_l : frzB (some (.l xs)) = some (.d (.list xs)) := Eq.trans rfl rfl
@[simp] theorem frzB_d : frzB (some (.d d)) = some (.d d) := Eq.trans rfl rfl
@[simp] theorem frzB_n : frzB none = none := Eq.trans rfl rfl
@[simp] theorem eB_ap : eB i f ρ = borR (f (frz1 i ρ)) := Eq.trans rfl rfl
@[simp] theorem bB_ap : bB i ft ρ = borB (ft (frz1 i ρ)) := Eq.trans rfl rfl
@[simp] theorem aB_ap : aB i fa ρ = borA (fa (frz1 i ρ)) := Eq.trans rfl rfl
@[simp] theorem sFrz_ap : sFrz i F ρ = F (frz1 i ρ) := Eq.trans rfl rfl
@[simp] theorem borR_ok : borR (.ok d) = if plain d = true then .ok d else .no := Eq.trans rfl rfl
@[simp] theorem borR_er (c : Str) : borR (.er (.plain c)) = .er (.plain c) := Eq.trans rfl rfl
@[simp] theorem borB_ok {α : Type} (a : α) : borB (.ok a) = .ok a := Eq.trans rfl rfl
@[simp] theorem borB_er {α : Type} (c : Str) : borB (.er (.plain c) : Rs α) = .er (.plain c) := Eq.trans rfl rfl
@[simp] theorem borA_ok : borA (.ok xs) = if plainAll xs = true then .ok xs else .no := Eq.trans rfl rfl
@[simp] theorem plain_n : plain .none = true := Eq.trans rfl rfl
@[simp] theorem plain_i (j : Int) : plain (.int j) = true := Eq.trans rfl rfl
@[simp] theorem plain_b (j : Bool) : plain (.bool j) = true := Eq.trans rfl rfl
@[simp] theorem plain_s (j : Str) : plain (.str j) = true := Eq.trans rfl rfl
@[simp] theorem plain_t : plain (.tuple xs) = plainAll xs := Eq.trans rfl rfl
@[simp] theorem plainAll_nil : plainAll [] = true := Eq.trans rfl rfl
@[simp] theorem plainAll_cons : plainAll (d :: xs) = (plain d && plainAll xs) := Eq.trans rfl rfl
@[simp] theorem plainAll_app : plainAll (xs ++ ys) = (plainAll xs && plainAll ys) := by
  induction xs with
  | nil => simp
  | cons x xs ih => simp [ih, Bool.and_assoc]
@[simp] theorem plainAll_int (ns : List Int) : plainAll (ns.map PyData.int) = true := by
  induction ns with
  | nil => simp
  | cons x xs ih => simp [ih]
@[simp] theorem sOwn_ap : sOwn i fa ρ = andThen (fa ρ) ρ fun xs => .nx (ρ.set i (some (.l xs))) := Eq.trans rfl rfl
@[simp] theorem nLst_ap : nLst fa ρ = (fa ρ).bind fun xs => if xs.length ≤ 16777216 then .ok xs else .no := Eq.trans rfl rfl
def repK : PyData → PyData → Rs (List PyData)
  | .list xs, .int k => if 0 ≤ k ∧ k ≤ 100000 ∧ xs.length ≤ 100 then .ok (List.replicate k.toNat xs).flatten else .no
  | _, _ => .no
@[simp] theorem nRep_ap : nRep f fi ρ = (f ρ).bind fun x => (fi ρ).bind fun y => repK x y := by
  unfold nRep repK
  rfl
@[simp] theorem repK_li (k : Int) : repK (.list xs) (.int k) = if 0 ≤ k ∧ k ≤ 100000 ∧ xs.length ≤ 100 then .ok (List.replicate k.toNat xs).flatten else .no := Eq.trans rfl rfl
def catK : PyData → PyData → Rs (List PyData)
  | .list xs, .list ys => if xs.length + ys.length ≤ 16777216 then .ok (xs ++ ys) else .no
  | _, _ => .no
@[simp] theorem nCat_ap : nCat f fi ρ = (f ρ).bind fun x => (fi ρ).bind fun y => catK x y := by
  unfold nCat catK
  rfl
@[simp] theorem catK_ll : catK (.list xs) (.list ys) = if xs.length + ys.length ≤ 16777216 then .ok (xs ++ ys) else .no := Eq.trans rfl rfl
@[simp] theorem nLc_ap (own : List Nat) (s : En → Rs (List PyData)) (g : PyData → En → Option En) (t : En → Rs Bool) : nLc own s g t f ρ = (s ρ).bind fun xs => if xs.length ≤ 16777216 then cLoop g t f (wipeE ρ own) xs else .no := Eq.trans rfl rfl
def appK (ρ : En) (i : Nat) (r : Rs PyData) : Option (Option B) → Out
  | some (some (.l xs)) => andThen r ρ fun d => if xs.length < 16777216 then .nx (ρ.set i (some (.l (xs ++ [d])))) else .no
  | _ => .no
@[simp] theorem sApp_ap : sApp i f ρ = appK ρ i (f ρ) ρ[i]? := by
  unfold sApp appK
  rfl
@[simp] theorem appK_l (r : Rs PyData) : appK ρ i r (some (some (.l xs))) = andThen r ρ fun d => if xs.length < 16777216 then .nx (ρ.set i (some (.l (xs ++ [d])))) else .no := Eq.trans rfl rfl
def extV (ρ : En) (i : Nat) (xs : List PyData) : PyData → Out
  | .tuple ys => if xs.length + ys.length ≤ 16777216 then .nx (ρ.set i (some (.l (xs ++ ys)))) else .no
  | _ => .no
def extK (ρ : En) (i : Nat) (r : Rs PyData) : Option (Option B) → Out
  | some (some (.l xs)) => andThen r ρ (extV ρ i xs)
  | _ => .no
@[simp] theorem sExt_ap : sExt i f ρ = extK ρ i (f ρ) ρ[i]? := by
  unfold sExt extK extV
  rfl
@[simp] theorem extK_l (r : Rs PyData) : extK ρ i r (some (some (.l xs))) = andThen r ρ (extV ρ i xs) := Eq.trans rfl rfl
@[simp] theorem extV_t : extV ρ i xs (.tuple ys) = if xs.length + ys.length ≤ 16777216 then .nx (ρ.set i (some (.l (xs ++ ys)))) else .no := Eq.trans rfl rfl
def putV (ρ : En) (i : Nat) (xs : List PyData) (d : PyData) : PyData → Out
  | .int k => (match ixN xs.length k with
      | some j => .nx (ρ.set i (some (.l (xs.set j d))))
      | none => .no)
  | _ => .no
def putK' (ρ : En) (i : Nat) (r ri : Rs PyData) : Option (Option B) → Out
  | some (some (.l xs)) => andThen r ρ fun d => andThen ri ρ (putV ρ i xs d)
  | _ => .no
@[simp] theorem sPut_ap : sPut i fi f ρ = putK' ρ i (f ρ) (fi ρ) ρ[i]? := by
  unfold sPut putK' putV
  rfl
@[simp] theorem putK'_l (r ri : Rs PyData) : putK' ρ i r ri (some (some (.l xs))) = andThen r ρ fun d => andThen ri ρ (putV ρ i xs d) := Eq.trans rfl rfl
theorem putV_i {k : Int} {j : Nat} (h : ixN xs.length k = some j) : putV ρ i xs d (.int k) = .nx (ρ.set i (some (.l (xs.set j d)))) := by
  show (match ixN xs.length k with
      | some j => Out.nx (ρ.set i (some (.l (xs.set j d))))
      | none => .no) = _
  rw [h]
theorem putV_n {k : Nat} (h : k < xs.length) : putV ρ i xs d (.int k) = .nx (ρ.set i (some (.l (xs.set k d)))) := putV_i i ρ xs d (by unfold ixN; rw [if_pos (by omega), if_pos (by omega)]; rfl)
def popK (ρ : En) (i : Nat) : Option (Option B) → Out
  | some (some (.l xs)) => if xs = [] then .no else .nx (ρ.set i (some (.l xs.dropLast)))
  | _ => .no
@[simp] theorem sPop_ap : sPop i ρ = popK ρ i ρ[i]? := by
  unfold sPop popK
  rfl
@[simp] theorem popK_l : popK ρ i (some (some (.l xs))) = if xs = [] then .no else .nx (ρ.set i (some (.l xs.dropLast))) := Eq.trans rfl rfl
end
end D2

namespace D2
open PySem PySem.Spec PyProof.Rows L2
/-! ### enumerate(tuple) -/
theorem enum_new1 {v : Value} {o : Obj} {Hh : Heap → Prop} (B : Begins v o Hh) :
    Meets (Builtin.«enumerate.__new__» ⟨[.type "enumerate", v], []⟩) (fun _ R s => Hh s.heap ∧
      R (.ok (.ret (.ref (s.heap.push o).objs.size))) { s with heap := (s.heap.push o).push { cls := .type "enumerate", data := .fields #[.none, .bool false, .ref s.heap.objs.size, rawInt 0, .none, .none] } }) :=
  .of_wp fun prog w A R s h => by
    obtain ⟨hp, g, d, tk, os⟩ := s
    obtain ⟨h1, h⟩ := h
    have hsub := sub_enumerate
    have q1 : ∀ {A' : Around} {E : Value → Shared → Prop} {Q : Value → Shared → Prop}, Q (.ref hp.objs.size) ⟨hp.push o, g, d, tk, os⟩ → wpAny (model prog w) A' (pyIter v) Q E ⟨hp, g, d, tk, os⟩ :=
      fun q => B.iter prog w _ _ ⟨hp, g, d, tk, os⟩ _ h1 q
    wp_walk using q1
    refine wpAny_stack_any fun st => wpAny_pure ?_
    split
    · rename_i c _ _ _ _ _
      cases (c == Value.type "enumerate")
      · wp_walk using q1
        exact ⟨_, rfl, h⟩
      · wp_walk using q1
        exact ⟨_, rfl, h⟩
    · wp_walk using q1
      exact ⟨_, rfl, h⟩
section
variable {prog : Program} {w : World} {A : Around} {E : Value → Shared → Prop} {s : Shared}
theorem enum_begin1 {v : Value} {o : Obj} {Hh : Heap → Prop} {Q : Value → Shared → Prop} (B : Begins v o Hh) (h1 : Hh s.heap)
    (h : ∀ h', IsEnum h' (s.heap.objs.size + 1) s.heap.objs.size 0 .none → h'.get? s.heap.objs.size = some o → h'.objs.size = s.heap.objs.size + 2 →
      (∀ b o, s.heap.get? b = some o → h'.get? b = some o) → Q (.ref (s.heap.objs.size + 1)) { s with heap := h' }) :
    wpAny (model prog w) A (call (.type "enumerate") [v]) Q E s := by
  refine callType_new F.called_enumerate (by decide) (F.typeCall_enumerate_1 _) (F.newCall_enumerate_1 _) (fun obj => F.args_object_init_2 obj _) F.entry_enumerate_new
    (enum_new1 B) ⟨h1, ?_⟩
  have hz : (s.heap.push o).objs.size = s.heap.objs.size + 1 := Heap.size_push ..
  show _ ∧ _
  rw [hz]
  have he : IsEnum ((s.heap.push o).push { cls := .type "enumerate", data := .fields #[.none, .bool false, .ref s.heap.objs.size, rawInt 0, .none, .none] }) (s.heap.objs.size + 1) s.heap.objs.size 0 .none := by
    have := Heap.get?_push_size (s.heap.push o) (o := { cls := .type "enumerate", data := .fields #[.none, .bool false, .ref s.heap.objs.size, rawInt 0, .none, .none] }) rfl
    rw [hz] at this
    exact this
  refine ⟨⟨_, he, rfl⟩, h _ he (Heap.get?_push_of_some _ (Heap.get?_push_size _ B.free)) (by rw [Heap.size_push, hz]) fun b o x => Heap.get?_push_of_some _ (Heap.get?_push_of_some _ x)⟩
end
/-- the tuple at a, each item in a new pair -/
def IteT (K : PySem.W.Frag) (a : Addr) : It :=
  ⟨fun i H => ∃ (xs : List V) (x : V), SqT K H a xs ∧ xs[i]? = some x, fun i H v H' => ∃ T x, v = .ref T ∧ H T = none ∧ H' = upd H T (.tup [.int (i : Nat), x]) ∧ ∀ xs, SqT K H a xs → xs[i]? = some x, fun i H => ∃ xs : List V, SqT K H a xs ∧ xs.length ≤ i⟩
theorem turn_enumT {P : Program} {w : World} {K : PySem.W.Frag} {elts : List Expr} {kk : Nat} {tpos : Pos} (a e it : Addr) :
    Turn P w K (.Tuple elts kk tpos) (IteT K a) [e, it] e (fun i h => (∃ old, IsEnum h e it ((i : Nat) : Int) old) ∧ h.IsTupleIter it a i ∧ e ≠ it ∧ e ≠ a ∧ a ≠ it) where
  mem := by simp
  obj := fun i h st b hb => by
    obtain ⟨⟨old, he⟩, ⟨o, ho, hc, hd⟩, _⟩ := st
    have e' : b = e ∨ b = it := by simpa using hb
    rcases e' with z | z
    · rw [z]; exact ⟨_, he, fun v q => nomatch q⟩
    · rw [z]; exact ⟨o, ho, fun v q => by rw [hd] at q; cases q⟩
  keep := fun i h h' st k => let ⟨⟨old, he⟩, hi, hne⟩ := st; ⟨⟨old, k e (by simp) _ he⟩, hi.at fun o q => k it (by simp) o q, hne⟩
  item := by
    intro X hP hw hK hc i pins s σ H E I hf st hg
    subst hP hw hK
    obtain ⟨⟨old, he⟩, hit, hne, hea, hai⟩ := st
    obtain ⟨xs, x, hq, hx⟩ := hg
    obtain ⟨its, rv, p, hz⟩ := I.tuple hq
    obtain ⟨u, hu, ru⟩ := rv.get hx
    have hel : e < s.heap.objs.size := Heap.lt_size he
    have hil : it < s.heap.objs.size := by obtain ⟨_, q, _⟩ := hit; exact Heap.lt_size q
    have hlt : i < its.toArray.size := by
      rw [List.size_toArray]
      exact (List.getElem?_eq_some_iff.mp hu).1
    have hh : (X.A.in1).handled = none := I.ok.hd hc
    refine wpAny_pyNext_enum_itemD (Draws.tuple hh it a hai its.toArray) he ⟨hit, p⟩ hlt hne (by simp [hne, hea]) fun y h' tk hy ho hit' hT hsz hk => ?_
    have ey : y = u := by
      have : its[i]? = some y := by simpa using hy
      rw [hu] at this
      exact (Option.some.inj this).symm
    subst ey
    refine ⟨_, rfl, wpAny_letOwnedTupleGo_enum (s := { s with heap := h', toks := tk + 1 }) ho fun h'' he' sb => ?_⟩
    have hT2 : h''.get? s.heap.objs.size = some { cls := .type "tuple", data := .seq #[.int i tk, y] } := (sb.2 _ (Nat.ne_of_gt hel)).trans hT
    have new : ObjOk X.prog X.w (upd H s.heap.objs.size (.tup [.int (i : Nat), x])) h'' s.heap.objs.size (.tup [.int (i : Nat), x]) :=
      ⟨by show 2 ≤ sizeLine; decide, [.int i tk, y], .cons ⟨_, rfl⟩ (.cons ru .nil), ⟨_, hT2, rfl, _, rfl⟩⟩
    have I1 : Inv X pins σ (upd H s.heap.objs.size (.tup [.int (i : Nat), x])) { s with heap := h'', toks := tk + 1 } :=
      I.turnedNew (ch := [e, it]) (fun b ob hb q => (sb.2 b (fun z => hb (by simp [z]))).trans (hk b ob (fun z => hb (by simp [z])) (fun z => hb (by simp [z])) q)) hf (Nat.le_refl _) new
    refine ⟨.ref s.heap.objs.size, _, I1, rfl, ⟨_, x, rfl, I.hok.fresh (Nat.le_refl _), rfl, fun ys hy => by rw [I.tuple_inj hy hq]; exact hx⟩, ⟨⟨y, ?_⟩, hit'.1.at fun o q => (sb.2 it (Ne.symm hne)).trans q, hne, hea, hai⟩, fun b hb => ?_⟩
    · have e1 : ((i + 1 : Nat) : Int) = (i : Int) + 1 := by omega
      rw [e1]; exact he'
    · have hb' : b < s.heap.objs.size := by
        have e' : b = e ∨ b = it := by simpa using hb
        rcases e' with z | z
        · rw [z]; exact hel
        · rw [z]; exact hil
      rw [upd_ne (Nat.ne_of_lt hb')]
      exact (hf b hb).1
  done := by
    intro X hP hw hK hc i pins s σ H E I hf st hg
    subst hP hw hK
    obtain ⟨⟨old, he⟩, hit, hne, hea, hai⟩ := st
    obtain ⟨xs, hq, hx⟩ := hg
    obtain ⟨its, rv, p, hz⟩ := I.tuple hq
    obtain ⟨f0, f1, f2, f3, f4, f5⟩ := hf it (by simp)
    have hl := rv.length
    have hh : (X.A.in1).handled = none := I.ok.hd hc
    have hT : s.TypeIs (.ref e) "enumerate" := ⟨_, he, rfl⟩
    unfold pyNext
    refine wpAny_bind (wpAny_attempt (wpAny_callSpecial?_slot (name := Str.ofString "__next__") hT F.slot_enumerate_next
      (wpAny_call_entry F.slot_enumerate_next hT F.entry_enumerate_next ?_ (F.args_enumerate_next_1 _))))
    show wpAny _ _ (field (.ref e) 2 >>= _) _ _ _
    refine wpAny_bind (wpAny_field he rfl (x := .ref it) rfl ?_)
    refine wpAny_bind (wpAny_nextOf_tuple_end hh hit p (by simp; omega) fun h' x he' hx' => ?_)
    obtain ⟨o, ho, hc⟩ := hx'
    refine wpAny_bind (wpAny_isInstance (T := "StopIteration") (b := true) ⟨o, ho, hc⟩ isSubtype_stop ?_)
    exact wpAny_pure ⟨rfl, I.turned (t' := s.toks) (fun b o hb q => he' b o hb q) f0 f1 f3 f4 f5⟩
  self := fun A i s Q E st h => let ⟨⟨_, he⟩, _⟩ := st; wpAny_pyIter_enum he h
/-- of a list or a tuple -/
def iEnumA (K : PySem.W.Frag) (ta : TA) : TI := fun σ H R => ta σ H fun vs H1 => ∃ a xs, vs = [.ref a] ∧ ((SqL K H1 a xs ∧ R (Ite K a) H1) ∨ (SqT K H1 a xs ∧ R (IteT K a) H1))
theorem pi_enumA {X : Cx} {e : Expr} {ta : TA} {p pos tpos : Pos} {elts : List Expr} {kk : Nat} (hg : Gl X "enumerate") (hm : X.mg "enumerate" = none) (ha : PA X [e] ta) (hs : starEach [e] X.env = [(false, eval e X.env)] := by rfl) :
    PI X (.Tuple elts kk tpos) (.Call (.Name "enumerate" p) [e] [] pos) (iEnumA X.K ta) := by
  refine ⟨fun pins s σ H R I h => ?_⟩
  refine Call_ (ld_blt I hg hm boot_enumerate (PyProof.Rows.callWith_type1 (thn (ha.run pos pins s σ H _ I h) fun us s1 ⟨vs, H1, I1, r1, q1⟩ => ?_) hs rfl))
  obtain ⟨a, xs, ex, hq⟩ := q1
  subst ex
  cases r1 with
  | cons r rr =>
    cases rr
    cases r
    have fp : ∀ (b : Addr), b ∈ [s1.heap.objs.size + 1, s1.heap.objs.size] → s1.heap.objs.size ≤ b := fun b hb => by
      have e' : b = s1.heap.objs.size + 1 ∨ b = s1.heap.objs.size := by simpa using hb
      rcases e' with z | z
      · rw [z]; exact Nat.le_add_right _ _
      · rw [z]; exact Nat.le_refl _
    rcases hq with ⟨hq, q⟩ | ⟨hq, q⟩
    · obtain ⟨its, rv, p', hz⟩ := I1.list hq
      refine call_enumerate_list p'.isList fun h' he hit hsz hk => wpAny_pyIter_enum he ?_
      have I2 : Inv X pins σ H1 { s1 with heap := h' } := I1.kept (t' := s1.toks) hk
      exact ⟨s1.heap.objs.size + 1, [s1.heap.objs.size + 1, s1.heap.objs.size], _, _, H1, rfl, I2, turn_enum a (s1.heap.objs.size + 1) s1.heap.objs.size, ⟨⟨.none, he⟩, hit, Nat.succ_ne_self _⟩, fun b hb => I1.fpOk (fp b hb) (I1.hok.fresh (fp b hb)), q⟩
    · obtain ⟨its, rv, p', hz⟩ := I1.tuple hq
      have al : a < s1.heap.objs.size := by obtain ⟨_, q, _⟩ := p'; exact Heap.lt_size q
      refine enum_begin1 (begins_tuple a its.toArray) p' fun h' he hit hsz hk => wpAny_pyIter_enum he ?_
      have I2 : Inv X pins σ H1 { s1 with heap := h' } := I1.kept (t' := s1.toks) hk
      exact ⟨s1.heap.objs.size + 1, [s1.heap.objs.size + 1, s1.heap.objs.size], _, _, H1, rfl, I2, turn_enumT a (s1.heap.objs.size + 1) s1.heap.objs.size, ⟨⟨.none, he⟩, ⟨_, hit, rfl, rfl⟩, Nat.succ_ne_self _, Nat.ne_of_gt (Nat.lt_succ_of_lt al), Nat.ne_of_lt al⟩, fun b hb => I1.fpOk (fp b hb) (I1.hok.fresh (fp b hb)), q⟩
section
variable {X : Cx} {c : Ct} {pos : Pos} {fa : En → Rs (List PyData)} {K : PySem.W.Frag} {S : Hp}
theorem walks_enumT {a : Addr} {vs : List V} {xs : List PyData} (ha : SqT K S a vs) (hx : DqAll K S vs xs) : Walks K (IteT K a) H0 S (enumFrom 0 xs) := by
  refine ⟨fun i S1 H s1 s2 _ hi => ?_, fun i S1 H x H' s1 s2 _ y d ed => ?_, fun S1 H s1 s2 _ => ?_⟩
  · obtain ⟨x, e1, _⟩ := enum_get (List.getElem?_eq_getElem hi)
    obtain ⟨v, h1, _⟩ := DqAll.get' hx e1
    exact ⟨vs, v, sqT_mono (s1.trans s2) ha, h1⟩
  · obtain ⟨T, x1, rfl, hT, rfl, h1⟩ := y
    obtain ⟨x0, e1, rfl⟩ := enum_get ed
    obtain ⟨v, e3, hv⟩ := DqAll.get' hx e1
    have q1 := h1 vs (sqT_mono (s1.trans s2) ha)
    rw [e3] at q1; cases q1
    rw [Nat.zero_add]
    exact new_pair s2 hT (.int _) (dp_mono s1 _ _ hv)
  · exact ⟨vs, sqT_mono (s1.trans s2) ha, by rw [DqAll.length hx, enum_len]; exact Nat.le_refl _⟩
def enumsA : List PyData → Rs (List PyData)
  | [.list xs] => .ok (enumFrom 0 xs)
  | [.tuple xs] => .ok (enumFrom 0 xs)
  | _ => .no
theorem di_enumA {a : Expr} {p tpos : Pos} {elts : List Expr} {kk : Nat} (hg : Gl X "enumerate") (hm : X.mg "enumerate" = none) (ha : DA X c [a] fa) (hs : starEach [a] X.env = [(false, eval a X.env)] := by rfl) :
    DI X c (.Tuple elts kk tpos) (.Call (.Name "enumerate" p) [a] [] pos) (iRg enumsA fa) := by
  refine pi_imp (pi_enumA hg hm ha hs) fun σ H Q ⟨S, ρ, rp, q⟩ => ⟨S, ρ, rp, Go.seq q fun S1 H1 x dx o1 hx q1 => ?_⟩
  unfold enumsA at q1
  split at q1
  · obtain ⟨v, rfl, h1⟩ := dqs1 hx
    cases h1 with
    | lst a1 a2 => exact ⟨_, _, rfl, .inl ⟨.inl (rd_mono o1.sub a1), Go.now q1 o1.sub (walks_enum (.inl a1) a2)⟩⟩
  · obtain ⟨v, rfl, h1⟩ := dqs1 hx
    cases h1 with
    | tup a1 a2 => exact ⟨_, _, rfl, .inr ⟨sqT_mono o1.sub a1, Go.now q1 o1.sub (walks_enumT a1 a2)⟩⟩
  · exact q1.elim
@[simp] theorem enumsA_l (xs : List PyData) : enumsA [.list xs] = .ok (enumFrom 0 xs) := Eq.trans rfl rfl
@[simp] theorem enumsA_t (xs : List PyData) : enumsA [.tuple xs] = .ok (enumFrom 0 xs) := Eq.trans rfl rfl
end
/-! ### a module's tuple of whole numbers -/
section
variable {X : Cx} {c : Ct} {pos : Pos}
theorem seq_ints {K : PySem.W.Frag} {S : Hp} {a : Addr} {ns : List Int} {o : Obj} {its : Array Value} {n : Nat} (h : K.lookup a = some o) (hc : o.cls = .type "tuple") (hd : o.data = .seq its n) (hz : its.size ≤ sizeLine) (hv : Vals (ns.map V.int) its.toList) : Dq K S (.ref a) (.tuple (ns.map PyData.int)) :=
  .tup (.inr ⟨o, its, n, h, hc, hd, hz, hv⟩) (ints_dps ns)
theorem de_gT {x : Str} {ds : List PyData} (hg : Gl X x) (h : ∃ a, X.mg x = some (.ref a) ∧ ∀ S, Dq X.K S (.ref a) (.tuple ds)) (hd : (x == ("__debug__" : Str)) = false := by decide) : DE X c (.Name x pos) (eC (.tuple ds)) := by
  obtain ⟨a, hm, hq⟩ := h
  exact de_c (v := .ref a) (pe_glob hg hm rfl hd) hq
end
/-! ### a try whose clauses are never reached -/
def sThru (F : En → Out) : En → Out := fun ρ => noEr (F ρ)
theorem ds_thru {X : Cx} {c : Ct} {pos : Pos} {body : List Stmt} {h₀ : ExceptHandler} {hds : List ExceptHandler} {F : En → Out} (hb : DSs X.nox c.in1 body F) : DS X c (.Try body (h₀ :: hds) [] [] pos) (sThru F) :=
  ps_imp (ps_try_thru0 hb) fun D σ H ⟨S, ρ, rp, p⟩ => ⟨S, ρ, rp, by
    unfold sThru at p
    cases z : F ρ with
    | nx ρ1 => rw [z] at p; exact p
    | rt v => rw [z] at p; exact p
    | bk ρ1 => rw [z] at p; exact p
    | ct ρ1 => rw [z] at p; exact p
    | er x ρ1 => rw [z] at p; exact p.elim
    | no => rw [z] at p; exact p.elim⟩
@[simp] theorem sThru_ap (F : En → Out) (ρ : En) : sThru F ρ = noEr (F ρ) := Eq.trans rfl rfl
/-! ### max of a list of whole numbers, or of two -/
def maxL : List Int → Int
  | [] => 0
  | [x] => x
  | x :: y :: r => let m := maxL (y :: r); if m > x then m else x
theorem maxL_spec : ∀ (x : Int) (xs : List Int), maxL (x :: xs) ∈ x :: xs ∧ ∀ y ∈ x :: xs, y ≤ maxL (x :: xs)
  | x, [] => by simp [maxL]
  | x, y :: r => by
    have ih := maxL_spec y r
    unfold maxL
    dsimp only
    by_cases c : maxL (y :: r) > x
    · rw [if_pos c]
      refine ⟨List.mem_cons_of_mem _ ih.1, fun z hz => ?_⟩
      rcases List.mem_cons.mp hz with q | q
      · subst q; omega
      · exact ih.2 z q
    · rw [if_neg c]
      refine ⟨List.mem_cons_self, fun z hz => ?_⟩
      rcases List.mem_cons.mp hz with q | q
      · subst q; omega
      · have := ih.2 z q
        omega
def intsD : List PyData → Option (List Int)
  | [] => some []
  | .int i :: r => (intsD r).map (i :: ·)
  | _ => none
theorem intsD_map : ∀ ns : List Int, intsD (ns.map PyData.int) = some ns
  | [] => rfl
  | n :: ns => by
    show (intsD (ns.map PyData.int)).map (n :: ·) = _
    rw [intsD_map ns]
    rfl
theorem intsD_eq : ∀ {ds : List PyData} {ns : List Int}, intsD ds = some ns → ds = ns.map PyData.int
  | [], ns, h => by cases h; rfl
  | d :: ds, ns, h => by
    cases d with
    | int i =>
      unfold intsD at h
      cases e : intsD ds with
      | none => rw [e] at h; cases h
      | some r => rw [e] at h; cases h; rw [intsD_eq e]; rfl
    | _ => cases h
def fMaxA : List PyData → Option PyData
  | [.int i, .int j] => some (.int (if j > i then j else i))
  | [.list xs] => match intsD xs with
    | some (n :: ns) => some (.int (maxL (n :: ns)))
    | _ => none
  | _ => none
section
variable {X : Cx} {K : PySem.W.Frag}
theorem cr_maxA (hc : X.calm = true) : CallR X (.builtin "max") (fun xs H Q => (∃ i j, xs = [.int i, .int j] ∧ Q (.int (if j > i then j else i)) H) ∨ rMax X.K xs H Q) := CallR.or (call_max2 hc) (cr_max hc)
theorem cs_maxA : CallS K (fun xs H Q => (∃ i j, xs = [.int i, .int j] ∧ Q (.int (if j > i then j else i)) H) ∨ rMax K xs H Q) fMaxA := by
  intro S H vs ds Q hs hv d e q
  unfold fMaxA at e
  split at e
  · cases e
    obtain ⟨v, u, rfl, h1, h2⟩ := dqs2 hv
    cases h1; cases h2
    exact .inl ⟨_, _, rfl, q S H _ (.refl hs) (.int _)⟩
  · rename_i xs
    cases e2 : intsD xs with
    | none => rw [e2] at e; cases e
    | some l =>
      rw [e2] at e
      cases l with
      | nil => cases e
      | cons n ns =>
        cases e
        obtain ⟨v, rfl, hx⟩ := dqs1 hv
        have ex := intsD_eq e2
        subst ex
        cases hx with
        | lst h1 h2 =>
          have ev := dps_ints _ _ h2
          subst ev
          refine .inr ⟨_, n :: ns, rfl, .inl (rd_mono hs h1), by simp, fun m hm hall => ?_⟩
          have sp := maxL_spec n ns
          have : m = maxL (n :: ns) := Int.le_antisymm (sp.2 m hm) (hall _ sp.1)
          subst this
          exact q S H _ (.refl hs) (.int _)
  · cases e
@[simp] theorem fMaxA_2 (i j : Int) : fMaxA [.int i, .int j] = some (.int (if j > i then j else i)) := Eq.trans rfl rfl
theorem fMaxA_l (n : Int) (ns : List Int) : fMaxA [.list ((n :: ns).map PyData.int)] = some (.int (maxL (n :: ns))) := by
  show (match intsD ((n :: ns).map PyData.int) with | some (n :: ns) => some (PyData.int (maxL (n :: ns))) | _ => none) = _
  rw [intsD_map]
end
end D2

namespace D2
open PySem PySem.Spec PyProof.Rows L2
/-! ### slots let go -/
def wpO (wn wb we : List Nat) : Out → Out
  | .nx ρ => .nx (wipeE ρ wn)
  | .ct ρ => .ct (wipeE ρ wn)
  | .bk ρ => .bk (wipeE ρ wb)
  | .er x ρ => .er x (wipeE ρ we)
  | .rt d => .rt d
  | .no => .no
def sWp (wn wb we : List Nat) (F : En → Out) : En → Out := fun ρ => wpO wn wb we (F ρ)
def sWs (ws : List Nat) (F : En → Out) : En → Out := fun ρ => F (wipeE ρ ws)
def sForW (ws : List Nat) (s : En → Rs (List PyData)) (g : PyData → En → Option En) (b : En → Out) : En → Out := fun ρ => andThen (s ρ) ρ fun xs => fLoop g b xs (wipeE ρ ws)
section
variable {K : PySem.W.Frag} {wd : World} {H0 S0 S H : Hp} {ρ : En} {σ : St}
theorem Rep.forgets (r : Rep K wd H0 S0 S ρ σ H) : ∀ ws : List Nat, Rep K wd H0 S0 S (wipeE ρ ws) σ H
  | [] => r
  | v :: vs => (Rep.forgets r vs).forget v
end
section
variable {X : Cx} {c : Ct} {st : Stmt} {rest body orelse : List Stmt} {pos : Pos} {e : Expr} {F G : En → Out} {f : En → Rs PyData} {t : En → Rs Bool}
theorem post_wp {wn wb we : List Nat} {S : Hp} {D : Ends} {o : Out} (p : Post X.K X.mg c S D (wpO wn wb we o)) : Post X.K X.mg c S D o := by
  cases o with
  | nx ρ => exact fun S' σ' H' s r => p S' σ' H' s (r.forgets wn)
  | ct ρ => exact fun S' σ' H' s r => p S' σ' H' s (r.forgets wn)
  | bk ρ => exact fun S' σ' H' s r => p S' σ' H' s (r.forgets wb)
  | er x ρ => exact fun S' σ' H' C d s r => p S' σ' H' C d s (r.forgets we)
  | rt d => exact p
  | no => exact p
theorem ds_wp (wn wb we : List Nat) (h : DS X c st F) : DS X c st (sWp wn wb we F) := ps_imp h fun D σ H ⟨S, ρ, r, p⟩ => ⟨S, ρ, r, post_wp p⟩
theorem dss_wp (wn wb we : List Nat) (h : DSs X c rest F) : DSs X c rest (sWp wn wb we F) := pss_imp h fun D σ H ⟨S, ρ, r, p⟩ => ⟨S, ρ, r, post_wp p⟩
theorem ds_ws (ws : List Nat) (h : DS X c st F) : DS X c st (sWs ws F) := ps_imp h fun D σ H ⟨S, ρ, r, p⟩ => ⟨S, wipeE ρ ws, r.forgets ws, p⟩
theorem ds_forW (wz : List Nat) {tg iter : Expr} {s : En → Rs (List PyData)} {ws : List Nat} {g : PyData → En → Option En} (hp : PassesOwn (model X.prog X.w) X.A X.env X.xe) (hc : X.calm = true) (hi : DI X c tg iter s) (hg : DG X c tg ws g) (hb : DSs X c body F)
    (hs : ∀ x, foldedSetIterable iter X.env x = pure x := by intro _; rfl) : DS X c (.For tg iter body [] pos) (sForW wz s g F) := by
  refine ps_imp (ps_for hp hc hi hg hb hs) fun D σ H ⟨S, ρ, rp, p⟩ => ⟨S, ρ, rp, go_then rp p fun S1 H1 J xs o wk r1 p1 => ?_⟩
  refine ⟨fun i m σ H => m = xs.length - i ∧ i ≤ xs.length ∧ ∃ S ρ, Same S1 S ∧ Rep X.K c.wd c.H0 c.S0 S ρ σ H ∧ Post X.K X.mg c S D (fLoop g F (xs.drop i) ρ), ⟨xs.length, by simp, Nat.zero_le _, S1, wipeE ρ wz, .refl _, r1.forgets wz, p1⟩, ?_⟩
  rintro i m σ H ⟨rfl, hi, S2, ρ2, s12, r2, p2⟩
  by_cases hlt : i < xs.length
  · rw [List.drop_eq_getElem_cons hlt] at p2
    unfold fLoop at p2
    refine .inr ⟨wk.go i S2 H s12 r2.sub r2.old.ext hlt, ?_⟩
    refine ⟨fun σ H => ∃ S ρ, Same S1 S ∧ Rep X.K c.wd c.H0 c.S0 S ρ σ H ∧ Post X.K X.mg c S D (fLoop g F (xs.drop (i + 1)) ρ), fun σ' H' h => ⟨xs.length - (i + 1), by omega, rfl, hlt, h⟩, fun x H' y => ?_⟩
    obtain ⟨S3, o3, hx⟩ := wk.yld i S2 H x H' s12 r2.sub r2.old.ext y xs[i] (List.getElem?_eq_getElem hlt)
    cases e1 : g xs[i] ρ2 with
    | none => rw [e1] at p2; exact p2.elim
    | some ρ3 =>
      rw [e1] at p2
      refine ⟨S3, ρ2, xs[i], r2.step o3, hx, ρ3, e1, fun σ3 r3 _ => ⟨S3, ρ3, r3, ?_⟩⟩
      dsimp only at p2
      cases e2 : F ρ3 with
      | nx ρ' => rw [e2] at p2; exact fun S4 σ4 H4 s4 r4 => ⟨S4, ρ', (s12.trans o3.s0).trans s4, r4, Post.mono p2 (o3.s0.trans s4)⟩
      | ct ρ' => rw [e2] at p2; exact fun S4 σ4 H4 s4 r4 => ⟨S4, ρ', (s12.trans o3.s0).trans s4, r4, Post.mono p2 (o3.s0.trans s4)⟩
      | bk ρ' => rw [e2] at p2; exact fun S4 σ4 H4 s4 r4 => p2 S4 σ4 H4 (o3.s0.trans s4) r4
      | rt d => rw [e2] at p2; exact p2
      | er x ρ' => rw [e2] at p2; exact fun S4 σ4 H4 C d s4 r4 => p2 S4 σ4 H4 C d (o3.s0.trans s4) r4
      | no => rw [e2] at p2; exact p2
  · have e : i = xs.length := by omega
    subst e
    rw [List.drop_eq_nil_of_le (Nat.le_refl _)] at p2
    exact .inl ⟨wk.stop S2 H s12 r2.sub r2.old.ext, p2 S2 σ H (.refl _) r2⟩
end
section
variable {F : En → Out} {ρ : En} {wn wb we : List Nat}
@[simp] theorem sWp_ap : sWp wn wb we F ρ = wpO wn wb we (F ρ) := Eq.trans rfl rfl
@[simp] theorem wpO_nx : wpO wn wb we (.nx ρ) = .nx (wipeE ρ wn) := Eq.trans rfl rfl
@[simp] theorem wpO_ct : wpO wn wb we (.ct ρ) = .ct (wipeE ρ wn) := Eq.trans rfl rfl
@[simp] theorem wpO_bk : wpO wn wb we (.bk ρ) = .bk (wipeE ρ wb) := Eq.trans rfl rfl
@[simp] theorem wpO_er (x : Ex) : wpO wn wb we (.er x ρ) = .er x (wipeE ρ we) := Eq.trans rfl rfl
@[simp] theorem wpO_rt (d : PyData) : wpO wn wb we (.rt d) = .rt d := Eq.trans rfl rfl
@[simp] theorem wpO_no : wpO wn wb we .no = .no := Eq.trans rfl rfl
@[simp] theorem sWs_ap : sWs wn F ρ = F (wipeE ρ wn) := Eq.trans rfl rfl
@[simp] theorem sForW_ap {s : En → Rs (List PyData)} {k : PyData → En → Option En} : sForW wn s k F ρ = andThen (s ρ) ρ fun xs => fLoop k F xs (wipeE ρ wn) := Eq.trans rfl rfl
end
end D2

namespace D2
open PySem PySem.Spec PyProof.Rows L2
/-! ### in, not in -/
def strsD : List PyData → Option (List Str)
  | [] => some []
  | .str x :: r => (strsD r).map (x :: ·)
  | _ => none
def inSeq (x : PyData) (ys : List PyData) (w : PyData) : Option PyData := match x, strsD ys with
  | .str a, some zs => some (.bool (zs.any fun z => z == a))
  | _, _ => if SeqAt.shaped x = true ∧ SeqAt.shaped w = true then some (.bool (ys.any fun z => PyData.eqv z x)) else none
def opIn : PyData → PyData → Option PyData
  | .str a, .str b => if a.cps.size = 1 then some (.bool (decide (a.cps.getD 0 0 ∈ b.cps.toList))) else none
  | x, .list ys => inSeq x ys (.list ys)
  | x, .tuple ys => inSeq x ys (.tuple ys)
  | _, _ => none
def opNotIn (x y : PyData) : Option PyData := (opIn x y).map bnot
section
variable {K : PySem.W.Frag} {X : Cx}
variable {S : Hp}
theorem strsD_map : ∀ l : List Str, strsD (l.map PyData.str) = some l
  | [] => rfl
  | x :: l => by simp [strsD, strsD_map l]
theorem strsD_eq : ∀ {ds : List PyData} {zs : List Str}, strsD ds = some zs → ds = zs.map PyData.str
  | [], zs, h => by cases h; rfl
  | .str x :: r, zs, h => by
    rw [strsD] at h
    cases e : strsD r with
    | none => rw [e] at h; cases h
    | some l => rw [e] at h; cases h; rw [strsD_eq e]; rfl
  | .none :: _, _, h => by cases h
  | .bool _ :: _, _, h => by cases h
  | .int _ :: _, _, h => by cases h
  | .list _ :: _, _, h => by cases h
  | .tuple _ :: _, _, h => by cases h
  | .dict _ :: _, _, h => by cases h
theorem dps_strs : ∀ (l : List Str) (vs : List V), DqAll K S vs (l.map PyData.str) → vs = l.map V.str
  | [], _, h => by cases h; rfl
  | n :: ns, _, h => by
    cases h with
    | cons h1 h2 => cases h1; rw [dps_strs ns _ h2]; rfl
theorem strs_dps : ∀ (l : List Str), DqAll K S (l.map V.str) (l.map PyData.str)
  | [] => .nil
  | n :: ns => .cons (.str n) (strs_dps ns)
theorem u65 {k : Nat} {A : Around} (r : Room k A) : A.units + 65 < cLine := by have := r.un; omega
def rInT (K : PySem.W.Frag) : R2 := fun x y H Q => ∃ d ds, Dp K H x d ∧ Dp K H y (.tuple ds) ∧ SeqAt.shaped d = true ∧ SeqAt.shaped (.tuple ds) = true ∧ Q (.bl (ds.any fun z => PyData.eqv z d)) H
def rNotInT (K : PySem.W.Frag) : R2 := fun x y H Q => ∃ d ds, Dp K H x d ∧ Dp K H y (.tuple ds) ∧ SeqAt.shaped d = true ∧ SeqAt.shaped (.tuple ds) = true ∧ Q (.bl (!ds.any fun z => PyData.eqv z d)) H
theorem op_inT (hu : X.A.units + 65 < cLine) : OpR X (compareOp .In) (rInT X.K) := by
  intro pins s σ H x y v u Q I rx ry h
  obtain ⟨d, ds, hd, he, sd, se, q⟩ := h
  obtain ⟨as, r1⟩ := Dp.reads I d x v hd rx
  obtain ⟨bs, r2⟩ := Dp.reads I (.tuple ds) y u he ry
  exact SeqAt.in_tuple_reads r2 r1 (SeqAt.canLay_of_shaped se) (SeqAt.canLay_of_shaped sd) (room_in_shaped sd hu) ⟨.bl _, H, I, rfl, q⟩
theorem op_notInT (hu : X.A.units + 65 < cLine) : OpR X (compareOp .NotIn) (rNotInT X.K) := by
  intro pins s σ H x y v u Q I rx ry h
  obtain ⟨d, ds, hd, he, sd, se, q⟩ := h
  obtain ⟨as, r1⟩ := Dp.reads I d x v hd rx
  obtain ⟨bs, r2⟩ := Dp.reads I (.tuple ds) y u he ry
  exact SeqAt.notIn_tuple_reads r2 r1 (SeqAt.canLay_of_shaped se) (SeqAt.canLay_of_shaped sd) (room_in_shaped sd hu) ⟨.bl _, H, I, rfl, q⟩
def rSgn (f : Bool → Bool) : R2 := fun x y H Q => ∃ (c : Nat) (z : Str), x = .str ⟨#[c]⟩ ∧ y = .str z ∧ Q (.bl (f (decide (c ∈ z.cps.toList)))) H
def rInF (K : PySem.W.Frag) (neg : Bool) : R2 := rIn K neg
def rInA (K : PySem.W.Frag) : R2 := fun x y H Q => rSgn id x y H Q ∨ (rInD K x y H Q ∨ (rInT K x y H Q ∨ rIn K false x y H Q))
def rNotInA (K : PySem.W.Frag) : R2 := fun x y H Q => rSgn not x y H Q ∨ (rNotInD K x y H Q ∨ (rNotInT K x y H Q ∨ rIn K true x y H Q))
theorem or_in (hu : X.A.units + 65 < cLine) : OpR X (compareOp .In) (rInA X.K) := OpR.or op_in_sign (OpR.or (op_inD hu) (OpR.or (op_inT hu) op_in_seq))
theorem or_notin (hu : X.A.units + 65 < cLine) : OpR X (compareOp .NotIn) (rNotInA X.K) := OpR.or op_notIn_sign (OpR.or (op_notInD hu) (OpR.or (op_notInT hu) op_notIn_seq))
theorem size_one {a : Str} (h : a.cps.size = 1) : a = ⟨#[a.cps.getD 0 0]⟩ := by
  obtain ⟨c⟩ := a
  simp only at h ⊢
  congr 1
  refine Array.ext (by simpa using h) fun i h1 h2 => ?_
  have : i = 0 := by omega
  subst this
  simp [Array.getD, h1]
theorem inSeq_cases {x w d : PyData} {ys : List PyData} (e : inSeq x ys w = some d) : (∃ (a : Str) (zs : List Str), x = .str a ∧ ys = zs.map PyData.str ∧ d = .bool (zs.any fun z => z == a)) ∨
    (SeqAt.shaped x = true ∧ SeqAt.shaped w = true ∧ d = .bool (ys.any fun z => PyData.eqv z x)) := by
  unfold inSeq at e
  split at e
  · rename_i e2
    cases e
    exact .inl ⟨_, _, rfl, strsD_eq e2, rfl⟩
  · split at e
    · rename_i h; cases e; exact .inr ⟨h.1, h.2, rfl⟩
    · cases e
theorem opIn_cases {dx dy d : PyData} (e : opIn dx dy = some d) : (∃ a b, dx = .str a ∧ dy = .str b ∧ a.cps.size = 1 ∧ d = .bool (decide (a.cps.getD 0 0 ∈ b.cps.toList))) ∨
    (∃ ys, dy = .list ys ∧ inSeq dx ys (.list ys) = some d) ∨ (∃ ys, dy = .tuple ys ∧ inSeq dx ys (.tuple ys) = some d) := by
  unfold opIn at e
  split at e
  · split at e
    · rename_i h; cases e; exact .inl ⟨_, _, rfl, rfl, h, rfl⟩
    · cases e
  · exact .inr (.inl ⟨_, rfl, e⟩)
  · exact .inr (.inr ⟨_, rfl, e⟩)
  · cases e
theorem flat_strs (zs : List Str) : (zs.map V.str).all flatV = true := by simp [flatV]
theorem inV_strs (a : Str) (zs : List Str) : inV (.str a) (zs.map V.str) = zs.any fun z => z == a := by
  simp only [inV, List.any_map]
  rfl
theorem os_in : OpS K (rInA K) opIn := by
  intro S H x y dx dy Q hs hx hy d e q
  rcases opIn_cases e with ⟨a, b, rfl, rfl, h1, rfl⟩ | ⟨ys, rfl, h⟩ | ⟨ys, rfl, h⟩
  · cases hx
    cases hy
    exact .inl ⟨_, b, by rw [← size_one h1], rfl, q S H _ (.refl hs) (.bl _)⟩
  · rcases inSeq_cases h with ⟨a, zs, rfl, rfl, rfl⟩ | ⟨h1, h2, rfl⟩
    · cases hx
      cases hy with
      | lst h3 h4 =>
        rw [dps_strs _ _ h4] at h3
        exact .inr (.inr (.inr ⟨_, _, rfl, .inl (.inl (rd_mono hs h3)), rfl, flat_strs _, by rw [if_neg Bool.false_ne_true, inV_strs]; exact q S H _ (.refl hs) (.bl _)⟩))
    · exact .inr (.inl ⟨dx, ys, dq_dp _ _ (dp_mono hs _ _ hx) (lay_of h1), dq_dp _ _ (dp_mono hs _ _ hy) (lay_of h2), h1, h2, q S H _ (.refl hs) (.bl _)⟩)
  · rcases inSeq_cases h with ⟨a, zs, rfl, rfl, rfl⟩ | ⟨h1, h2, rfl⟩
    · cases hx
      cases hy with
      | tup h3 h4 =>
        rw [dps_strs _ _ h4] at h3
        exact .inr (.inr (.inr ⟨_, _, rfl, .inr (sqT_mono hs h3), rfl, flat_strs _, by rw [if_neg Bool.false_ne_true, inV_strs]; exact q S H _ (.refl hs) (.bl _)⟩))
    · exact .inr (.inr (.inl ⟨dx, ys, dq_dp _ _ (dp_mono hs _ _ hx) (lay_of h1), dq_dp _ _ (dp_mono hs _ _ hy) (lay_of h2), h1, h2, q S H _ (.refl hs) (.bl _)⟩))
theorem os_notin : OpS K (rNotInA K) opNotIn := by
  intro S H x y dx dy Q hs hx hy d e q
  unfold opNotIn at e
  cases e0 : opIn dx dy with
  | none => rw [e0] at e; cases e
  | some d0 =>
    rw [e0] at e
    cases e
    rcases opIn_cases e0 with ⟨a, b, rfl, rfl, h1, rfl⟩ | ⟨ys, rfl, h⟩ | ⟨ys, rfl, h⟩
    · cases hx
      cases hy
      exact .inl ⟨_, b, by rw [← size_one h1], rfl, q S H _ (.refl hs) (.bl _)⟩
    · rcases inSeq_cases h with ⟨a, zs, rfl, rfl, rfl⟩ | ⟨h1, h2, rfl⟩
      · cases hx
        cases hy with
        | lst h3 h4 =>
          rw [dps_strs _ _ h4] at h3
          exact .inr (.inr (.inr ⟨_, _, rfl, .inl (.inl (rd_mono hs h3)), rfl, flat_strs _, by rw [if_pos rfl, inV_strs]; exact q S H _ (.refl hs) (.bl _)⟩))
      · exact .inr (.inl ⟨dx, ys, dq_dp _ _ (dp_mono hs _ _ hx) (lay_of h1), dq_dp _ _ (dp_mono hs _ _ hy) (lay_of h2), h1, h2, q S H _ (.refl hs) (.bl _)⟩)
    · rcases inSeq_cases h with ⟨a, zs, rfl, rfl, rfl⟩ | ⟨h1, h2, rfl⟩
      · cases hx
        cases hy with
        | tup h3 h4 =>
          rw [dps_strs _ _ h4] at h3
          exact .inr (.inr (.inr ⟨_, _, rfl, .inr (sqT_mono hs h3), rfl, flat_strs _, by rw [if_pos rfl, inV_strs]; exact q S H _ (.refl hs) (.bl _)⟩))
      · exact .inr (.inr (.inl ⟨dx, ys, dq_dp _ _ (dp_mono hs _ _ hx) (lay_of h1), dq_dp _ _ (dp_mono hs _ _ hy) (lay_of h2), h1, h2, q S H _ (.refl hs) (.bl _)⟩))
end
/-! ### methods of texts -/
def asS : PyData → Rs Str
  | .str x => .ok x
  | _ => .no
def eM1 (op : PyData → PyData → Option PyData) (f g : En → Rs PyData) : En → Rs PyData := fun ρ => (f ρ).bind fun x => (asS x).bind fun _ => (g ρ).bind fun y => ofO (op x y)
def opSplit : PyData → PyData → Option PyData
  | .str a, .str b => if (b.length == 0) = false ∧ a.length ≤ 16777214 then some (.list ((Txt.split a b).map PyData.str)) else none
  | _, _ => none
def joinD (a : Str) (ys : List PyData) : Option PyData := (strsD ys).bind fun zs => if (zs.map (·.length)).sum + zs.length * a.length ≤ 16777216 then some (.str (Txt.join a zs)) else none
def opJoin : PyData → PyData → Option PyData
  | .str a, .list ys => joinD a ys
  | .str a, .tuple ys => joinD a ys
  | _, _ => none
def opStarts : PyData → PyData → Option PyData
  | .str a, .str b => some (.bool (Txt.startswith a b))
  | _, _ => none
section
variable {K : PySem.W.Frag} {X : Cx} {c : Ct} {a b e o : Expr} {pos apos : Pos} {f g : En → Rs PyData} {S : Hp}
/-- what a method of a text asks, over data -/
def MtS1 (K : PySem.W.Frag) (r : V → List V → Hp → VK → Prop) (op : PyData → PyData → Option PyData) : Prop :=
  ∀ S H x y dx dy (Q : VK), Same S H → Dq K S x dx → Dq K S y dy → (∀ d, op dx dy = some d → (∀ S' H' v, Old H S S' H' → Dq K S' v d → Q v H') → r x [y] H Q)
theorem tM1_of {r : V → List V → Hp → VK → Prop} {op : PyData → PyData → Option PyData} (hs : MtS1 X.K r op) {σ : St} {H : Hp} {Q : VK} (h : tE X.K X.mg c (eM1 op f g) σ H Q) : tM1 r (tE X.K X.mg c f) (tE X.K X.mg c g) σ H Q := by
  obtain ⟨S, ρ, rp, q⟩ := h
  refine ⟨S, ρ, rp, Go.seq q fun S1 H1 x dx o1 hx q1 => ?_⟩
  cases dx with
  | str z =>
    cases hx
    refine ⟨⟨_, rfl⟩, S1, ρ, rp.step o1, Go.seq (r := g ρ) (k := fun y => ofO (op (.str z) y)) q1 fun S2 H2 y dy o2 hy q2 => ?_⟩
    obtain ⟨d, e, q3⟩ := go_op q2
    exact hs S2 H2 _ y _ dy Q o2.sub (.str _) hy d e q3
  | _ => exact (show False from q1).elim
theorem ms_split : MtS1 K (fun x xs H Q => ∃ a b, x = .str a ∧ xs = [.str b] ∧ (b.length == 0) = false ∧ a.length + 2 ≤ sizeLine ∧ rNewStrs (Txt.split a b) H Q) opSplit := by
  intro S H x y dx dy Q hs hx hy d e q
  unfold opSplit at e
  split at e
  · split at e
    · rename_i h
      cases e
      cases hx
      cases hy
      refine ⟨_, _, rfl, rfl, h.1, by rw [sizeLine_eq]; omega, fun p hp => q _ _ _ (.new hs hp) (.lst (.of upd_same) (strs_dps _))⟩
    · cases e
  · cases e
theorem ms_join : MtS1 K (fun x xs H Q => ∃ a p, ∃ ys : List Str, x = .str a ∧ xs = [.ref p] ∧ (SqL K H p (ys.map V.str) ∨ SqT K H p (ys.map V.str)) ∧ (ys.map (·.length)).sum + ys.length * a.length ≤ 16777216 ∧ Q (.str (Txt.join a ys)) H) opJoin := by
  intro S H x y dx dy Q hs hx hy d e q
  have key : ∀ (a : Str) (ys : List PyData), joinD a ys = some d → ∃ zs, ys = zs.map PyData.str ∧ (zs.map (·.length)).sum + zs.length * a.length ≤ 16777216 ∧ d = .str (Txt.join a zs) := by
    intro a ys e
    unfold joinD at e
    cases e0 : strsD ys with
    | none => rw [e0] at e; cases e
    | some zs =>
      rw [e0, Option.bind_some] at e
      split at e
      · rename_i h; cases e; exact ⟨zs, strsD_eq e0, h, rfl⟩
      · cases e
  unfold opJoin at e
  split at e
  · obtain ⟨zs, rfl, h, rfl⟩ := key _ _ e
    cases hx
    cases hy with
    | lst h1 h2 =>
      rw [dps_strs _ _ h2] at h1
      exact ⟨_, _, zs, rfl, rfl, .inl (.inl (rd_mono hs h1)), h, q S H _ (.refl hs) (.str _)⟩
  · obtain ⟨zs, rfl, h, rfl⟩ := key _ _ e
    cases hx
    cases hy with
    | tup h1 h2 =>
      rw [dps_strs _ _ h2] at h1
      exact ⟨_, _, zs, rfl, rfl, .inr (sqT_mono hs h1), h, q S H _ (.refl hs) (.str _)⟩
  · cases e
theorem ms_starts : MtS1 K (fun x xs H Q => ∃ a b, x = .str a ∧ xs = [.str b] ∧ Q (.bl (Txt.startswith a b)) H) opStarts := by
  intro S H x y dx dy Q hs hx hy d e q
  unfold opStarts at e
  split at e
  · cases e
    cases hx
    cases hy
    exact ⟨_, _, rfl, rfl, q S H _ (.refl hs) (.bl _)⟩
  · cases e
theorem de_split (ho : DE X c o f) (he : DE X c e g) (hs : starEach [e] X.env = [(false, eval e X.env)] := by rfl) (hbase : attributeBase o "split" X.env (eval o X.env) = eval o X.env := by rfl) (hline : (apos.endLine == pos.line) = true := by rfl) :
    DE X c (.Call (.Attribute o "split" apos) [e] [] pos) (eM1 opSplit f g) := pe_imp (pe_split ho he hs hbase hline) fun _ _ _ q => tM1_of ms_split q
theorem de_join (ho : DE X c o f) (he : DE X c e g) (hs : starEach [e] X.env = [(false, eval e X.env)] := by rfl) (hbase : attributeBase o "join" X.env (eval o X.env) = eval o X.env := by rfl) (hline : (apos.endLine == pos.line) = true := by rfl) :
    DE X c (.Call (.Attribute o "join" apos) [e] [] pos) (eM1 opJoin f g) := pe_imp (pe_join ho he hs hbase hline) fun _ _ _ q => tM1_of ms_join q
theorem de_starts (ho : DE X c o f) (he : DE X c e g) (hs : starEach [e] X.env = [(false, eval e X.env)] := by rfl) (hbase : attributeBase o "startswith" X.env (eval o X.env) = eval o X.env := by rfl) (hline : (apos.endLine == pos.line) = true := by rfl) :
    DE X c (.Call (.Attribute o "startswith" apos) [e] [] pos) (eM1 opStarts f g) := pe_imp (pe_m1 F.slot_str_startswith F.type_str_startswith mt_startswith ho he hs hbase hline) fun _ _ _ q => tM1_of ms_starts q
end
/-! ### ord -/
def fOrd : List PyData → Option PyData
  | [.str x] => if x.length = 1 then some (.int (x.cps.getD 0 0 : Nat)) else none
  | _ => none
section
variable {K : PySem.W.Frag}
theorem cs_ord : CallS K (fun xs H Q => ∃ x, xs = [.str x] ∧ x.length = 1 ∧ Q (.int (x.cps.getD 0 0 : Nat)) H) fOrd := by
  intro S H vs ds Q hs hv d e q
  unfold fOrd at e
  split at e
  · split at e
    · rename_i h
      cases e
      obtain ⟨v, rfl, hx⟩ := dqs1 hv
      cases hx
      exact ⟨_, rfl, h, q S H _ (.refl hs) (.int _)⟩
    · cases e
  · cases e
end
end D2

namespace D2
open PySem PySem.Spec PyProof.Rows L2
/-! ### guards, for simp (disch := omega) -/
theorem ite_ok {α : Type} {c : Prop} [Decidable c] {a : Rs α} (h : c) : (if c then a else Rs.no) = a := if_pos h
theorem ite_so {α : Type} {c : Prop} [Decidable c] {a : Option α} (h : c) : (if c then a else none) = a := if_pos h
theorem ite_nx {c : Prop} [Decidable c] {a : Out} (h : c) : (if c then a else Out.no) = a := if_pos h
@[simp high] theorem opMul_intD (i j : Int) (h : (-18446744073709551616 < i ∧ i < 18446744073709551616) ∨ (-18446744073709551616 < j ∧ j < 18446744073709551616)) : opMul (.int i) (.int j) = some (.int (i * j)) := if_pos h
theorem ofO_ite {α : Type} {c : Prop} [Decidable c] {a : Option α} (h : c) : ofO (if c then a else none) = ofO a := by rw [if_pos h]
theorem opIn_t (x : PyData) (ys : List PyData) : opIn x (.tuple ys) = inSeq x ys (.tuple ys) := by cases x <;> rfl
theorem opIn_l (x : PyData) (ys : List PyData) : opIn x (.list ys) = inSeq x ys (.list ys) := by cases x <;> rfl
@[simp] theorem opIn_s (a b : Str) : opIn (.str a) (.str b) = if a.cps.size = 1 then some (.bool (decide (a.cps.getD 0 0 ∈ b.cps.toList))) else none := Eq.trans rfl rfl
@[simp] theorem opNotIn_ap (x y : PyData) : opNotIn x y = (opIn x y).map bnot := Eq.trans rfl rfl
@[simp] theorem bnot_b (b : Bool) : bnot (.bool b) = .bool (!b) := Eq.trans rfl rfl
@[simp] theorem asS_s (x : Str) : asS (.str x) = .ok x := Eq.trans rfl rfl
@[simp] theorem eM1_ap (op : PyData → PyData → Option PyData) (f g : En → Rs PyData) (ρ : En) : eM1 op f g ρ = (f ρ).bind fun x => (asS x).bind fun _ => (g ρ).bind fun y => ofO (op x y) := Eq.trans rfl rfl
@[simp] theorem opSplit_s (a b : Str) : opSplit (.str a) (.str b) = if (b.length == 0) = false ∧ a.length ≤ 16777214 then some (.list ((Txt.split a b).map PyData.str)) else none := Eq.trans rfl rfl
@[simp] theorem opJoin_l (a : Str) (ys : List PyData) : opJoin (.str a) (.list ys) = joinD a ys := Eq.trans rfl rfl
@[simp] theorem opJoin_t (a : Str) (ys : List PyData) : opJoin (.str a) (.tuple ys) = joinD a ys := Eq.trans rfl rfl
@[simp] theorem joinD_map (a : Str) (zs : List Str) : joinD a (zs.map PyData.str) = if (zs.map (·.length)).sum + zs.length * a.length ≤ 16777216 then some (.str (Txt.join a zs)) else none := by
  unfold joinD
  rw [strsD_map, Option.bind_some]
@[simp] theorem opStarts_s (a b : Str) : opStarts (.str a) (.str b) = some (.bool (Txt.startswith a b)) := Eq.trans rfl rfl
@[simp] theorem fOrd_s (x : Str) : fOrd [.str x] = if x.length = 1 then some (.int (x.cps.getD 0 0 : Nat)) else none := Eq.trans rfl rfl
@[simp high] theorem eVar_z (b : Option B) (ρ : En) : eVar 0 (b :: ρ) = slotR (some b) := Eq.trans rfl rfl
@[simp high] theorem eVar_s (i : Nat) (b : Option B) (ρ : En) : eVar (i + 1) (b :: ρ) = eVar i ρ := Eq.trans rfl rfl
end D2

namespace D2
open PySem PySem.Spec PyProof.Rows L2
/-! ### is, is not, of truths -/
def opIs : PyData → PyData → Option PyData
  | .bool a, .bool b => some (.bool (decide (a = b)))
  | _, _ => none
def opIsNot : PyData → PyData → Option PyData
  | .bool a, .bool b => some (.bool (!decide (a = b)))
  | _, _ => none
section
variable {K : PySem.W.Frag}
theorem os_is : OpS K (fun x y H Q => ∃ a b, x = .bl a ∧ y = .bl b ∧ Q (.bl (decide (a = b))) H) opIs := by
  intro S H x y dx dy Q hs hx hy d e q
  unfold opIs at e
  split at e
  · cases e; cases hx; cases hy; exact ⟨_, _, rfl, rfl, q S H _ (.refl hs) (.bl _)⟩
  · cases e
theorem os_isnot : OpS K (fun x y H Q => ∃ a b, x = .bl a ∧ y = .bl b ∧ Q (.bl (!decide (a = b))) H) opIsNot := by
  intro S H x y dx dy Q hs hx hy d e q
  unfold opIsNot at e
  split at e
  · cases e; cases hx; cases hy; exact ⟨_, _, rfl, rfl, q S H _ (.refl hs) (.bl _)⟩
  · cases e
end
@[simp] theorem opIs_b (a b : Bool) : opIs (.bool a) (.bool b) = some (.bool (decide (a = b))) := Eq.trans rfl rfl
@[simp] theorem opIsNot_b (a b : Bool) : opIsNot (.bool a) (.bool b) = some (.bool (!decide (a = b))) := Eq.trans rfl rfl
/-! ### min of a list -/
def minL : List Int → Int
  | [] => 0
  | [x] => x
  | x :: y :: r => if minL (y :: r) < x then minL (y :: r) else x
theorem minL_spec : ∀ (x : Int) (xs : List Int), minL (x :: xs) ∈ x :: xs ∧ ∀ y ∈ x :: xs, minL (x :: xs) ≤ y
  | x, [] => by simp [minL]
  | x, y :: r => by
    have ih := minL_spec y r
    rw [minL]
    split
    · refine ⟨List.mem_cons_of_mem _ ih.1, fun z hz => ?_⟩
      rcases List.mem_cons.mp hz with rfl | hz
      · omega
      · exact ih.2 z hz
    · refine ⟨List.mem_cons_self, fun z hz => ?_⟩
      rcases List.mem_cons.mp hz with rfl | hz
      · omega
      · have := ih.2 z hz; omega
def fMinA : List PyData → Option PyData
  | [.int i, .int j] => some (.int (if j < i then j else i))
  | [.list xs] => match intsD xs with
    | some (n :: ns) => some (.int (minL (n :: ns)))
    | _ => none
  | _ => none
def fSum : List PyData → Option PyData
  | [.list xs] => match intsD xs with
    | some ns => some (.int ns.sum)
    | _ => none
  | _ => none
section
variable {X : Cx} {K : PySem.W.Frag}
theorem cr_minA (hc : X.calm = true) : CallR X (.builtin "min") (fun xs H Q => (∃ i j, xs = [.int i, .int j] ∧ Q (.int (if j < i then j else i)) H) ∨ rMin X.K xs H Q) := CallR.or (call_min2 hc) (cr_min hc)
theorem cs_minA : CallS K (fun xs H Q => (∃ i j, xs = [.int i, .int j] ∧ Q (.int (if j < i then j else i)) H) ∨ rMin K xs H Q) fMinA := by
  intro S H vs ds Q hs hv d e q
  unfold fMinA at e
  split at e
  · cases e
    obtain ⟨v, u, rfl, h1, h2⟩ := dqs2 hv
    cases h1; cases h2
    exact .inl ⟨_, _, rfl, q S H _ (.refl hs) (.int _)⟩
  · rename_i xs
    cases e2 : intsD xs with
    | none => rw [e2] at e; cases e
    | some l =>
      rw [e2] at e
      cases l with
      | nil => cases e
      | cons n ns =>
        cases e
        obtain ⟨v, rfl, hx⟩ := dqs1 hv
        have ex := intsD_eq e2
        subst ex
        cases hx with
        | lst h1 h2 =>
          have ev := dps_ints _ _ h2
          subst ev
          refine .inr ⟨_, n :: ns, rfl, .inl (rd_mono hs h1), by simp, fun m hm hall => ?_⟩
          have sp := minL_spec n ns
          have : m = minL (n :: ns) := Int.le_antisymm (hall _ sp.1) (sp.2 m hm)
          subst this
          exact q S H _ (.refl hs) (.int _)
  · cases e
theorem cs_sum : CallS K (rSum K) fSum := by
  intro S H vs ds Q hs hv d e q
  unfold fSum at e
  split at e
  · rename_i xs
    cases e2 : intsD xs with
    | none => rw [e2] at e; cases e
    | some l =>
      rw [e2] at e
      cases e
      obtain ⟨v, rfl, hx⟩ := dqs1 hv
      have ex := intsD_eq e2
      subst ex
      cases hx with
      | lst h1 h2 =>
        have ev := dps_ints _ _ h2
        subst ev
        exact ⟨_, l, rfl, .inl (rd_mono hs h1), q S H _ (.refl hs) (.int _)⟩
  · cases e
@[simp] theorem fMinA_2 (i j : Int) : fMinA [.int i, .int j] = some (.int (if j < i then j else i)) := Eq.trans rfl rfl
theorem fMinA_l (n : Int) (ns : List Int) : fMinA [.list ((n :: ns).map PyData.int)] = some (.int (minL (n :: ns))) := by
  show (match intsD ((n :: ns).map PyData.int) with | some (n :: ns) => some (PyData.int (minL (n :: ns))) | _ => none) = _
  rw [intsD_map]
theorem fSum_l (ns : List Int) : fSum [.list (ns.map PyData.int)] = some (.int ns.sum) := by
  show (match intsD (ns.map PyData.int) with | some ns => some (PyData.int ns.sum) | _ => none) = _
  rw [intsD_map]
end
/-! ### index of a list -/
def firstAt (d : PyData) : List PyData → Option Nat
  | [] => none
  | x :: r => if PyData.eqv x d = true then some 0 else (firstAt d r).map (· + 1)
def opIndex : PyData → PyData → Option PyData
  | .list ys, d => if SeqAt.shaped (.list ys) = true ∧ SeqAt.shaped d = true then (firstAt d ys).map fun i => .int (i : Nat) else none
  | _, _ => none
end D2

namespace D2
open PySem PySem.Spec PyProof.Rows L2
/-! ### more new lists -/
def slK (a b : Option Int) : PyData → Rs (List PyData)
  | .list xs => .ok (cutD xs a b)
  | .dict [(.none, .list xs)] => .ok (cutD xs a b)
  | _ => .no
def nSl (f : En → Rs PyData) (l h : En → Rs (Option Int)) : En → Rs (List PyData) := fun ρ => (f ρ).bind fun x => (l ρ).bind fun a => (h ρ).bind fun b => slK a b x
def spK (x y : PyData) : Rs (List PyData) := match x, y with
  | .str a, .str b => if (b.length == 0) = false ∧ a.length ≤ 16777214 then .ok ((Txt.split a b).map PyData.str) else .no
  | _, _ => .no
def nSplit (f g : En → Rs PyData) : En → Rs (List PyData) := fun ρ => (f ρ).bind fun x => (asS x).bind fun _ => (g ρ).bind fun y => spK x y
def lsK : List PyData → Rs (List PyData)
  | [.list ys] => .ok ys
  | [.tuple ys] => .ok ys
  | [.dict [(.none, .list ys)]] => .ok ys
  | _ => .no
def nLs (f : En → Rs (List PyData)) : En → Rs (List PyData) := fun ρ => (f ρ).bind lsK
section
variable {X : Cx} {c : Ct} {a b e o : Expr} {es : List Expr} {pos apos : Pos} {f g : En → Rs PyData} {fa : En → Rs (List PyData)}
theorem dn_sl {lo hi : Option Expr} {p2 : Pos} {fl fh : En → Rs (Option Int)} (ha : DE X c a f) (hl : DP X c lo fl) (hh : DP X c hi fh) :
    DN X c (.Subscript a (.Slice lo hi none p2) pos) (nSl f fl fh) := by
  refine pe_imp (pe_slice sl_list ha hl hh) fun σ H Q ⟨S, ρ, rp, q⟩ => ?_
  refine ⟨S, ρ, rp, GoN.seq q fun S1 H1 x dx o1 hx q1 => ?_⟩
  refine ⟨S1, ρ, rp.step o1, GoN.seq q1 fun S2 H2 l l' o2 el q2 => ?_⟩
  cases el
  refine ⟨S2, ρ, (rp.step o1).step o2, GoN.seq q2 fun S3 H3 u u' o3 eu q3 => ?_⟩
  cases eu
  have hx3 := dp_mono (o2.s0.trans o3.s0) _ _ hx
  unfold slK at q3
  split at q3
  · cases hx3 with
    | lst h1 h2 => exact ⟨_, _, rfl, .inl (rd_mono o3.sub h1), fun p hp => q3 _ _ p _ (.refl o3.sub) hp (cut_dq h2)⟩
  · cases hx3 with
    | dct h1 h2 h3 => exact (dct_ne h3).elim
    | scr h1 h2 => exact ⟨_, _, rfl, o3.sub.seq h1, fun p hp => q3 _ _ p _ (.refl o3.sub) hp (cut_dq h2)⟩
  · exact q3.elim
theorem dn_split (ho : DE X c o f) (he : DE X c e g) (hs : starEach [e] X.env = [(false, eval e X.env)] := by rfl) (hbase : attributeBase o "split" X.env (eval o X.env) = eval o X.env := by rfl) (hline : (apos.endLine == pos.line) = true := by rfl) :
    DN X c (.Call (.Attribute o "split" apos) [e] [] pos) (nSplit f g) := by
  refine pe_imp (pe_split ho he hs hbase hline) fun σ H Q ⟨S, ρ, rp, q⟩ => ?_
  refine ⟨S, ρ, rp, GoN.seq q fun S1 H1 x dx o1 hx q1 => ?_⟩
  cases dx with
  | str z =>
    cases hx
    refine ⟨⟨_, rfl⟩, S1, ρ, rp.step o1, GoN.seq (r := g ρ) (k := fun y => spK (.str z) y) q1 fun S2 H2 y dy o2 hy q2 => ?_⟩
    unfold spK at q2
    split at q2
    · rename_i a b ea
      cases ea
      split at q2
      · rename_i h
        cases hy
        exact ⟨_, _, rfl, rfl, h.1, by rw [sizeLine_eq]; omega, fun p hp => q2 _ _ p _ (.refl o2.sub) hp (strs_dps _)⟩
      · exact q2.elim
    · exact q2.elim
  | _ => exact (show False from q1).elim
theorem dn_list {x : Str} {p : Pos} (hg : Gl X x) (hm : X.mg x = none) (hv : bootBuiltins x = some (.type "list")) (ha : DA X c (e :: es) fa) (hn : x ≠ "__name__" := by decide)
    (hdb : (x == ("__debug__" : Str)) = false := by decide) (he : starEach (e :: es) X.env = (false, eval e X.env) :: starEach es X.env := by rfl) (hpl : (backTo pos (starEach es X.env)).any (·.1) = false := by rfl) :
    DN X c (.Call (.Name x p) (e :: es) [] pos) (nLs fa) := by
  refine pe_imp (pe_callTy call_list_of hg hm hv ha hn hdb he hpl) fun σ H Q ⟨S, ρ, rp, q⟩ => ?_
  refine ⟨S, ρ, rp, GoN.seq q fun S1 H1 xs dxs o1 hx q1 => ?_⟩
  unfold lsK at q1
  split at q1
  · obtain ⟨v, rfl, hx2⟩ := dqs1 hx
    cases hx2 with
    | lst h1 h2 => exact ⟨_, _, rfl, .inl (.inl (rd_mono o1.sub h1)), fun p hp => q1 _ _ p _ (.refl o1.sub) hp h2⟩
  · obtain ⟨v, rfl, hx2⟩ := dqs1 hx
    cases hx2 with
    | tup h1 h2 => exact ⟨_, _, rfl, .inr (sqT_mono o1.sub h1), fun p hp => q1 _ _ p _ (.refl o1.sub) hp h2⟩
  · obtain ⟨v, rfl, hx2⟩ := dqs1 hx
    cases hx2 with
    | dct h1 h2 h3 => exact (dct_ne h3).elim
    | scr h1 h2 => exact ⟨_, _, rfl, .inl (o1.sub.seq h1), fun p hp => q1 _ _ p _ (.refl o1.sub) hp h2⟩
  · exact q1.elim
end
section
variable {f g : En → Rs PyData} {fa : En → Rs (List PyData)} {ρ : En} {l h : En → Rs (Option Int)}
@[simp] theorem nSl_ap : nSl f l h ρ = (f ρ).bind fun x => (l ρ).bind fun a => (h ρ).bind fun b => slK a b x := Eq.trans rfl rfl
@[simp] theorem slK_l (a b : Option Int) (xs : List PyData) : slK a b (.list xs) = .ok (cutD xs a b) := Eq.trans rfl rfl
@[simp] theorem slK_s (a b : Option Int) (xs : List PyData) : slK a b (.dict [(.none, .list xs)]) = .ok (cutD xs a b) := Eq.trans rfl rfl
@[simp] theorem nSplit_ap : nSplit f g ρ = (f ρ).bind fun x => (asS x).bind fun _ => (g ρ).bind fun y => spK x y := Eq.trans rfl rfl
@[simp] theorem spK_s (a b : Str) : spK (.str a) (.str b) = if (b.length == 0) = false ∧ a.length ≤ 16777214 then .ok ((Txt.split a b).map PyData.str) else .no := Eq.trans rfl rfl
@[simp] theorem nLs_ap : nLs fa ρ = (fa ρ).bind lsK := Eq.trans rfl rfl
@[simp] theorem lsK_l (xs : List PyData) : lsK [.list xs] = .ok xs := Eq.trans rfl rfl
@[simp] theorem lsK_t (xs : List PyData) : lsK [.tuple xs] = .ok xs := Eq.trans rfl rfl
@[simp] theorem lsK_s (xs : List PyData) : lsK [.dict [(.none, .list xs)]] = .ok xs := Eq.trans rfl rfl
end
end D2

namespace D2
open PySem PySem.Spec PyProof.Rows L2
/-! ### not, by truth -/
def eNotT (f : En → Rs PyData) : En → Rs PyData := fun ρ => (f ρ).bind fun x => (ofO (truth x)).bind fun b => .ok (.bool (!b))
theorem de_notT {X : Cx} {c : Ct} {a : Expr} {pos : Pos} {f : En → Rs PyData} (ha : DE X c a f) : DE X c (.UnaryOp .Not a pos) (eNotT f) := by
  refine pe_imp (pe_notT ha) fun σ H Q ⟨S, ρ, rp, q⟩ => ?_
  refine ⟨S, ρ, rp, Go.seq q fun S1 H1 x dx o1 hx q1 => ?_⟩
  cases e : truth dx with
  | none => rw [e] at q1; exact q1.elim
  | some b => rw [e] at q1; exact ⟨b, tru_of o1.sub hx e, Go.now (r' := PyData.bool (!b)) q1 o1.sub (.bl _)⟩
@[simp] theorem eNotT_ap (f : En → Rs PyData) (ρ : En) : eNotT f ρ = (f ρ).bind fun x => (ofO (truth x)).bind fun b => .ok (.bool (!b)) := Eq.trans rfl rfl
/-! ### texts as lists of signs -/
def S (l : List Nat) : Str := ⟨l.toArray⟩
abbrev T (l : List Nat) : PyData := .str (S l)
theorem S_inj {a b : List Nat} : S a = S b ↔ a = b := by
  constructor
  · intro h
    have := congrArg (fun x : Str => x.cps.toList) h
    simpa [S] using this
  · intro h; rw [h]
@[simp] theorem S_eq (a b : List Nat) : (S a = S b) = (a = b) := propext S_inj
@[simp] theorem S_len (a : List Nat) : (S a).length = a.length := by simp [S, Str.length]
@[simp] theorem S_cps (a : List Nat) : (S a).cps = a.toArray := Eq.trans rfl rfl
theorem S_app (a b : List Nat) : S a ++ S b = S (a ++ b) := TL.ext_tl (by rw [TL.tl_append]; rfl)
@[simp high] theorem opAdd_T (a b : List Nat) : opAdd (.str (S a)) (.str (S b)) = if a.length + b.length ≤ 16777216 then some (.str (S (a ++ b))) else none := by
  rw [opAdd_str, S_len, S_len, S_app]
theorem S_of (x : Str) : ∃ l, x = S l := ⟨x.cps.toList, by cases x; simp [S]⟩
@[simp] theorem signs_S (a : List Nat) : signs (S a) = a.map fun c => T [c] := Eq.trans rfl rfl
/-- cut at one sign -/
def splL (c : Nat) (l : List Nat) : List (List Nat) := TL.spl [c] 0 [] l
def jn (c : Nat) (ps : List (List Nat)) : List Nat := TL.joinL [c] ps
theorem spl_acc (c : Nat) : ∀ (l acc : List Nat), TL.spl [c] 0 acc l = match splL c l with
    | [] => []
    | p :: r => (acc ++ p) :: r
  | [], acc => by simp [splL, TL.spl]
  | x :: l, acc => by
    unfold splL
    by_cases h : x = c
    · subst h
      have hp : TL.pre [x] (x :: l) = true := by simp [TL.pre]
      rw [TL.spl_hit hp, TL.spl_hit hp]
      simp
    · have hp : TL.pre [c] (x :: l) = false := by simp [TL.pre, h]
      rw [TL.spl_miss hp, TL.spl_miss hp, spl_acc c l (acc ++ [x]), spl_acc c l ([] ++ [x])]
      cases splL c l <;> simp
theorem splL_nil (c : Nat) : splL c [] = [[]] := Eq.trans rfl rfl
theorem splL_hit (c : Nat) (l : List Nat) : splL c (c :: l) = [] :: splL c l := by
  unfold splL
  rw [TL.spl_hit (by simp [TL.pre])]
  simp
theorem splL_miss {c x : Nat} (h : x ≠ c) (l : List Nat) : splL c (x :: l) = match splL c l with
    | [] => []
    | p :: r => (x :: p) :: r := by
  unfold splL
  rw [TL.spl_miss (by simp [TL.pre, h]), spl_acc]
  rfl
theorem splL_ne (c : Nat) : ∀ l : List Nat, splL c l ≠ []
  | [] => by simp [splL_nil]
  | x :: l => by
    by_cases h : x = c
    · subst h; simp [splL_hit]
    · rw [splL_miss h]
      cases e : splL c l with
      | nil => exact absurd e (splL_ne c l)
      | cons p r => simp
theorem splL_no (c : Nat) : ∀ (l : List Nat), ∀ p ∈ splL c l, c ∉ p
  | [], p, hp => by simp [splL_nil] at hp; subst hp; simp
  | x :: l, p, hp => by
    by_cases h : x = c
    · subst h
      rw [splL_hit] at hp
      rcases List.mem_cons.mp hp with rfl | hp
      · simp
      · exact splL_no x l p hp
    · rw [splL_miss h] at hp
      have ih := splL_no c l
      cases e : splL c l with
      | nil => exact absurd e (splL_ne c l)
      | cons q r =>
        rw [e] at hp ih
        rcases List.mem_cons.mp hp with rfl | hp
        · have := ih q List.mem_cons_self
          simp [this, Ne.symm h]
        · exact ih p (List.mem_cons_of_mem _ hp)
theorem splL_of {c : Nat} : ∀ {l : List Nat}, c ∉ l → splL c l = [l]
  | [], _ => splL_nil c
  | x :: l, h => by
    have h1 : x ≠ c := fun e => h (by simp [e])
    rw [splL_miss h1, splL_of (fun e => h (List.mem_cons_of_mem _ e))]
theorem splL_app {c : Nat} : ∀ {p : List Nat} (l : List Nat), c ∉ p → splL c (p ++ c :: l) = p :: splL c l
  | [], l, _ => splL_hit c l
  | x :: p, l, h => by
    have h1 : x ≠ c := fun e => h (by simp [e])
    rw [List.cons_append, splL_miss h1, splL_app l (fun e => h (List.mem_cons_of_mem _ e))]
theorem jn_nil (c : Nat) : jn c [] = [] := Eq.trans rfl rfl
theorem jn_one (c : Nat) (p : List Nat) : jn c [p] = p := Eq.trans rfl rfl
theorem jn_cons (c : Nat) (p q : List Nat) (r : List (List Nat)) : jn c (p :: q :: r) = p ++ c :: jn c (q :: r) := Eq.trans rfl rfl
theorem splL_jn {c : Nat} : ∀ {ps : List (List Nat)}, ps ≠ [] → (∀ p ∈ ps, c ∉ p) → splL c (jn c ps) = ps
  | [], h, _ => absurd rfl h
  | [p], _, h => by rw [jn_one]; exact splL_of (h p List.mem_cons_self)
  | p :: q :: r, _, h => by
    rw [jn_cons, splL_app _ (h p List.mem_cons_self), splL_jn (by simp) fun z hz => h z (List.mem_cons_of_mem _ hz)]
theorem jn_splL (c : Nat) : ∀ l : List Nat, jn c (splL c l) = l
  | [] => rfl
  | x :: l => by
    have ih := jn_splL c l
    have hn := splL_ne c l
    by_cases h : x = c
    · subst h
      rw [splL_hit]
      cases e : splL x l with
      | nil => exact absurd e hn
      | cons q r => rw [jn_cons, ← e, ih]; rfl
    · rw [splL_miss h]
      cases e : splL c l with
      | nil => exact absurd e hn
      | cons q r =>
        rw [e] at ih
        cases r with
        | nil => rw [jn_one] at ih ⊢; rw [ih]
        | cons q2 r => rw [jn_cons] at ih ⊢; rw [← ih]; rfl
theorem jn_app (c : Nat) : ∀ (a b : List (List Nat)), a ≠ [] → b ≠ [] → jn c (a ++ b) = jn c a ++ c :: jn c b
  | [], _, h, _ => absurd rfl h
  | [p], b, _, hb => by
    cases b with
    | nil => exact absurd rfl hb
    | cons q r => rfl
  | p :: q :: r, b, _, hb => by
    have := jn_app c (q :: r) b (by simp) hb
    rw [List.cons_append, List.cons_append, jn_cons, jn_cons, ← List.cons_append, this]
    simp
theorem jn_len_le (c : Nat) : ∀ ps : List (List Nat), (jn c ps).length ≤ (ps.map List.length).sum + ps.length
  | [] => by simp [jn_nil]
  | [p] => by simp [jn_one]
  | p :: q :: r => by
    have := jn_len_le c (q :: r)
    rw [jn_cons]
    simp at this ⊢
    omega
theorem splL_len (c : Nat) (l : List Nat) : (splL c l).length ≤ l.length + 1 := by
  induction l with
  | nil => simp [splL_nil]
  | cons x l ih =>
    by_cases h : x = c
    · subst h; rw [splL_hit]; simp; omega
    · rw [splL_miss h]
      cases e : splL c l with
      | nil => simp
      | cons q r => rw [e] at ih; simp at ih ⊢; omega
theorem split_S (a : List Nat) (c : Nat) (hc : c < 256) : Txt.split (S a) (S [c]) = (splL c a).map S := by
  refine TL.map_tl_inj ?_
  rw [TL.split_spl _ _ (by simp [TL.tl, S]) (TL.kind_ok (by simp [S, hc])), List.map_map]
  show TL.spl [c] 0 [] a = _
  unfold splL
  generalize TL.spl [c] 0 [] a = L
  induction L with
  | nil => rfl
  | cons x L ih => rw [List.map_cons, ← ih]; rfl
theorem join_S (c : Nat) (ps : List (List Nat)) : Txt.join (S [c]) (ps.map S) = S (jn c ps) := by
  refine TL.ext_tl ?_
  rw [TL.join_eq, TL.tl_join, List.map_map]
  show TL.joinL [c] (ps.map (TL.tl ∘ S)) = TL.joinL [c] ps
  congr 1
  induction ps with
  | nil => rfl
  | cons x L ih => rw [List.map_cons, ih]; rfl
@[simp high] theorem opSplit_T (a : List Nat) (c : Nat) (hc : c < 256) : opSplit (.str (S a)) (.str (S [c])) = if a.length ≤ 16777214 then some (.list ((splL c a).map T)) else none := by
  rw [opSplit_s, split_S a c hc, S_len]
  by_cases h : a.length ≤ 16777214
  · rw [if_pos ⟨by simp, h⟩, if_pos h, List.map_map]; rfl
  · rw [if_neg (fun q => h q.2), if_neg h]
@[simp high] theorem spK_T (a : List Nat) (c : Nat) (hc : c < 256) : spK (.str (S a)) (.str (S [c])) = if a.length ≤ 16777214 then .ok ((splL c a).map T) else .no := by
  rw [spK_s, split_S a c hc, S_len]
  by_cases h : a.length ≤ 16777214
  · rw [if_pos ⟨by simp, h⟩, if_pos h, List.map_map]; rfl
  · rw [if_neg (fun q => h q.2), if_neg h]
theorem joinD_T (c : Nat) (ps : List (List Nat)) : joinD (S [c]) (ps.map T) = if (ps.map List.length).sum + ps.length ≤ 16777216 then some (T (jn c ps)) else none := by
  have e : ps.map T = (ps.map S).map PyData.str := by rw [List.map_map]; rfl
  rw [e, joinD_map, List.map_map, join_S, List.length_map, S_len, List.length_singleton, Nat.mul_one]
  have e2 : ((fun x : Str => x.length) ∘ S) = List.length := by funext l; simp
  rw [show List.map ((fun x => x.length) ∘ S) ps = ps.map List.length from by rw [show (fun x : Str => x.length) ∘ S = List.length from e2]]
@[simp high] theorem opSl_T (a : List Nat) (l h : Option Int) : opSl (.str (S a)) l h = if a.length ≤ 16777216 then some (.str (S (D2.cutD a l h))) else none := by
  show (if (S a).length ≤ 16777216 then some (PyData.str (cutS (S a) l h)) else none) = _
  rw [S_len]
  congr 2
theorem starts_S (a b : List Nat) : Txt.startswith (S a) (S b) = decide (b <+: a) := by
  unfold Txt.startswith Builtin.Str.subAt
  rw [S_len, S_len, Nat.zero_add, S_cps, S_cps]
  rw [Bool.eq_iff_iff, Bool.and_eq_true, decide_eq_true_eq, decide_eq_true_eq, beq_iff_eq, List.prefix_iff_eq_take]
  have e : (a.toArray.extract 0 b.length = b.toArray) ↔ b = a.take b.length := by
    rw [← Array.toList_inj, Array.toList_extract]
    simp [List.extract, eq_comm]
  rw [e]
  constructor
  · exact fun h => h.2
  · intro h
    refine ⟨?_, h⟩
    have := congrArg List.length h
    rw [List.length_take] at this
    omega
@[simp high] theorem opStarts_T (a b : List Nat) : opStarts (.str (S a)) (.str (S b)) = some (.bool (decide (b <+: a))) := by rw [opStarts_s, starts_S]
@[simp high] theorem opIn_sT (c : Nat) (b : List Nat) : opIn (.str (S [c])) (.str (S b)) = some (.bool (decide (c ∈ b))) := by
  rw [opIn_s, if_pos (by simp [S])]
  simp [S, Array.getD]
@[simp high] theorem opIx_T (a : List Nat) (i : Int) : opIx (.str (S a)) (.int i) = if a.length ≤ 16777216 then (atI a i).map fun c => T [c] else none := by
  show (if (S a).length ≤ 16777216 then (atI (S a).cps.toList i).map (fun c => PyData.str ⟨#[c]⟩) else none) = _
  rw [S_len]
  rfl
@[simp high] theorem fLen_T (a : List Nat) : fLen [.str (S a)] = if a.length ≤ 16777216 then some (.int a.length) else none := by
  show (if (S a).length ≤ 16777216 then some (PyData.int (S a).length) else none) = _
  rw [S_len]
@[simp high] theorem truth_T (a : List Nat) : truth (.str (S a)) = if a.length ≤ 16777216 then some (decide (a ≠ [])) else none := by
  show (if (S a).length ≤ 16777216 then some (((S a).length : Int) != 0) else none) = _
  rw [S_len]
  congr 2
  cases a with
  | nil => rfl
  | cons x l => simp; omega
@[simp high] theorem opEq_T (a b : List Nat) : opEq (.str (S a)) (.str (S b)) = some (.bool (decide (a = b))) := by rw [opEq_str]; congr 2; exact decide_eq_decide.mpr S_inj
@[simp high] theorem opNe_T (a b : List Nat) : opNe (.str (S a)) (.str (S b)) = some (.bool (!decide (a = b))) := by rw [opNe_str]; congr 3; exact decide_eq_decide.mpr S_inj
/-- the signs of parts -/
def sgn : List Nat := [97, 98, 99, 100, 101, 102, 103, 104, 105, 106, 107, 108, 109, 110, 111, 112, 113, 114, 115, 116, 117, 118, 119, 120, 121, 122, 48, 49, 50, 51, 52, 53, 54, 55, 56, 57, 46, 45, 95]
theorem lit_sgn : Str.ofString "abcdefghijklmnopqrstuvwxyz0123456789.-_" = S sgn := by decide +kernel
@[simp] theorem shaped_i (l : Int) : SeqAt.shaped (.int l) = true := by simp [SeqAt.shaped, PyData.canLay0, PyData.depth]
@[simp] theorem shaped_n : SeqAt.shaped .none = true := by simp [SeqAt.shaped, PyData.canLay0, PyData.depth]
theorem inSeq_T (x : List Nat) (a : List (List Nat)) (w : PyData) : inSeq (.str (S x)) (a.map T) w = some (.bool (decide (x ∈ a))) := by
  have e : a.map T = (a.map S).map PyData.str := by rw [List.map_map]; rfl
  unfold inSeq
  rw [e, strsD_map]
  show some (PyData.bool ((a.map S).any fun z => z == S x)) = _
  congr 2
  rw [List.any_map]
  clear e
  induction a with
  | nil => rfl
  | cons y a ih =>
    rw [List.any_cons, ih]
    have : ((fun z => z == S x) ∘ S) y = decide (y = x) := by
      show (S y == S x) = _
      by_cases h : y = x
      · subst h; simp
      · have : S y ≠ S x := fun q => h (S_inj.mp q)
        simp [h]
    rw [this]
    by_cases h : y = x
    · simp [h]
    · simp [h, Ne.symm h]
@[simp] theorem opIn_tT (x : List Nat) (a : List (List Nat)) : opIn (.str (S x)) (.tuple (a.map T)) = some (.bool (decide (x ∈ a))) := by rw [opIn_t, inSeq_T]
@[simp] theorem opIn_lT (x : List Nat) (a : List (List Nat)) : opIn (.str (S x)) (.list (a.map T)) = some (.bool (decide (x ∈ a))) := by rw [opIn_l, inSeq_T]
@[simp] theorem opIn_t2 (x a b : List Nat) : opIn (.str (S x)) (.tuple [.str (S a), .str (S b)]) = some (.bool (decide (x = a ∨ x = b))) := by
  have := opIn_tT x [a, b]
  simpa using this
end D2

namespace D2
open PySem PySem.Spec PyProof.Rows L2
/-! ranges by steps; slices -/
theorem rng3_up (L c : Nat) (hL : L ≤ 1000000) (hc : 1 ≤ c) (hc2 : c ≤ 1000000) : rng3 [.int 0, .int (L : Int), .int (c : Int)] = .ok ((List.range ((L + c - 1) / c)).map fun i => PyData.int ((i * c : Nat) : Int)) := by
  have e : Builtin.Range.rangeSize 0 (L : Int) (c : Int) = (((L + c - 1) / c : Nat) : Int) := by
    unfold Builtin.Range.rangeSize
    rw [if_pos (by omega)]
    by_cases h : 0 < L
    · rw [if_pos (by omega)]
      have h2 : (L + c - 1) / c = (L - 1) / c + 1 := by rw [show L + c - 1 = (L - 1) + c by omega, Nat.add_div_right _ (by omega)]
      rw [h2]
      have : ((L : Int) - 0 - 1) = ((L - 1 : Nat) : Int) := by omega
      rw [this]
      simp
    · have : L = 0 := by omega
      subst this
      rw [if_neg (by omega)]
      have : (0 + c - 1) / c = 0 := Nat.div_eq_of_lt (by omega)
      rw [this]; rfl
  have h3 : (L + c - 1) / c ≤ L + c := Nat.le_trans (Nat.div_le_self _ _) (by omega)
  have sm : Builtin.Range.small 0 (L : Int) (c : Int) = true := by
    unfold Builtin.Range.small
    rw [e]
    simp only [Builtin.Range.rangeFitsLong, Bool.and_eq_true, Bool.or_eq_true, decide_eq_true_eq, beq_iff_eq]
    rw [if_pos (by omega)]
    generalize (L + c - 1) / c = n at *
    simp only [Bool.and_eq_true, decide_eq_true_eq]
    omega
  rw [rng3_int, if_pos ⟨by omega, by omega, sm, by rw [e]; exact Int.natCast_nonneg _⟩, e]
  refine congrArg Rs.ok ?_
  unfold rgC
  rw [Int.toNat_natCast]
  refine List.map_congr_left fun i _ => ?_
  show PyData.int (0 + (i : Int) * (c : Int)) = PyData.int ((i * c : Nat) : Int)
  rw [Int.zero_add, Int.natCast_mul]
theorem cutI_nat (bs : List Int) (a b : Nat) (h : a ≤ b) : cutD (bs.map PyData.int) (some (a : Int)) (some (b : Int)) = ((bs.drop a).take (b - a)).map PyData.int := by rw [cutD_map, cutD_nat bs a b h]
theorem cutI_to (bs : List Int) (b : Nat) : cutD (bs.map PyData.int) none (some (b : Int)) = (bs.take b).map PyData.int := by rw [cutD_map, cutD_to]
theorem cutI_from (bs : List Int) (b : Nat) : cutD (bs.map PyData.int) (some (b : Int)) none = (bs.drop b).map PyData.int := by rw [cutD_map, cutD_from]
theorem sIx_neg (n d : Nat) (k : Nat) (hk : 0 < k) : HT.sIx n d (some (-(k : Int))) = n - k := by
  show (if (-(k : Int)) < 0 then ((-(k : Int)) + (n : Int)).toNat else _) = _
  rw [if_pos (by omega)]
  omega
theorem cutI_butlast (bs : List Int) (k : Nat) (hk : 0 < k) : cutD (bs.map PyData.int) none (some (-(k : Int))) = (bs.take (bs.length - k)).map PyData.int := by
  rw [cutD_map]
  unfold D2.cutD
  rw [sIx_neg bs.length bs.length k hk]
  show ((bs.drop 0).take (bs.length - k - 0)).map PyData.int = _
  simp
theorem cutI_mid (bs : List Int) (a k : Nat) (hk : 0 < k) : cutD (bs.map PyData.int) (some (a : Int)) (some (-(k : Int))) = ((bs.drop a).take (bs.length - k - a)).map PyData.int := by
  rw [cutD_map]
  unfold D2.cutD
  rw [sIx_neg bs.length bs.length k hk]
  have : HT.sIx bs.length 0 (some (a : Int)) = min a bs.length := by
    show (if ((a : Int)) < 0 then ((a : Int) + (bs.length : Int)).toNat else min (a : Int).toNat bs.length) = _
    rw [if_neg (by omega)]
    simp
  rw [this]
  congr 1
  by_cases h : a ≤ bs.length
  · rw [Nat.min_eq_left h]
  · rw [Nat.min_eq_right (by omega), List.drop_length, List.drop_eq_nil_of_le (show bs.length ≤ a by omega)]; simp
theorem cutI_tail (bs : List Int) (k : Nat) (hk : 0 < k) : cutD (bs.map PyData.int) (some (-(k : Int))) none = (bs.drop (bs.length - k)).map PyData.int := by
  rw [cutD_map]
  unfold D2.cutD
  rw [sIx_neg bs.length 0 k hk]
  show ((bs.drop (bs.length - k)).take (bs.length - (bs.length - k))).map PyData.int = _
  rw [List.take_of_length_le (by simp)]
theorem atN {bs : List Int} {i : Nat} (h : i < bs.length) : atI (bs.map PyData.int) (i : Int) = some (.int bs[i]) := by rw [atI_map, atI_of (j := i) rfl h]; rfl
theorem atD {ds : List PyData} {i : Nat} (h : i < ds.length) : atI ds (i : Int) = some ds[i] := atI_of (j := i) rfl h
theorem enumFrom_eq (xs : List PyData) : ∀ n : Nat, enumFrom n xs = (List.range xs.length).map fun i => .tuple [.int ((n + i : Nat) : Int), xs.getD i .none] := by
  induction xs with
  | nil => intro n; rfl
  | cons x xs ih =>
    intro n
    rw [enumFrom, ih, List.length_cons, List.range_succ_eq_map, List.map_cons, List.map_map]
    congr 1
    refine List.map_congr_left fun i _ => ?_
    simp [Nat.add_assoc, Nat.add_comm 1]
def Byt (bs : List Int) : Prop := ∀ x ∈ bs, 0 ≤ x ∧ x < 256
theorem Byt.app {a b : List Int} (h : Byt a) (h' : Byt b) : Byt (a ++ b) := fun x hx => by
  rcases List.mem_append.mp hx with q | q
  · exact h x q
  · exact h' x q
theorem Byt.cons {a : Int} {b : List Int} (h : 0 ≤ a ∧ a < 256) (h' : Byt b) : Byt (a :: b) := fun x hx => by
  rcases List.mem_cons.mp hx with q | q
  · subst q; exact h
  · exact h' x q
theorem Byt.nil : Byt [] := fun x hx => by cases hx
theorem Byt.take {a : List Int} (h : Byt a) (n : Nat) : Byt (a.take n) := fun x hx => h x (List.mem_of_mem_take hx)
theorem Byt.drop {a : List Int} (h : Byt a) (n : Nat) : Byt (a.drop n) := fun x hx => h x (List.mem_of_mem_drop hx)
theorem allB {α : Type} (l : List α) (p : α → Bool) : fAll [.list (l.map fun c => PyData.bool (p c))] = some (.bool (l.all p)) := by
  have := fAll_map (l.map p)
  rw [List.map_map] at this
  rw [show (l.map fun c => PyData.bool (p c)) = List.map (PyData.bool ∘ p) l from rfl, this]
  simp [List.all_map]
theorem anyB {α : Type} (l : List α) (p : α → Bool) : fAny [.list (l.map fun c => PyData.bool (p c))] = some (.bool (l.any p)) := by
  have := fAny_map (l.map p)
  rw [List.map_map] at this
  rw [show (l.map fun c => PyData.bool (p c)) = List.map (PyData.bool ∘ p) l from rfl, this]
  simp [List.any_map]
theorem fMin_nat (a b : Nat) : fMin [.int (a : Int), .int (b : Int)] = some (.int ((min a b : Nat) : Int)) := by
  rw [fMin_int]
  by_cases h : b < a
  · rw [if_pos (by omega), Nat.min_eq_right (by omega)]
  · rw [if_neg (by omega), Nat.min_eq_left (by omega)]
theorem opNe_tN (a b : List Int) : opNe (.tuple (a.map PyData.int)) (.tuple (b.map PyData.int)) = some (.bool (!decide (a = b))) := by
  unfold opNe
  rw [opEq_tN]
  rfl
theorem fMaxA_le {a b c : Int} (h : a ≤ b) (e : b = c) : fMaxA [.int a, .int b] = some (.int c) := by
  subst e
  rw [fMaxA_2]
  by_cases q : b > a
  · rw [if_pos q]
  · rw [if_neg q, show a = b by omega]
theorem mid_at {V a b c : List Int} {p q : Nat} (h : V = a ++ (b ++ c)) (hp : a.length = p) (hq : b.length = q) : (V.drop p).take q = b := by
  subst hp
  subst hq
  rw [h, List.drop_append_of_le_length (Nat.le_refl _), List.drop_length, List.nil_append, List.take_append_of_le_length (Nat.le_refl _), List.take_length]
theorem atS {bs : List Nat} {i : Nat} (h : i < bs.length) : atI bs (i : Int) = some bs[i] := atI_of (j := i) rfl h
@[simp] theorem plainAll_T (k : List (List Nat)) : plainAll (k.map T) = true := by
  induction k with
  | nil => rfl
  | cons p k ih => simp [ih]
@[simp] theorem plainAll_tN (k : List (List Int)) : plainAll (k.map tN) = true := by
  induction k with
  | nil => rfl
  | cons p k ih => simp [ih]
@[simp] theorem atI_z {α : Type} (x : α) (xs : List α) : atI (x :: xs) 0 = some x := by simp [atI, ixN]
@[simp] theorem atI_o {α : Type} (x y : α) (xs : List α) : atI (x :: y :: xs) 1 = some y := by
  have := atI_of (xs := x :: y :: xs) (i := 1) (j := 1) rfl (by simp)
  simpa using this
@[simp] theorem atI_w {α : Type} (x y z : α) (xs : List α) : atI (x :: y :: z :: xs) 2 = some z := by
  have := atI_of (xs := x :: y :: z :: xs) (i := 2) (j := 2) rfl (by simp)
  simpa using this
/-- a comprehension whose turns give something of which P holds -/
theorem cLoop_some {t : En → Rs Bool} {f : En → Rs PyData} {ρ : En} {k : PyData → En → Option En} {α β : Type} {e : α → PyData} {enc : β → PyData} {P : β → Prop} : ∀ {xs : List α}, (∀ x ∈ xs, ∃ ρ1 b, k (e x) ρ = some ρ1 ∧ t ρ1 = .ok true ∧ f ρ1 = .ok (enc b) ∧ P b) →
    ∃ bs : List β, bs.length = xs.length ∧ (∀ b ∈ bs, P b) ∧ cLoop k t f ρ (xs.map e) = .ok (bs.map enc)
  | [], _ => ⟨[], rfl, by simp, rfl⟩
  | x :: xs, h => by
    obtain ⟨ρ1, b, h1, h2, h3, h4⟩ := h x List.mem_cons_self
    obtain ⟨bs, hl, hb, e⟩ := cLoop_some fun y hy => h y (List.mem_cons_of_mem _ hy)
    refine ⟨b :: bs, by simp [hl], fun c hc => ?_, ?_⟩
    · rcases List.mem_cons.mp hc with rfl | hc
      · exact h4
      · exact hb c hc
    · rw [List.map_cons, cLoop_cons, h1]
      simp only [optR_some, h2, nE_ok, if_true, h3, e, List.map_cons]
theorem at_len {L : List (List Nat)} {v : Int} (h0 : 0 ≤ v) (h : v < L.length) : ∃ t ∈ L, atI (L.map T) v = some (T t) := by
  obtain ⟨n, rfl⟩ := Int.eq_ofNat_of_zero_le h0
  have hn : n < L.length := by omega
  exact ⟨L[n], List.getElem_mem hn, by rw [atI_map, atI_of (j := n) rfl hn]; rfl⟩
theorem sum_le {l : List (List Nat)} {m : Nat} (h : ∀ p ∈ l, p.length ≤ m) : (l.map List.length).sum ≤ m * l.length := by
  induction l with
  | nil => simp
  | cons p l ih =>
    have h1 := h p List.mem_cons_self
    have h2 := ih fun q hq => h q (List.mem_cons_of_mem _ hq)
    simp only [List.map_cons, List.sum_cons, List.length_cons, Nat.mul_add, Nat.mul_one]
    omega
theorem cut_last1 {α : Type} (xs : List α) : cutD xs none (some (-1)) = xs.dropLast := by
  unfold D2.cutD
  rw [show (-1 : Int) = -((1 : Nat) : Int) from rfl, sIx_neg xs.length xs.length 1 (by decide)]
  show (xs.drop 0).take (xs.length - 1 - 0) = _
  rw [List.dropLast_eq_take]
  simp
theorem at_last {α : Type} (xs : List α) (x : α) : atI (xs ++ [x]) (-1) = some x := by
  unfold atI ixN
  rw [if_neg (by decide), if_pos (by simp; omega), Option.bind_some]
  have : (-1 + ((xs ++ [x]).length : Int)).toNat = xs.length := by simp; omega
  rw [this, List.getElem?_append_right (Nat.le_refl _)]
  simp
end D2

namespace D2
open PySem PySem.Spec PyProof.Rows L2
/-! ### l[lo:hi:k], k a written positive number -/
def pickL {α : Type} (l : List Nat) (xs : List α) : List α := l.filterMap (xs[·]?)
def stepI (n : Nat) (lo hi : Option Int) (st : Int) : List Nat := sliceRange (sliceBounds lo hi (some st) n).1 (sliceBounds lo hi (some st) n).2.1 (sliceBounds lo hi (some st) n).2.2
theorem pick_vals {xs : List V} {its : List Value} (r : Vals xs its) : ∀ l : List Nat, Vals (pickL l xs) (pickL l its)
  | [] => .nil
  | i :: l => by
    have ih := pick_vals r l
    unfold pickL at ih ⊢
    cases e : xs[i]? with
    | none =>
      rw [List.filterMap_cons_none e, List.filterMap_cons_none (r.none_of e)]
      exact ih
    | some x =>
      obtain ⟨u, h1, h2⟩ := r.get e
      rw [List.filterMap_cons_some e, List.filterMap_cons_some h1]
      exact .cons h2 ih
theorem pick_dq {K : PySem.W.Frag} {S : Hp} {xs : List V} {ds : List PyData} (r : DqAll K S xs ds) : ∀ l : List Nat, DqAll K S (pickL l xs) (pickL l ds)
  | [] => .nil
  | i :: l => by
    have ih := pick_dq r l
    unfold pickL at ih ⊢
    cases e : xs[i]? with
    | none =>
      have hl := DqAll.length r
      have e2 : ds[i]? = none := by
        rw [List.getElem?_eq_none_iff] at e ⊢
        omega
      rw [List.filterMap_cons_none e, List.filterMap_cons_none e2]
      exact ih
    | some x =>
      obtain ⟨u, h1, h2⟩ := r.get e
      rw [List.filterMap_cons_some e, List.filterMap_cons_some h1]
      exact .cons h2 ih
def opStep (st : Int) : PyData → Option Int → Option Int → Option PyData
  | .list xs, a, b => if (pickL (stepI xs.length a b st) xs).length ≤ 16777216 then some (.list (pickL (stepI xs.length a b st) xs)) else none
  | .dict [(.none, .list xs)], a, b => if (pickL (stepI xs.length a b st) xs).length ≤ 16777216 then some (.list (pickL (stepI xs.length a b st) xs)) else none
  | _, _, _ => none
section
variable {X : Cx} {c : Ct} {e : Expr} {f : En → Rs PyData}
def tStep (K : PySem.W.Frag) (st : Int) (te : TE) (tl th : TO) : TE := fun σ H Q => te σ H fun x H1 => tl σ H1 fun a H2 => th σ H2 fun b H3 => ∃ ad xs, x = .ref ad ∧ SqL K H3 ad xs ∧ (pickL (stepI xs.length a b st) xs).length ≤ sizeLine ∧ ∀ p, H3 p = none → Q (.ref p) (upd H3 p (.lst (pickL (stepI xs.length a b st) xs)))
theorem pe_step {te : TE} {tl th : TO} {lo hi : Option Expr} {k : Nat} {st : Int} {p1 p3 pos : Pos} (hst0 : st ≠ 0) (he : PE X e te) (hl : PO X lo tl) (hu : PO X hi th) : PE X (.Subscript e (.Slice lo hi (some (.Constant (.int st) k p1)) p3) pos) (tStep X.K st te tl th) := by
  refine ⟨fun pins s σ H Q I h => ?_⟩
  refine Subscript_ (thn (he.run pins s σ H _ I h) fun v s1 ⟨x, H1, I1, r1, q1⟩ => ?_)
  have hst : PO X (some (.Constant (.int st) k p1)) (tPart (tC (.int st))) := po_some pe_int
  refine wpAny_Slice (thn (hl.run pins s1 σ H1 _ I1 q1) fun vl s2 ⟨l, H2, I2, pl, q2⟩ => thn (hu.run pins s2 σ H2 _ I2 q2) fun vu s3 ⟨u, H3, I3, pu, q3⟩ => ?_)
  refine thn (hst.run pins s3 σ H3 (fun o H4 => o = some st ∧ H4 = H3) I3 ⟨st, rfl, rfl, rfl⟩) fun vs s4 ⟨o, H4, I4, ps, eo, e4⟩ => ?_
  subst eo e4
  obtain ⟨a, xs, ex, hx, hsz, q⟩ := q3
  subst ex
  cases r1
  have I5 : Inv X pins σ H4 { s4 with heap := s4.heap.push { cls := .type "slice", data := .fields #[vl, vu, vs] } } := I4.kept (t' := s4.toks) fun b ob q => Heap.get?_push_of_some _ q
  show wpAny (model X.prog X.w) X.A (subscriptTail e (.Slice lo hi (some (.Constant (.int st) k p1)) p3) (.ref a) (.ref s4.heap.objs.size)) (EP X pins σ Q) X.xe { s4 with heap := s4.heap.push { cls := .type "slice", data := .fields #[vl, vu, vs] } }
  obtain ⟨its, r, ht, hz⟩ := I5.list hx
  have hlen := r.length
  refine tail_any (ops := [.ref a, .ref s4.heap.objs.size]) ht.isList.typeIs (PySem.slot_list_getitem.lookup) ?_ (by with_unfolding_all rfl)
  refine wpAny_getItem_list_slice ht.isList (Heap.IsSliceOf.new _ vl vu vs) pl pu ps (fun q => hst0 (Option.some.inj q)) ?_ (by rw [List.size_toArray]; omega)
  have ep : slicePick its.toArray l u (some st) = (pickL (stepI xs.length l u st) its).toArray := by
    unfold slicePick pickL stepI
    rw [List.size_toArray, hlen]
    simp
  rw [ep]
  refine ⟨.ref _, _, I5.laid (t' := s4.toks) (o := .lst (pickL (stepI xs.length l u st) xs)) (fun b ob q => Heap.get?_push_of_some _ q) (Nat.le_refl _) ?_, rfl, q _ (I5.hok.fresh (Nat.le_refl _))⟩
  exact ⟨hsz, _, 0, pick_vals r _, Heap.get?_push_size _ rfl⟩
theorem de_step {lo hi : Option Expr} {fl fh : En → Rs (Option Int)} {k : Nat} {st : Int} {p1 p3 pos : Pos} (he : DE X c e f) (hl : DP X c lo fl) (hh : DP X c hi fh) (hst0 : st ≠ 0 := by decide) :
    DE X c (.Subscript e (.Slice lo hi (some (.Constant (.int st) k p1)) p3) pos) (eSl (opStep st) f fl fh) := by
  refine pe_imp (pe_step hst0 he hl hh) fun σ H Q ⟨S, ρ, rp, q⟩ => ?_
  refine ⟨S, ρ, rp, Go.seq q fun S1 H1 x dx o1 hx q1 => ?_⟩
  refine ⟨S1, ρ, rp.step o1, Go.seq q1 fun S2 H2 l l' o2 el q2 => ?_⟩
  cases el
  refine ⟨S2, ρ, (rp.step o1).step o2, Go.seq q2 fun S3 H3 u u' o3 eu q3 => ?_⟩
  cases eu
  obtain ⟨d, e, q4⟩ := go_op q3
  have hx3 := dp_mono (o2.s0.trans o3.s0) _ _ hx
  unfold opStep at e
  split at e
  · split at e
    · rename_i hz
      cases e
      cases hx3 with
      | lst h1 h2 =>
        have h3 := pick_dq h2
        rw [← DqAll.length h2] at hz q4
        exact ⟨_, _, rfl, .inl (rd_mono o3.sub h1), by rw [DqAll.length (h3 _), sizeLine_eq]; exact hz, fun p hp => q4 _ _ _ (.new o3.sub hp) (.lst (.of upd_same) (dps_mono (same_upd (o3.sub.free hp)) _ _ (h3 _)))⟩
    · cases e
  · split at e
    · rename_i hz
      cases e
      cases hx3 with
      | dct h1 h2 h3 => exact (dct_ne h3).elim
      | scr h1 h2 =>
        have h3 := pick_dq h2
        rw [← DqAll.length h2] at hz q4
        exact ⟨_, _, rfl, o3.sub.seq h1, by rw [DqAll.length (h3 _), sizeLine_eq]; exact hz, fun p hp => q4 _ _ _ (.new o3.sub hp) (.lst (.of upd_same) (dps_mono (same_upd (o3.sub.free hp)) _ _ (h3 _)))⟩
    · cases e
  · cases e
end
@[simp] theorem opStep_s (st : Int) (xs : List PyData) (a b : Option Int) : opStep st (.dict [(.none, .list xs)]) a b = if (pickL (stepI xs.length a b st) xs).length ≤ 16777216 then some (.list (pickL (stepI xs.length a b st) xs)) else none := Eq.trans rfl rfl
@[simp] theorem zips_l (xs ys : List PyData) : zips [.list xs, .list ys] = .ok (zipD xs ys) := Eq.trans rfl rfl
@[simp] theorem zips_t (xs ys : List PyData) : zips [.tuple xs, .tuple ys] = .ok (zipD xs ys) := Eq.trans rfl rfl
theorem pickL_map {α β : Type} (l : List Nat) (g : α → β) (xs : List α) : pickL l (xs.map g) = (pickL l xs).map g := by
  unfold pickL
  rw [List.map_filterMap]
  congr 1
  funext i
  simp
/-- of a step of k: one place for each k of them, at the most -/
theorem pickL_len {α : Type} (l : List Nat) (xs : List α) : (pickL l xs).length ≤ l.length := List.length_filterMap_le _ _
end D2

namespace D2
open PySem PySem.Spec PyProof.Rows L2
/-! ### dicts: keys ints and texts -/
abbrev KD := List (Key × PyData)
def getA (kvs : KD) (k : Key) : Option PyData := (kvs.find? fun p => decide (p.1 = k)).map (·.2)
def putA (kvs : KD) (k : Key) (d : PyData) : KD := if (kvs.any fun p => decide (p.1 = k)) = true then kvs.map (fun p => if p.1 = k then (p.1, d) else p) else kvs ++ [(k, d)]
abbrev KP (K : PySem.W.Frag) (S : Hp) : List (Key × V) → KD → Prop := Paired (fun (p : Key × V) (q : Key × PyData) => p.1 = q.1 ∧ Dq K S p.2 q.2)
section
variable {K : PySem.W.Frag} {S S' H : Hp}
theorem KP.mono {ws : List (Key × V)} {kvs : KD} (h : KP K S ws kvs) (e : Same S S') : KP K S' ws kvs := Paired.mapP h fun p q z => ⟨z.1, dp_mono e _ _ z.2⟩
theorem KP.some {k : Key} {d : PyData} : ∀ {ws : List (Key × V)} {kvs : KD}, KP K S ws kvs → getA kvs k = some d → ∃ v, valV ws k = some v ∧ Dq K S v d
  | _, _, .nil, e => by simp [getA] at e
  | p :: ws, q :: kvs, .cons h t, e => by
    by_cases hk : q.1 = k
    · have : getA (q :: kvs) k = Option.some q.2 := by simp [getA, List.find?_cons, hk]
      rw [this] at e
      cases e
      exact ⟨p.2, valV_pos (h.1.trans hk), h.2⟩
    · have e2 : getA (q :: kvs) k = getA kvs k := by simp [getA, List.find?_cons, hk]
      rw [e2] at e
      obtain ⟨v, e3, hv⟩ := KP.some t e
      exact ⟨v, by rw [valV_neg (fun z => hk (h.1.symm.trans z))]; exact e3, hv⟩
theorem KP.none {k : Key} : ∀ {ws : List (Key × V)} {kvs : KD}, KP K S ws kvs → getA kvs k = none → valV ws k = none
  | _, _, .nil, e => rfl
  | p :: ws, q :: kvs, .cons h t, e => by
    by_cases hk : q.1 = k
    · have : getA (q :: kvs) k = Option.some q.2 := by simp [getA, List.find?_cons, hk]
      rw [this] at e
      cases e
    · have e2 : getA (q :: kvs) k = getA kvs k := by simp [getA, List.find?_cons, hk]
      rw [e2] at e
      rw [valV_neg (fun z => hk (h.1.symm.trans z))]
      exact KP.none t e
theorem KP.any {k : Key} : ∀ {ws : List (Key × V)} {kvs : KD}, KP K S ws kvs → (ws.any fun p => decide (p.1 = k)) = kvs.any fun p => decide (p.1 = k)
  | _, _, .nil => rfl
  | p :: ws, q :: kvs, .cons h t => by rw [List.any_cons, List.any_cons, KP.any t, h.1]
theorem KP.map {k : Key} {v : V} {d : PyData} (hd : Dq K S v d) : ∀ {ws : List (Key × V)} {kvs : KD}, KP K S ws kvs → KP K S (ws.map fun p => if p.1 = k then (p.1, v) else p) (kvs.map fun p => if p.1 = k then (p.1, d) else p)
  | _, _, .nil => .nil
  | p :: ws, q :: kvs, .cons h t => by
    refine .cons ?_ (KP.map hd t)
    show ((if p.1 = k then (p.1, v) else p).1 = (if q.1 = k then (q.1, d) else q).1) ∧ Dq K S (if p.1 = k then (p.1, v) else p).2 (if q.1 = k then (q.1, d) else q).2
    by_cases hk : q.1 = k
    · rw [if_pos (h.1.trans hk), if_pos hk]; exact ⟨h.1, hd⟩
    · rw [if_neg (fun z => hk (h.1.symm.trans z)), if_neg hk]; exact h
theorem KP.app {ws' : List (Key × V)} {kvs' : KD} (h' : KP K S ws' kvs') : ∀ {ws : List (Key × V)} {kvs : KD}, KP K S ws kvs → KP K S (ws ++ ws') (kvs ++ kvs')
  | _, _, .nil => h'
  | _, _, .cons h t => .cons h (KP.app h' t)
theorem KP.put {k : Key} {v : V} {d : PyData} {ws : List (Key × V)} {kvs : KD} (h : KP K S ws kvs) (hd : Dq K S v d) : KP K S (putK ws k v) (putA kvs k d) := by
  unfold putK putA
  rw [h.any]
  by_cases e : (kvs.any fun p => decide (p.1 = k)) = true
  · rw [if_pos e, if_pos e]; exact h.map hd
  · rw [if_neg e, if_neg e]; exact KP.app (Paired.cons (a := (k, v)) (b := (k, d)) ⟨rfl, hd⟩ .nil) h
theorem KP.keys {ws : List (Key × V)} : ∀ {kvs : KD}, KP K S ws kvs → ws.map (·.1) = kvs.map (·.1) := by
  intro kvs h
  induction h with
  | nil => rfl
  | cons h _ ih => simp [h.1, ih]
theorem key_dq {k : Key} {d : PyData} {v : V} (e : keyOf d = some k) (h : Dq K S v d) : v = kV k := by
  cases h <;> simp [keyOf] at e <;> subst e <;> rfl
theorem keys_dqs : ∀ ks : List Key, DqAll K S (ks.map kV) (ks.map keyD)
  | [] => .nil
  | .inl i :: ks => .cons (.int i) (keys_dqs ks)
  | .inr x :: ks => .cons (.str x) (keys_dqs ks)
end
/-! a dict that is changed no more, as data -/
def dD (kvs : KD) : PyData := .dict (kvs.map fun p => (keyD p.1, p.2))
def unD : List (PyData × PyData) → Option KD
  | [] => some []
  | (k, d) :: r => match keyOf k, unD r with
    | some k, some l => some ((k, d) :: l)
    | _, _ => none
@[simp] theorem keyOf_keyD (k : Key) : keyOf (keyD k) = some k := by cases k <;> rfl
@[simp] theorem unD_map : ∀ kvs : KD, unD (kvs.map fun p => (keyD p.1, p.2)) = some kvs
  | [] => rfl
  | (k, d) :: r => by rw [List.map_cons]; simp only [unD, keyOf_keyD, unD_map r]
theorem unD_zip {K : PySem.W.Frag} {S : Hp} : ∀ {ws : List (Key × V)} {ds : List PyData} {kd : KD}, DqAll K S (ws.map (·.2)) ds → unD ((ws.map fun p => keyD p.1).zip ds) = some kd → KP K S ws kd
  | [], ds, kd, h, e => by
    cases h
    cases e
    exact .nil
  | (k, v) :: ws, ds, kd, h, e => by
    cases h with
    | cons h1 h2 =>
      rw [List.map_cons, List.zip_cons_cons, unD, keyOf_keyD] at e
      revert e
      generalize eu : unD _ = u
      intro e
      cases u with
      | none => cases e
      | some l =>
        cases e
        exact .cons ⟨rfl, h1⟩ (unD_zip h2 eu)
theorem dq_dct {K : PySem.W.Frag} {S : Hp} {v : V} {kvs : List (PyData × PyData)} {kd : KD} (h : Dq K S v (.dict kvs)) (e : unD kvs = some kd) : ∃ a o ws, v = .ref a ∧ S a = some (.frz o (.dK ws)) ∧ KP K S ws kd := by
  cases h with
  | scr h1 h2 => cases e
  | dct h1 h2 h3 =>
    subst h3
    exact ⟨_, _, _, rfl, h1, unD_zip h2 e⟩
theorem KP.dq {K : PySem.W.Frag} {S : Hp} : ∀ {ws : List (Key × V)} {kvs : KD}, KP K S ws kvs → DqAll K S (ws.map (·.2)) (kvs.map (·.2)) ∧ (kvs.map fun p => (keyD p.1, p.2)) = (ws.map fun p => keyD p.1).zip (kvs.map (·.2))
  | _, _, .nil => ⟨.nil, rfl⟩
  | _, _, .cons h t => by
    obtain ⟨h1, h2⟩ := KP.dq t
    refine ⟨.cons h.2 h1, ?_⟩
    rw [List.map_cons, List.map_cons, List.map_cons, List.zip_cons_cons, h2, h.1]
/-- the slot's dict, to be read -/
def slK1 : Option (Option B) → Rs KD
  | some (some (.k kvs)) => .ok kvs
  | some (some (.f kvs)) => .ok kvs
  | some (some (.d (.dict kvs))) => ofO (unD kvs)
  | _ => .no
@[simp] theorem slK1_d (kvs : KD) : slK1 (some (some (.d (dD kvs)))) = .ok kvs := by
  show ofO (unD _) = _
  rw [unD_map]; rfl
section
variable {K : PySem.W.Frag} {wd : World} {H0 S0 S H S1 H1 : Hp} {ρ : En} {σ : St}
theorem slot_k (rp : Rep K wd H0 S0 S ρ σ H) {i : Nat} {kvs : KD} (e : slK1 ρ[i]? = .ok kvs) : ∃ a ws, σ[i]? = some (some (.ref a)) ∧ Rd H a (.dK ws) ∧ KP K S ws kvs := by
  cases hρ : ρ[i]? with
  | none => rw [hρ] at e; cases e
  | some o =>
    rw [hρ] at e
    cases o with
    | none => cases e
    | some b =>
      obtain ⟨v, e1, h1⟩ := rp.slot i b hρ
      cases b with
      | k ys =>
        cases e
        obtain ⟨a, ws, rfl, q1, q2, q3, q4⟩ := h1
        exact ⟨a, ws, e1, .inl q1, q4⟩
      | f ys =>
        cases e
        obtain ⟨a, o, ws, rfl, q1, q3, q4⟩ := h1
        exact ⟨a, ws, e1, .inr ⟨o, q1⟩, q4⟩
      | d x =>
        cases x with
        | dict ys =>
          simp only [slK1] at e
          cases eu : unD ys with
          | none => rw [eu] at e; cases e
          | some kd =>
            rw [eu] at e
            cases e
            obtain ⟨a, o, ws, rfl, q1, q4⟩ := dq_dct h1 eu
            exact ⟨a, ws, e1, .inr ⟨o, rp.sub _ _ q1⟩, q4⟩
        | _ => cases e
      | _ => cases e
theorem repOwnK (r : Rep K wd H0 S0 S ρ σ H) {p : Addr} {ws : List (Key × V)} {xs : KD} (i : Nat) (hp : H p = none) (h : KP K S ws xs) : Rep K wd H0 S0 S (ρ.set i (some (.k xs))) (σ.set i (some (.ref p))) (upd H p (.dK ws)) := by
  have hs : S p = none := r.sub.free hp
  have h0 : H0 p = none := r.old.ext.free hp
  have r2 := r.write (o := .dK ws) (r.fresh hp) h0 hs
  refine ⟨r2.old, fun j b e => ?_, fun j l b d hn e1 e2 o1 o2 => ?_, by simpa using r.len⟩
  · rcases getE_set e with ⟨rfl, eb⟩ | ⟨hn, e⟩
    · have hi : i < ρ.length := by
        by_cases hi : i < ρ.length
        · exact hi
        · rw [List.getElem?_eq_none (by simpa using hi)] at e; cases e
      cases Option.some.inj eb
      exact ⟨.ref p, List.getElem?_set_self (by rw [← r.len]; exact hi), p, ws, rfl, upd_same, hs, h0, h⟩
    · obtain ⟨w, e1, h1⟩ := r2.slot j b e
      exact ⟨w, by rw [List.getElem?_set_ne hn]; exact e1, h1⟩
  · have fr := r.fresh hp
    have hlen : ∀ {j : Nat} {b : B}, (ρ.set i (some (.k xs)))[j]? = some (some b) → i = j → (σ.set i (some (.ref p)))[j]? = some (some (.ref p)) := by
      intro j b e hij
      subst hij
      have hi : i < ρ.length := by
        by_cases hi : i < ρ.length
        · exact hi
        · rw [List.getElem?_eq_none (by simpa using hi)] at e; cases e
      exact List.getElem?_set_self (by rw [← r.len]; exact hi)
    by_cases hj : i = j
    · have hl : i ≠ l := fun z => hn (hj.symm.trans z)
      rw [hlen e1 hj, List.getElem?_set_ne hl]
      rw [List.getElem?_set_ne hl] at e2
      exact fun z => fr l d e2 o2 z.symm
    · rw [List.getElem?_set_ne hj] at e1 ⊢
      by_cases hl : i = l
      · rw [hlen e2 hl]
        exact fun z => fr j b e1 o1 z
      · rw [List.getElem?_set_ne hl] at e2 ⊢
        exact r.apart j l b d hn e1 e2 o1 o2
theorem repRewrK (r : Rep K wd H0 S0 S ρ σ H) {i : Nat} {a : Addr} {ws' : List (Key × V)} {xs xs' : KD} (e : ρ[i]? = some (some (.k xs))) (hσ : σ[i]? = some (some (.ref a))) (h : KP K S ws' xs') :
    Rep K wd H0 S0 S (ρ.set i (some (.k xs'))) σ (upd H a (.dK ws')) := by
  obtain ⟨v, e1, a', ws, ev, h1, h2, h3, h4⟩ := r.slot i _ e
  subst ev
  rw [hσ] at e1
  cases Option.some.inj (Option.some.inj e1)
  have ap : Apart (ρ.set i none) σ a := fun j b eb o z => by
    rcases getE_set eb with ⟨rfl, eq⟩ | ⟨hn, eb⟩
    · cases eq
    · exact r.apart i j _ _ hn e eb rfl o (by rw [hσ, z])
  have r2 := (r.forget i).write (o := .dK ws') ap h3 h2
  refine ⟨r2.old, fun j b eb => ?_, fun j l b d hn e1 e2 o1 o2 => ?_, by simpa using r.len⟩
  · rcases getE_set eb with ⟨rfl, eq⟩ | ⟨hn, eb⟩
    · cases Option.some.inj eq
      exact ⟨_, hσ, a, ws', rfl, upd_same, h2, h3, h⟩
    · exact r2.slot j b (by rw [List.getElem?_set_ne hn]; exact eb)
  · have old : ∀ {j : Nat} {b : B}, (ρ.set i (some (.k xs')))[j]? = some (some b) → owned b = true → ∃ b', ρ[j]? = some (some b') ∧ owned b' = true := by
      intro j b eb o
      rcases getE_set eb with ⟨rfl, eq⟩ | ⟨hn, eb⟩
      · exact ⟨_, e, rfl⟩
      · exact ⟨b, eb, o⟩
    obtain ⟨b', q1, q2⟩ := old e1 o1
    obtain ⟨d', q3, q4⟩ := old e2 o2
    exact r.apart j l b' d' hn q1 q3 q2 q4
end
/-! the functions -/
def dgetK (kvs : KD) (y : PyData) : Rs PyData := ofO ((keyOf y).bind (getA kvs))
def dget1K (kvs : KD) (y : PyData) : Rs PyData := ofO ((keyOf y).map fun k => (getA kvs k).getD .none)
def dget2K (kvs : KD) (y z : PyData) : Rs PyData := ofO ((keyOf y).map fun k => (getA kvs k).getD z)
def dinK (kvs : KD) (y : PyData) : Rs PyData := ofO ((keyOf y).map fun k => .bool (getA kvs k).isSome)
def dninK (kvs : KD) (y : PyData) : Rs PyData := ofO ((keyOf y).map fun k => .bool (!(getA kvs k).isSome))
def eDGet (i : Nat) (g : En → Rs PyData) : En → Rs PyData := fun ρ => (slK1 ρ[i]?).bind fun kvs => (g ρ).bind (dgetK kvs)
def eDGet1 (i : Nat) (g : En → Rs PyData) : En → Rs PyData := fun ρ => (slK1 ρ[i]?).bind fun kvs => (g ρ).bind (dget1K kvs)
def eDGet2 (i : Nat) (g h : En → Rs PyData) : En → Rs PyData := fun ρ => (slK1 ρ[i]?).bind fun kvs => (g ρ).bind fun y => (h ρ).bind (dget2K kvs y)
def eDIn (i : Nat) (g : En → Rs PyData) : En → Rs PyData := fun ρ => (slK1 ρ[i]?).bind fun kvs => (g ρ).bind (dinK kvs)
def eDNin (i : Nat) (g : En → Rs PyData) : En → Rs PyData := fun ρ => (slK1 ρ[i]?).bind fun kvs => (g ρ).bind (dninK kvs)
def sDNew (i : Nat) : En → Out := fun ρ => .nx (ρ.set i (some (.k [])))
def dputV (ρ : En) (i : Nat) (kvs : KD) (d y : PyData) : Out := match keyOf y with
  | some k => if kvs.length < 16777216 then .nx (ρ.set i (some (.k (putA kvs k d)))) else .no
  | none => .no
def dputK (ρ : En) (i : Nat) (r ri : Rs PyData) : Option (Option B) → Out
  | some (some (.k kvs)) => andThen r ρ fun d => andThen ri ρ (dputV ρ i kvs d)
  | _ => .no
def sDPut' (i : Nat) (fi f : En → Rs PyData) : En → Out := fun ρ => dputK ρ i (f ρ) (fi ρ) ρ[i]?
def nDKeys (i : Nat) : En → Rs (List PyData) := fun ρ => match ρ[i]? with
  | some (some (.k kvs)) => .ok (kvs.map fun p => keyD p.1)
  | _ => .no
section
variable {X : Cx} {c : Ct} {e a : Expr} {pos : Pos} {f g : En → Rs PyData}
/-- a name that holds a dict: its walk -/
theorem k_no {α β : Type} {K : PySem.W.Frag} {mg : Str → Option Value} {R : Hp → β → α → Prop} {S H : Hp} {r : Rs KD} {k : KD → Rs α} {Q : β → Hp → Prop} {E : XK} (h : Go K mg R S H (r.bind k) Q E) (ne : ∀ x, r ≠ .er x) : ∃ kvs, r = .ok kvs ∧ Go K mg R S H (k kvs) Q E := by
  cases r with
  | ok kvs => exact ⟨kvs, rfl, h⟩
  | er x => exact absurd rfl (ne x)
  | no => exact h.elim
theorem slK1_ne (o : Option (Option B)) (x : Ex) : slK1 o ≠ .er x := by
  unfold slK1
  split <;> intro h <;> first | (cases h; done) | skip
  rename_i kvs
  cases eu : unD kvs <;> rw [eu] at h <;> cases h
theorem isd_of {H H1 : Hp} {d : Addr} {ws : List (Key × V)} (h : Rd H d (.dK ws)) (e : Same H H1) : IsD H1 d := .inl ⟨ws, rd_mono e h⟩
theorem go_ofO {K : PySem.W.Frag} {mg : Str → Option Value} {S H : Hp} {α : Type} {o : Option α} {k : α → Option PyData} {Q : VK} {E : XK} (q : Go K mg (Dq K) S H (ofO (o.bind k)) Q E) : ∃ x d, o = some x ∧ k x = some d ∧ ∀ S' H' v, Old H S S' H' → Dq K S' v d → Q v H' := by
  cases o with
  | none => exact q.elim
  | some x =>
    obtain ⟨d, e, h⟩ := go_op (o := k x) q
    exact ⟨x, d, rfl, e, h⟩
theorem de_dget (i : Nat) {x : Str} {p : Pos} (hu : X.A.units + 65 < cLine) (hg : DE X c e g) (hN : X.N[i]? = some x := by rfl) (hv : Vis X.env.scope x := by first | exact Or.inl rfl | exact Or.inr (Or.inl rfl) | exact Or.inr (Or.inr rfl)) (hd : (x == ("__debug__" : Str)) = false := by decide)
    (hcd : (x == ("__classdict__" : Str)) = false := by decide) (hs : NoSl e := by exact fun _ _ => rfl) : DE X c (.Subscript (.Name x p) e pos) (eDGet i g) := by
  refine pe_imp (pe_dget (by omega) (pe_var hN hv hd hcd) hg hs) fun σ H Q ⟨S, ρ, rp, q⟩ => ?_
  obtain ⟨kvs, e1, q1⟩ := k_no q (slK1_ne _)
  obtain ⟨d, ws, es, rd, kp⟩ := slot_k rp e1
  refine ⟨_, es, S, ρ, rp, Go.seq q1 fun S1 H1 y dy o1 hy q2 => ?_⟩
  obtain ⟨k, x, ek, ex, q3⟩ := go_ofO q2
  obtain ⟨v, ev, hv⟩ := (kp.mono o1.s0).some ex
  exact ⟨d, v, rfl, .inl ⟨ws, k, rd_mono o1.ext rd, key_dq ek hy, ev.symm⟩, q3 S1 H1 v (.refl o1.sub) hv⟩
theorem dgets {K : PySem.W.Frag} {S : Hp} {ws : List (Key × V)} {kvs : KD} {k : Key} {v : V} {d : PyData} (kp : KP K S ws kvs) (hv : Dq K S v d) : Dq K S ((valV ws k).getD v) ((getA kvs k).getD d) := by
  cases e : getA kvs k with
  | none => rw [kp.none e]; exact hv
  | some x =>
    obtain ⟨u, e2, h⟩ := kp.some e
    rw [e2]
    exact h
theorem disS {K : PySem.W.Frag} {S : Hp} {ws : List (Key × V)} {kvs : KD} {k : Key} (kp : KP K S ws kvs) : (valV ws k).isSome = (getA kvs k).isSome := by
  cases e : getA kvs k with
  | none => rw [kp.none e]; rfl
  | some x =>
    obtain ⟨u, e2, h⟩ := kp.some e
    rw [e2]
    rfl
theorem de_dget1 (i : Nat) {x : Str} {p p2 : Pos} (hu : X.A.units + 65 < cLine) (hg : DE X c e g) (hN : X.N[i]? = some x := by rfl) (hv : Vis X.env.scope x := by first | exact Or.inl rfl | exact Or.inr (Or.inl rfl) | exact Or.inr (Or.inr rfl)) (hd : (x == ("__debug__" : Str)) = false := by decide)
    (hcd : (x == ("__classdict__" : Str)) = false := by decide) (m : M1 X (.Name x p) "get" p2 e pos := by exact ⟨rfl, rfl, rfl, rfl⟩) : DE X c (.Call (.Attribute (.Name x p) "get" p2) [e] [] pos) (eDGet1 i g) := by
  refine pe_imp (pe_dget1 (by omega) (pe_var hN hv hd hcd) hg m) fun σ H Q ⟨S, ρ, rp, q⟩ => ?_
  obtain ⟨kvs, e1, q1⟩ := k_no q (slK1_ne _)
  obtain ⟨d, ws, es, rd, kp⟩ := slot_k rp e1
  refine ⟨_, es, d, rfl, isd_of rd (.refl _), S, ρ, rp, Go.seq q1 fun S1 H1 y dy o1 hy q2 => ?_⟩
  cases ek : keyOf dy with
  | none => simp only [dget1K, ek] at q2; exact q2.elim
  | some k =>
    simp only [dget1K, ek] at q2
    exact ⟨valV ws k, .inl ⟨ws, k, rd_mono o1.ext rd, key_dq ek hy, rfl⟩, Go.now (r' := (getA kvs k).getD .none) q2 o1.sub (dgets (kp.mono o1.s0) .non)⟩
theorem de_dget2 (i : Nat) {x : Str} {p p2 : Pos} (hu : X.A.units + 65 < cLine) (hg : DE X c e g) (hf : DE X c a f) (hN : X.N[i]? = some x := by rfl) (hv : Vis X.env.scope x := by first | exact Or.inl rfl | exact Or.inr (Or.inl rfl) | exact Or.inr (Or.inr rfl)) (hd : (x == ("__debug__" : Str)) = false := by decide)
    (hcd : (x == ("__classdict__" : Str)) = false := by decide) (m : M2 X (.Name x p) "get" p2 e a pos := by exact ⟨rfl, rfl, rfl, rfl⟩) : DE X c (.Call (.Attribute (.Name x p) "get" p2) [e, a] [] pos) (eDGet2 i g f) := by
  refine pe_imp (pe_dget2 (by omega) (pe_var hN hv hd hcd) hg hf m) fun σ H Q ⟨S, ρ, rp, q⟩ => ?_
  obtain ⟨kvs, e1, q1⟩ := k_no q (slK1_ne _)
  obtain ⟨d, ws, es, rd, kp⟩ := slot_k rp e1
  refine ⟨_, es, d, rfl, isd_of rd (.refl _), S, ρ, rp, Go.seq q1 fun S1 H1 y dy o1 hy q2 => ?_⟩
  refine ⟨S1, ρ, rp.step o1, Go.seq q2 fun S2 H2 z dz o2 hz q3 => ?_⟩
  cases ek : keyOf dy with
  | none => simp only [dget2K, ek] at q3; exact q3.elim
  | some k =>
    simp only [dget2K, ek] at q3
    exact ⟨valV ws k, .inl ⟨ws, k, rd_mono (o1.ext.trans o2.ext) rd, key_dq ek hy, rfl⟩, Go.now (r' := (getA kvs k).getD dz) q3 o2.sub (dgets (kp.mono (o1.s0.trans o2.s0)) hz)⟩
theorem tDIn_of {i : Nat} {σ : St} {H : Hp} {Q : VK} (q : tE X.K X.mg c (eDIn i g) σ H Q) : tDIn (tE X.K X.mg c g) (tVar i) σ H Q := by
  obtain ⟨S, ρ, rp, q⟩ := q
  obtain ⟨kvs, e1, q1⟩ := k_no q (slK1_ne _)
  obtain ⟨d, ws, es, rd, kp⟩ := slot_k rp e1
  refine ⟨S, ρ, rp, Go.seq q1 fun S1 H1 y dy o1 hy q2 => ⟨_, es, d, valV ws ((keyOf dy).getD (.inl 0)), rfl, ?_⟩⟩
  cases ek : keyOf dy with
  | none => simp only [dinK, ek] at q2; exact q2.elim
  | some k =>
    simp only [dinK, ek] at q2
    exact ⟨.inl ⟨ws, k, rd_mono o1.ext rd, key_dq ek hy, rfl⟩, Go.now (r' := PyData.bool (getA kvs k).isSome) q2 o1.sub (by rw [Option.getD_some, disS kp]; exact Dq.bl _)⟩
theorem tDNin_of {i : Nat} {σ : St} {H : Hp} {Q : VK} (q : tE X.K X.mg c (eDNin i g) σ H Q) : tDNotIn (tE X.K X.mg c g) (tVar i) σ H Q := by
  obtain ⟨S, ρ, rp, q⟩ := q
  obtain ⟨kvs, e1, q1⟩ := k_no q (slK1_ne _)
  obtain ⟨d, ws, es, rd, kp⟩ := slot_k rp e1
  refine ⟨S, ρ, rp, Go.seq q1 fun S1 H1 y dy o1 hy q2 => ⟨_, es, d, valV ws ((keyOf dy).getD (.inl 0)), rfl, ?_⟩⟩
  cases ek : keyOf dy with
  | none => simp only [dninK, ek] at q2; exact q2.elim
  | some k =>
    simp only [dninK, ek] at q2
    exact ⟨.inl ⟨ws, k, rd_mono o1.ext rd, key_dq ek hy, rfl⟩, Go.now (r' := PyData.bool (!(getA kvs k).isSome)) q2 o1.sub (by rw [Option.getD_some, disS kp]; exact Dq.bl _)⟩
section
variable (i : Nat) {x : Str} {p : Pos} (hu : X.A.units + 65 < cLine) (hg : DE X c e g) (hN : X.N[i]? = some x := by rfl) (hv : Vis X.env.scope x := by first | exact Or.inl rfl | exact Or.inr (Or.inl rfl) | exact Or.inr (Or.inr rfl)) (hd : (x == ("__debug__" : Str)) = false := by decide)
    (hcd : (x == ("__classdict__" : Str)) = false := by decide)
include hu hg hN hv hd hcd
theorem de_din (hm : behindInMarks .In (.Name x p) = false := by first | rfl | exact nomark _) : DE X c (.Compare e [.In] [.Name x p] pos) (eDIn i g) :=
  pe_imp (pe_cmp (pc_din (by omega) hg (pe_var hN hv hd hcd)) hm) fun _ _ _ q => tDIn_of q
theorem de_dnin (hm : behindInMarks .NotIn (.Name x p) = false := by first | rfl | exact nomark _) : DE X c (.Compare e [.NotIn] [.Name x p] pos) (eDNin i g) :=
  pe_imp (pe_cmp (pc_dnotin (by omega) hg (pe_var hN hv hd hcd)) hm) fun _ _ _ q => tDNin_of q
theorem dt_din (hm : behindInMarks .In (.Name x p) = false := by first | rfl | exact nomark _) : DT X c (.Compare e [.In] [.Name x p] pos) (bOf (eDIn i g)) :=
  pt_imp (pt_cmp (pc_din (by omega) hg (pe_var hN hv hd hcd)) hm) fun _ _ _ q => tTest_of (fun _ q => tDIn_of q) q
theorem dt_dnin (hm : behindInMarks .NotIn (.Name x p) = false := by first | rfl | exact nomark _) : DT X c (.Compare e [.NotIn] [.Name x p] pos) (bOf (eDNin i g)) :=
  pt_imp (pt_cmp (pc_dnotin (by omega) hg (pe_var hN hv hd hcd)) hm) fun _ _ _ q => tTest_of (fun _ q => tDNin_of q) q
end
theorem ds_dnew {i : Nat} {x : Str} {pos' p2 : Pos} (hN : X.N.Nodup) (hi : X.N[i]? = some x) (hx : Loc X.env.scope x) (hs : swapsWith (.Dict [] [] p2) (some (.Name x pos')) pos.line X.env = pure false := by rfl) (hf : X.fn x = true ∨ X.env.scope.names.lookup x = some .local := by first | exact .inl rfl | exact .inr rfl | assumption) :
    DS X c (.Assign [.Name x pos'] (.Dict [] [] p2) pos) (sDNew i) := by
  refine ps_imp (ps_set hN hi hx pe_dnewK hs hf) fun D σ H ⟨S, ρ, rp, p⟩ => fun q hq => ?_
  exact p S _ _ (.refl _) (repOwnK rp i hq .nil)
theorem ds_dput (i : Nat) {x : Str} {p p2 : Pos} {fi : En → Rs PyData} {ix : Expr} (hu : X.A.units + 65 < cLine) (hf : DE X c e f) (hix : DE X c ix fi) (hN : X.N[i]? = some x := by rfl) (hv : Vis X.env.scope x := by first | exact Or.inl rfl | exact Or.inr (Or.inl rfl) | exact Or.inr (Or.inr rfl)) (hd : (x == ("__debug__" : Str)) = false := by decide)
    (hcd : (x == ("__classdict__" : Str)) = false := by decide) (hs : swapsWith e (some (.Subscript (.Name x p) ix p2)) pos.line X.env = pure false := by rfl) : DS X c (.Assign [.Subscript (.Name x p) ix p2] e pos) (sDPut' i fi f) := by
  refine ps_imp (ps_dput (by omega) (pe_var hN hv hd hcd) hix hf hs) fun D σ H ⟨S, ρ, rp, pp⟩ => ?_
  unfold sDPut' dputK at pp
  cases hρ : ρ[i]? with
  | none => rw [hρ] at pp; exact pp.elim
  | some o =>
    rw [hρ] at pp
    cases o with
    | none => exact pp.elim
    | some b =>
      cases b with
      | k kvs =>
        obtain ⟨v0, e1, ad, ws, rfl, h1, h2, h3, h4⟩ := rp.slot i _ hρ
        refine ⟨S, ρ, rp, go_then rp pp fun S1 H1 v d o1 hd1 r1 p1 => ⟨_, e1, S1, ρ, r1, go_then r1 p1 fun S2 H2 y dy o2 hy r2 p2 => ?_⟩⟩
        unfold dputV at p2
        cases ek : keyOf dy with
        | none => rw [ek] at p2; exact p2.elim
        | some k =>
          rw [ek] at p2
          simp only at p2
          by_cases hl : kvs.length < 16777216
          · rw [if_pos hl] at p2
            have kp : KP X.K S2 ws kvs := KP.mono h4 (o1.s0.trans o2.s0)
            refine ⟨ad, _, rfl, .inl ⟨ws, k, o2.ext _ _ (o1.ext _ _ h1), key_dq ek hy, by rw [Paired.length kp, sizeLine_eq]; exact hl, rfl⟩, ?_⟩
            exact p2 S2 _ _ (.refl _) (repRewrK r2 hρ e1 (kp.put (dp_mono o2.s0 _ _ hd1)))
          · rw [if_neg hl] at p2
            exact p2.elim
      | _ => exact pp.elim
end
section
variable {i : Nat} {f g h fi : En → Rs PyData} {ρ : En} {kvs : KD}
@[simp] theorem slK1_k : slK1 (some (some (.k kvs))) = .ok kvs := Eq.trans rfl rfl
@[simp] theorem slK1_f : slK1 (some (some (.f kvs))) = .ok kvs := Eq.trans rfl rfl
@[simp] theorem eDGet_ap : eDGet i g ρ = (slK1 ρ[i]?).bind fun kvs => (g ρ).bind (dgetK kvs) := Eq.trans rfl rfl
@[simp] theorem eDGet1_ap : eDGet1 i g ρ = (slK1 ρ[i]?).bind fun kvs => (g ρ).bind (dget1K kvs) := Eq.trans rfl rfl
@[simp] theorem eDGet2_ap : eDGet2 i g h ρ = (slK1 ρ[i]?).bind fun kvs => (g ρ).bind fun y => (h ρ).bind (dget2K kvs y) := Eq.trans rfl rfl
@[simp] theorem eDIn_ap : eDIn i g ρ = (slK1 ρ[i]?).bind fun kvs => (g ρ).bind (dinK kvs) := Eq.trans rfl rfl
@[simp] theorem eDNin_ap : eDNin i g ρ = (slK1 ρ[i]?).bind fun kvs => (g ρ).bind (dninK kvs) := Eq.trans rfl rfl
@[simp] theorem sDNew_ap : sDNew i ρ = .nx (ρ.set i (some (.k []))) := Eq.trans rfl rfl
@[simp] theorem sDPut'_ap : sDPut' i fi f ρ = dputK ρ i (f ρ) (fi ρ) ρ[i]? := Eq.trans rfl rfl
@[simp] theorem dputK_k (r ri : Rs PyData) : dputK ρ i r ri (some (some (.k kvs))) = andThen r ρ fun d => andThen ri ρ (dputV ρ i kvs d) := Eq.trans rfl rfl
theorem dputV_s {x : Str} {d : PyData} (hl : kvs.length < 16777216) : dputV ρ i kvs d (.str x) = .nx (ρ.set i (some (.k (putA kvs (.inr x) d)))) := by
  show (if kvs.length < 16777216 then Out.nx (ρ.set i (some (.k (putA kvs (.inr x) d)))) else .no) = _
  rw [if_pos hl]
theorem dputV_i {x : Int} {d : PyData} (hl : kvs.length < 16777216) : dputV ρ i kvs d (.int x) = .nx (ρ.set i (some (.k (putA kvs (.inl x) d)))) := by
  show (if kvs.length < 16777216 then Out.nx (ρ.set i (some (.k (putA kvs (.inl x) d)))) else .no) = _
  rw [if_pos hl]
@[simp] theorem dgetK_s (x : Str) : dgetK kvs (.str x) = ofO (getA kvs (.inr x)) := Eq.trans rfl rfl
@[simp] theorem dgetK_i (x : Int) : dgetK kvs (.int x) = ofO (getA kvs (.inl x)) := Eq.trans rfl rfl
@[simp] theorem dget1K_s (x : Str) : dget1K kvs (.str x) = .ok ((getA kvs (.inr x)).getD .none) := Eq.trans rfl rfl
@[simp] theorem dget1K_i (x : Int) : dget1K kvs (.int x) = .ok ((getA kvs (.inl x)).getD .none) := Eq.trans rfl rfl
@[simp] theorem dget2K_s (x : Str) (z : PyData) : dget2K kvs (.str x) z = .ok ((getA kvs (.inr x)).getD z) := Eq.trans rfl rfl
@[simp] theorem dget2K_i (x : Int) (z : PyData) : dget2K kvs (.int x) z = .ok ((getA kvs (.inl x)).getD z) := Eq.trans rfl rfl
@[simp] theorem dinK_s (x : Str) : dinK kvs (.str x) = .ok (.bool (getA kvs (.inr x)).isSome) := Eq.trans rfl rfl
@[simp] theorem dinK_i (x : Int) : dinK kvs (.int x) = .ok (.bool (getA kvs (.inl x)).isSome) := Eq.trans rfl rfl
@[simp] theorem dninK_s (x : Str) : dninK kvs (.str x) = .ok (.bool (!(getA kvs (.inr x)).isSome)) := Eq.trans rfl rfl
@[simp] theorem dninK_i (x : Int) : dninK kvs (.int x) = .ok (.bool (!(getA kvs (.inl x)).isSome)) := Eq.trans rfl rfl
end
end D2

/-! ### sorted, by the data's order -/
namespace L2
open PySem PySem.Spec PyProof.Rows
open PySem.W (EachIs)
section
variable {X : Cx}
/-- the data as it is compared -/
theorem each_back {H : Hp} {R : V → PyData → Prop} : ∀ {us : List Value} {ds : List PyData}, EachIs (fun u d => ∃ v, RelV v u ∧ R v d) us ds → ∃ vs, Vals vs us ∧ Paired R vs ds
  | _, _, .nil => ⟨[], .nil, .nil⟩
  | _, _, .cons ⟨v, r, h⟩ t => by
    obtain ⟨vs, h1, h2⟩ := each_back (H := H) t
    exact ⟨v :: vs, .cons r h1, .cons h h2⟩
end
end L2
namespace D2
open PySem PySem.Spec PyProof.Rows L2
open PySem.W (EachIs alike alikeAll dataLe AllAlike Sortable dataLt sorted_data list_sort_data)
section
variable {K : PySem.W.Frag} {S H : Hp}
theorem paired_dqs : ∀ {vs : List V} {ds : List PyData}, Paired (Dq K S) vs ds → DqAll K S vs ds
  | _, _, .nil => .nil
  | _, _, .cons h t => .cons h (paired_dqs t)
def lay0All (ds : List PyData) : Bool := ds.all fun d => d.canLay0
def alikeA (ds : List PyData) : Bool := ds.all fun d => ds.all fun d' => alike d d'
def sortA (ds : List PyData) : Bool := (ds.all fun d => match d with
  | .tuple (_ :: _) => true
  | _ => false) || ds.all fun d => match d with
  | .none => false
  | .tuple _ => false
  | _ => true
def sortOk (ds : List PyData) : Prop := ds.length ≤ 16777216 ∧ lay0All ds = true ∧ alikeA ds = true ∧ sortA ds = true ∧ (ds.all fun d => decide (d.depth ≤ 40)) = true
instance (ds : List PyData) : Decidable (sortOk ds) := inferInstanceAs (Decidable (_ ∧ _ ∧ _ ∧ _ ∧ _))
def sortD (ds : List PyData) : List PyData := ds.mergeSort (dataLe false id)
theorem alikeA_all {ds : List PyData} (h : alikeA ds = true) : AllAlike ds := fun d hd d' hd' => List.all_eq_true.mp (List.all_eq_true.mp h d hd) d' hd'
theorem sortA_ok {ds : List PyData} (h : sortA ds = true) : Sortable ds := by
  rw [sortA, Bool.or_eq_true] at h
  rcases h with h | h
  · refine .inl fun d hd => ?_
    have := List.all_eq_true.mp h d hd
    split at this
    · exact ⟨_, _, rfl⟩
    · cases this
  · refine .inr fun d hd => ?_
    have := List.all_eq_true.mp h d hd
    split at this
    · cases this
    · cases this
    · rename_i h1 h2
      exact ⟨fun z => h1 z, fun xs z => h2 xs z⟩
theorem dqs_each : ∀ {vs : List V} {us : List Value} {ds : List PyData}, Vals vs us → DqAll K S vs ds → EachIs (fun u d => ∃ v, RelV v u ∧ Dq K S v d) us ds
  | _, _, _, .nil, .nil => .nil
  | _, _, _, .cons r t, .cons h1 h2 => .cons ⟨_, r, h1⟩ (dqs_each t h2)
/-- sorted(xs), xs a list of data alike -/
def rSortD (K : PySem.W.Frag) : List V → Hp → VK → Prop := fun vs H Q => ∃ (a : Addr) (xs : List V) (ds : List PyData) (S : Hp), vs = [V.ref a] ∧ SqL K H a xs ∧ Same S H ∧ DqAll K S xs ds ∧ sortOk ds ∧
  ∀ ys p, DqAll K S ys (sortD ds) → H p = none → Q (.ref p) (upd H p (.lst ys))
end
section
variable {X : Cx}
theorem cr_sortD (hu : X.A.units + 65 < cLine) : CallR X (.builtin "sorted") (rSortD X.K) := by
  intro pins s σ H vs us Q I r h
  obtain ⟨a, xs, ds, S, rfl, hs, hS, hd, ok, q⟩ := h
  obtain ⟨its, rv, hl, hz⟩ := I.list hs
  obtain ⟨u, rfl, ru⟩ := vals1 r
  obtain rfl : u = Value.ref a := ru
  have e1 := dqs_each rv hd
  have e2 : EachIs (fun v d => ∃ as, Reads s.heap v (id d) as) its ds :=
    (PySem.W.each_mem e1).mono fun u d ⟨⟨v, r, hv⟩, hm⟩ => Dp.reads I d v u (dq_dp _ _ (dp_mono hS _ _ hv) (List.all_eq_true.mp ok.2.1 d hm)) r
  have hlen : its.length = ds.length := e1.length
  refine sorted_data (enc := id) (R := fun u d => ∃ v, RelV v u ∧ Dq X.K S v d) hl.isList e1 e2 (by rw [List.map_id]; exact alikeA_all ok.2.2.1) (by rw [List.map_id]; exact sortA_ok ok.2.2.2.1) (by rw [← hlen, ← rv.length]; exact hz) (fun b hb => ?_) fun out h1 h2 => ?_
  · have := of_decide_eq_true (List.all_eq_true.mp ok.2.2.2.2 b hb)
    show X.A.units + 2 + b.depth < cLine
    omega
  · obtain ⟨ys, rys, hys⟩ := each_back (H := H) h2
    obtain ⟨ep, he'⟩ := PyProof.Rows.sortedAll_at s.heap its out.toArray
    refine ⟨.ref _, upd H (s.heap.objs.size + 1) (.lst ys), I.laid (t' := s.toks) (fun _ _ => PyProof.Rows.sortedAll_old) (Nat.le_succ _) ⟨?_, out, ep, rys, he'⟩, rfl, q ys _ (paired_dqs hys) (I.hok.fresh (Nat.le_succ _))⟩
    rw [rys.length, h1, ← hlen, ← rv.length]
    exact hz
end

def sortK (ks : List Key) : List Key := ks.mergeSort (dataLe false keyD)
/-- sorted(d): its keys -/
def rSortK : List V → Hp → VK → Prop := fun xs H Q => ∃ a ws, xs = [V.ref a] ∧ Rd H a (.dK ws) ∧ sortOk (ws.map fun p => keyD p.1) ∧ ∀ q, H q = none → Q (.ref q) (upd H q (.lst ((sortK (ws.map (·.1))).map kV)))
theorem key_reads {h : Heap} {k : Key} {u : Value} (r : RelV (kV k) u) : Reads h u (keyD k) [] := by
  cases k with
  | inl i =>
    obtain ⟨t, rfl⟩ := r
    exact .int i t
  | inr x =>
    obtain ⟨t, rfl⟩ := r
    exact .str x t
theorem each_vals : ∀ {us : List Value} {ks : List Key}, EachIs (fun u k => RelV (kV k) u) us ks → Vals (ks.map kV) us
  | _, _, .nil => .nil
  | _, _, .cons r t => .cons r (each_vals t)
section
variable {X : Cx}
theorem cr_sortK (hu : X.A.units + 65 < cLine) (hc : X.calm = true) : CallR X (.builtin "sorted") rSortK := by
  intro pins s σ H xs us Q I r h
  obtain ⟨a, ws, e, hk, ok, q⟩ := h
  subst e
  obtain ⟨u, eu, rx⟩ := vals1 r
  subst eu
  obtain rfl : u = Value.ref a := rx
  obtain ⟨z, lo, vs, rk, hd⟩ := dk_rd I.hok hk
  obtain ⟨ep, hat⟩ := hd.dictAt
  have hl : ws.length = vs.length := Paired.length rk
  refine Calls.call_function_entry kind_sorted plain_sorted entry_sorted (args_sorted1 _) ?_
  unfold Builtin.«sorted»
  refine wpAny_bind (m := checkCount "sorted" 1 1 _) (wpAny_pure ?_)
  refine wpAny_bind (PySem.W.kdu_collect (A := X.A.in1) (PySem.W.kdl_dict (knd := mixKind X.prog X.w) (kvs := vs) (ep := ep) lo) (I.ok.hd hc) hat (by rw [← hl]; exact z) fun h' tk acc hkeep hacc => ?_)
  have hal : acc.toList.length = vs.length := by rw [Array.length_toList]; exact hacc.1
  refine wpAny_bind (wpAny_newList ?_ (by rw [hal, ← hl]; exact z))
  have hoL : (h'.push (seqObj "list" acc.toList.toArray 0)).get? h'.objs.size = some (seqObj "list" acc.toList.toArray 0) := Heap.get?_push_size _ rfl
  have e1 : EachIs (fun u k => RelV (kV k) u) acc.toList (ws.map (·.1)) := by
    refine EachIs.of_zip (by rw [hal, List.length_map, hl]) fun p hp => ?_
    obtain ⟨j, hj⟩ := List.mem_iff_getElem?.mp hp
    obtain ⟨h1, h2⟩ := List.getElem?_zip_eq_some.mp hj
    obtain ⟨k, y, hky, hi⟩ := hacc.2 j p.1 (by rw [← Array.getElem?_toList]; exact h1)
    rw [KV.keys rk, List.getElem?_map, hky] at h2
    cases h2
    exact keyIs_rel hi
  have e2 : EachIs (fun v k => ∃ as, Reads (h'.push (seqObj "list" acc.toList.toArray 0)) v (keyD k) as ∧ h'.objs.size ∉ as) acc.toList (ws.map (·.1)) := e1.mono fun u k r => ⟨[], key_reads r, by simp⟩
  have hlen : (ws.map (·.1)).length = ws.length := List.length_map ..
  have em : (ws.map (·.1)).map keyD = ws.map fun p => keyD p.1 := by rw [List.map_map]; rfl
  refine wpAny_bind (wpAny_holding (list_sort_data (s := { s with heap := h'.push (seqObj "list" acc.toList.toArray 0), toks := tk }) (A := X.A.in1) (enc := keyD) (R := fun u k => RelV (kV k) u) hoL e1 e2 (by rw [em]; exact alikeA_all ok.2.2.1) (by rw [em]; exact sortA_ok ok.2.2.2.1) (by rw [hlen]; exact z) (fun b hb => ?_) fun out h1 h2 => ?_))
  · have : (keyD b).depth = 0 := by cases b <;> rfl
    show X.A.units + 1 + 1 + (keyD b).depth < cLine
    omega
  · obtain ⟨ep2, he2⟩ := PyProof.Rows.sortedHeap_at (vs := acc.toList) (out := out.toArray) hoL
    have I2 : Inv X pins σ H { s with heap := h', toks := tk } := I.kept hkeep
    refine wpAny_pure ⟨_, rfl, .ref h'.objs.size, upd H h'.objs.size (.lst ((sortK (ws.map (·.1))).map kV)), I2.laid (t' := tk) (fun b o hb => ?_) (Nat.le_refl _) ⟨?_, out, ep2, each_vals (ks := sortK (ws.map (·.1))) h2, he2⟩, rfl, q _ (I2.hok.fresh (Nat.le_refl _))⟩
    · have q := hb
      have hlt := Heap.lt_size q
      rw [PyProof.Rows.sortedHeap_old (Nat.ne_of_lt hlt) (by rw [size_push']; exact Nat.lt_succ_of_lt hlt)]
      exact Heap.get?_push_of_some _ q
    · rw [List.length_map, sortK, List.length_mergeSort, hlen]
      exact z
end
end D2

namespace D2
open PySem PySem.Spec PyProof.Rows L2
open PySem.W (EachIs alike alikeAll dataLe AllAlike Sortable dataLt)
/-! ### texts put together, sorted as an expression -/
theorem str_app_len (x y : Str) : (x ++ y).length = x.length + y.length := by
  obtain ⟨a, rfl⟩ := S_of x
  obtain ⟨b, rfl⟩ := S_of y
  rw [S_app, S_len, S_len, S_len, List.length_append]
def accK (acc : Str) : PyData → Rs Str
  | .str y => if acc.length + y.length ≤ 16777216 then .ok (acc ++ y) else .no
  | _ => .no
def jsF : List (En → Rs PyData) → Str → En → Rs PyData
  | [], acc, _ => .ok (.str acc)
  | f :: fs, acc, ρ => (f ρ).bind fun x => (accK acc x).bind fun a => jsF fs a ρ
def eFS (fs : List (En → Rs PyData)) : En → Rs PyData := jsF fs Str.empty
def fmtK : PyData → Rs PyData
  | .str y => if y.length ≤ 16777216 then .ok (.str y) else .no
  | .int i => if i.natAbs.log2 < 1920 then .ok (.str (Str.ofString (toString i))) else .no
  | _ => .no
def eFmt (f : En → Rs PyData) : En → Rs PyData := fun ρ => (f ρ).bind fmtK
inductive DJ (X : Cx) (c : Ct) : List Expr → List (En → Rs PyData) → Prop where
  | nil : DJ X c [] []
  | cons {e : Expr} {f : En → Rs PyData} {es : List Expr} {fs : List (En → Rs PyData)} (h : DE X c e f) (r : DJ X c es fs) : DJ X c (e :: es) (f :: fs)
section
variable {X : Cx} {c : Ct} {a b e o : Expr} {es : List Expr} {pos apos : Pos} {f g : En → Rs PyData} {fa : En → Rs (List PyData)} {fs : List (En → Rs PyData)}
theorem DJ.pj (h : DJ X c es fs) : PJ X es (fs.map (tE X.K X.mg c)) := by
  induction h with
  | nil => exact .nil
  | cons h r ih => exact .cons h ih
theorem js_of : ∀ {fs : List (En → Rs PyData)} {acc : Str} {S H : Hp} {ρ : En} {σ : St} {Q : VK}, Rep X.K c.wd c.H0 c.S0 S ρ σ H → Go X.K X.mg (Dq X.K) S H (jsF fs acc ρ) Q (fun C d H' => c.W C d σ H') → tJs (fs.map (tE X.K X.mg c)) acc σ H fun out H1 => Q (.str out) H1
  | [], acc, S, H, ρ, σ, Q, rp, q => Go.now (r' := PyData.str acc) q rp.sub (.str acc)
  | f :: fs, acc, S, H, ρ, σ, Q, rp, q => by
    refine ⟨S, ρ, rp, Go.seq (r := f ρ) (k := fun x => (accK acc x).bind fun a => jsF fs a ρ) q fun S1 H1 x dx o1 hx q1 => ?_⟩
    cases dx with
    | str y =>
      cases hx
      by_cases hl : acc.length + y.length ≤ 16777216
      · simp only [accK, if_pos hl, bind_ok] at q1
        exact ⟨y, rfl, by rw [sizeLine_eq, str_app_len]; exact hl, js_of (rp.step o1) q1⟩
      · simp only [accK, if_neg hl, bind_no] at q1
        exact q1.elim
    | _ => exact (show False from q1).elim
theorem de_fs {v1 v2 : Expr} {rest : List Expr} (h : DJ X c (v1 :: v2 :: rest) fs) : DE X c (.JoinedStr (v1 :: v2 :: rest) pos) (eFS fs) :=
  pe_imp (pe_joined h.pj) fun σ H Q ⟨S, ρ, rp, q⟩ => js_of rp q
theorem de_fs1 (h : DE X c e f) : DE X c (.JoinedStr [e] pos) f := pe_joined1 h
theorem de_fmt (h : DE X c e f) : DE X c (.FormattedValue e (-1) none pos) (eFmt f) := by
  refine pe_imp (pe_fmt h) fun σ H Q ⟨S, ρ, rp, q⟩ => ?_
  refine ⟨S, ρ, rp, Go.seq q fun S1 H1 x dx o1 hx q1 => ?_⟩
  cases dx with
  | str y =>
    cases hx
    by_cases hl : y.length ≤ 16777216
    · simp only [fmtK, if_pos hl] at q1
      exact .inl ⟨y, rfl, by rw [sizeLine_eq]; exact hl, Go.now (r' := PyData.str y) q1 o1.sub (.str y)⟩
    · simp only [fmtK, if_neg hl] at q1
      exact q1.elim
  | int i =>
    cases hx
    by_cases hl : i.natAbs.log2 < 1920
    · simp only [fmtK, if_pos hl] at q1
      exact .inr ⟨i, rfl, hl, Go.now (r' := PyData.str _) q1 o1.sub (.str _)⟩
    · simp only [fmtK, if_neg hl] at q1
      exact q1.elim
  | _ => exact (show False from q1).elim
/-! sorted -/
def fSort : List PyData → Option PyData
  | [.list ds] => if sortOk ds then some (.list (sortD ds)) else none
  | _ => none
theorem cs_sort {K : PySem.W.Frag} : CallS K (rSortD K) fSort := by
  intro S H vs ds Q hs hd d e q
  unfold fSort at e
  split at e
  · rename_i ys
    by_cases hk : sortOk ys
    · rw [if_pos hk] at e
      cases e
      obtain ⟨v, rfl, hx⟩ := dqs1 hd
      cases hx with
      | lst h1 h2 =>
        refine ⟨_, _, ys, S, rfl, .inl (rd_mono hs h1), hs, h2, hk, fun ws p hw hp => ?_⟩
        exact q (upd S p (.lst ws)) _ (.ref p) (Old.new hs hp) (.lst (.inl upd_same) (dps_mono (same_upd (hs.free hp)) _ _ hw))
    · rw [if_neg hk] at e
      cases e
  · cases e
def eDSort (i : Nat) : En → Rs PyData := fun ρ => (slK1 ρ[i]?).bind fun kvs => if sortOk (kvs.map fun p => keyD p.1) then .ok (.list ((sortK (kvs.map (·.1))).map keyD)) else .no
theorem keys_eq {K : PySem.W.Frag} {S : Hp} {ws : List (Key × V)} {kvs : KD} (h : KP K S ws kvs) : (ws.map fun p => keyD p.1) = kvs.map fun p => keyD p.1 := by
  have := congrArg (List.map keyD) h.keys
  simpa [List.map_map, Function.comp_def] using this
theorem de_dsort (i : Nat) {x : Str} {p p2 : Pos} (hu : X.A.units + 65 < cLine) (hc : X.calm = true) (hg : Gl X "sorted") (hm : X.mg "sorted" = none) (hN : X.N[i]? = some x := by rfl) (hv : Vis X.env.scope x := by first | exact Or.inl rfl | exact Or.inr (Or.inl rfl) | exact Or.inr (Or.inr rfl)) (hd : (x == ("__debug__" : Str)) = false := by decide)
    (hcd : (x == ("__classdict__" : Str)) = false := by decide) (hb : bootBuiltins ("sorted" : Str) = some (.builtin "sorted") := by decide +kernel) (he : starEach [.Name x p2] X.env = (false, eval (.Name x p2) X.env) :: starEach [] X.env := by rfl) (hpl : (backTo pos (starEach [] X.env)).any (·.1) = false := by rfl) :
    DE X c (.Call (.Name "sorted" p) [.Name x p2] [] pos) (eDSort i) := by
  refine pe_imp (pe_callB (cr_sortK hu hc) hg hm hb (pa_cons (pe_var hN hv hd hcd) pa_nil he) (by decide) (by decide) he hpl) fun σ H Q ⟨S, ρ, rp, q⟩ => ?_
  obtain ⟨kvs, e1, q1⟩ := k_no q (slK1_ne _)
  obtain ⟨ad, ws, es, rd, kp⟩ := slot_k rp e1
  by_cases hk : sortOk (kvs.map fun p => keyD p.1)
  · rw [if_pos hk] at q1
    refine ⟨.ref ad, es, ad, ws, rfl, rd, by rw [keys_eq kp]; exact hk, fun q hq => ?_⟩
    exact q1 (upd S q (.lst ((sortK (ws.map (·.1))).map kV))) _ (.ref q) (Old.new rp.sub hq) (.lst (.inl upd_same) (by rw [kp.keys]; exact keys_dqs _))
  · rw [if_neg hk] at q1
    exact q1.elim
end
section
variable {f g : En → Rs PyData} {fs : List (En → Rs PyData)} {ρ : En} {acc : Str} {i : Nat}
@[simp] theorem eFS_ap : eFS fs ρ = jsF fs Str.empty ρ := Eq.trans rfl rfl
@[simp] theorem jsF_nil : jsF [] acc ρ = .ok (.str acc) := Eq.trans rfl rfl
@[simp] theorem jsF_cons : jsF (f :: fs) acc ρ = (f ρ).bind fun x => (accK acc x).bind fun a => jsF fs a ρ := Eq.trans rfl rfl
@[simp] theorem eFmt_ap : eFmt f ρ = (f ρ).bind fmtK := Eq.trans rfl rfl
@[simp] theorem fmtK_s (y : Str) : fmtK (.str y) = if y.length ≤ 16777216 then .ok (.str y) else .no := Eq.trans rfl rfl
@[simp] theorem fmtK_i (i : Int) : fmtK (.int i) = if i.natAbs.log2 < 1920 then .ok (.str (Str.ofString (toString i))) else .no := Eq.trans rfl rfl
theorem empty_S : Str.empty = S [] := by rfl
@[simp] theorem accK_S (a b : List Nat) : accK (S a) (.str (S b)) = if a.length + b.length ≤ 16777216 then .ok (S (a ++ b)) else .no := by
  show (if (S a).length + (S b).length ≤ 16777216 then Rs.ok (S a ++ S b) else .no) = _
  rw [S_len, S_len, S_app]
@[simp] theorem fSort_l (ds : List PyData) : fSort [.list ds] = if sortOk ds then some (.list (sortD ds)) else none := Eq.trans rfl rfl
@[simp] theorem eDSort_ap : eDSort i ρ = (slK1 ρ[i]?).bind fun kvs => if sortOk (kvs.map fun p => keyD p.1) then .ok (.list ((sortK (kvs.map (·.1))).map keyD)) else .no := Eq.trans rfl rfl
end
end D2

namespace D2
open PySem PySem.Spec PyProof.Rows L2
/-! ### isinstance of two types -/
def eIsi2 (T U : String) (f : En → Rs PyData) : En → Rs PyData := fun ρ => (f ρ).bind fun x => .ok (.bool (isTy T x || isTy U x))
section
variable {X : Cx} {c : Ct} {a : Expr} {pos : Pos} {f : En → Rs PyData}
theorem kit2 {K : PySem.W.Frag} {t T U : String} {b1 b2 : Bool} (h1 : kitB t T = some b1) (h2 : kitB t U = some b2) : PySem.W.kitAny K (.type t) [.type T, .type U] = some (b1 || b2) :=
  kitAny_cons (kit_ty h1) (fun e => by
    subst e
    exact kitAny_cons (kit_ty h2) (fun e => by subst e; exact kitAny_nil) (fun e => by subst e; rfl)) (fun e => by subst e; rfl)
theorem de_isi2 {T U : String} {x y : Str} {p p2 p3 tpos : Pos} {kk : Nat} (hg : Gl X "isinstance") (hm : X.mg "isinstance" = none) (hg2 : Gl X x) (hm2 : X.mg x = none) (hv2 : bootBuiltins x = some (.type T)) (hk : ∀ d, kitB (tyN d) T = some (isTy T d))
    (hg3 : Gl X y) (hm3 : X.mg y = none) (hv3 : bootBuiltins y = some (.type U)) (hk3 : ∀ d, kitB (tyN d) U = some (isTy U d)) (ha : DE X c a f) (hn2 : x ≠ "__name__" := by decide) (hdb2 : (x == ("__debug__" : Str)) = false := by decide) (hn3 : y ≠ "__name__" := by decide) (hdb3 : (y == ("__debug__" : Str)) = false := by decide)
    (hv : bootBuiltins "isinstance" = some (.builtin "isinstance") := by decide +kernel)
    (he : starEach (a :: [.Tuple [.Name x p2, .Name y p3] kk tpos]) X.env = (false, eval a X.env) :: starEach [.Tuple [.Name x p2, .Name y p3] kk tpos] X.env := by rfl) (hpl : (backTo pos (starEach [.Tuple [.Name x p2, .Name y p3] kk tpos] X.env)).any (·.1) = false := by rfl)
    (he2 : starEach [.Tuple [.Name x p2, .Name y p3] kk tpos] X.env = (false, eval (.Tuple [.Name x p2, .Name y p3] kk tpos) X.env) :: starEach [] X.env := by rfl)
    (he3 : starEach [.Name x p2, .Name y p3] X.env = (false, eval (.Name x p2) X.env) :: starEach [.Name y p3] X.env := by rfl) (he4 : starEach [.Name y p3] X.env = (false, eval (.Name y p3) X.env) :: starEach [] X.env := by rfl) :
    DE X c (.Call (.Name "isinstance" p) [a, .Tuple [.Name x p2, .Name y p3] kk tpos] [] pos) (eIsi2 T U f) := by
  refine pe_imp (pe_callB call_isiT hg hm hv (pa_cons ha (pa_cons (pe_tup (pa_cons (pe_bltn (v := .ty T) hg2 hm2 hv2 rfl hn2 hdb2) (pa_cons (pe_bltn (v := .ty U) hg3 hm3 hv3 rfl hn3 hdb3) pa_nil he4) he3)) pa_nil he2) he) (by decide) (by decide) he hpl) fun σ H Q ⟨S, ρ, rp, q⟩ => ?_
  refine ⟨S, ρ, rp, Go.seq q fun S1 H1 x dx o1 hx q1 => ⟨by show 2 ≤ sizeLine; rw [sizeLine_eq]; omega, fun p hp => ?_⟩⟩
  exact ⟨x, p, [.ty T, .ty U], _, _, _, rfl, upd_same, .cons (.ty T) (.cons (.ty U) .nil), tyX_of (fun b u e => by rw [upd_ne (ne_of_none (o1.sub _ _ e) hp)]; exact o1.sub _ _ e) hx, kit2 (hk dx) (hk3 dx),
    q1 (upd S1 p (.tup [.ty T, .ty U])) (upd H1 p (.tup [.ty T, .ty U])) (.bl _) (Old.new o1.sub hp) (.bl _)⟩
end
@[simp] theorem eIsi2_ap (T U : String) (f : En → Rs PyData) (ρ : En) : eIsi2 T U f ρ = (f ρ).bind fun x => .ok (.bool (isTy T x || isTy U x)) := Eq.trans rfl rfl
end D2

namespace D2
open PySem PySem.Spec PyProof.Rows L2
open PySem.W (EachIs alike alikeAll dataLe AllAlike Sortable dataLt ge_data)
/-! ### x >= y of texts -/
def opGeT : PyData → PyData → Option PyData
  | .int i, .int j => some (.bool (decide (j ≤ i)))
  | .str i, .str j => some (.bool (!decide (i.cps.toList < j.cps.toList)))
  | _, _ => none
def rGeS : R2 := fun x y H Q => ∃ i j, x = .str i ∧ y = .str j ∧ Q (.bl (!decide (i.cps.toList < j.cps.toList))) H
section
variable {X : Cx} {K : PySem.W.Frag}
theorem op_ge_str (hu : X.A.units + 65 < cLine) : OpR X (compareOp .GtE) rGeS := by
  intro pins s σ H x y v u Q I rx ry h
  obtain ⟨i, j, rfl, rfl, q⟩ := h
  obtain ⟨t, rfl⟩ := rx
  obtain ⟨t', rfl⟩ := ry
  refine ge_data (.str i t) (.str j t') rfl (by intro z; cases z) (by show X.A.units + min 0 0 < cLine; omega) ⟨.bl _, H, I, rfl, ?_⟩
  rw [PySem.W.dataLt_str]
  exact q
def rGeD : R2 := fun x y H Q => (rI0 (fun i j => .bl (decide (j ≤ i))) x y H Q) ∨ rGeS x y H Q
theorem or_geT (hu : X.A.units + 65 < cLine) : OpR X (compareOp .GtE) rGeD := OpR.or op_ge (op_ge_str hu)
theorem os_geT : OpS K rGeD opGeT := by
  intro S H x y dx dy Q hs hx hy d e q
  unfold opGeT at e
  split at e <;> cases e <;> cases hx <;> cases hy
  · exact .inl ⟨_, _, rfl, rfl, q S H _ (.refl hs) (.bl _)⟩
  · exact .inr ⟨_, _, rfl, rfl, q S H _ (.refl hs) (.bl _)⟩
end
@[simp] theorem opGeT_int (i j : Int) : opGeT (.int i) (.int j) = some (.bool (decide (j ≤ i))) := Eq.trans rfl rfl
@[simp] theorem opGeT_T (a b : List Nat) : opGeT (.str (S a)) (.str (S b)) = some (.bool (!decide (a < b))) := by
  show some (PyData.bool (!decide ((S a).cps.toList < (S b).cps.toList))) = _
  simp
@[simp high] theorem opLe_T (a b : List Nat) : opLe (.str (S a)) (.str (S b)) = some (.bool (!decide (b < a))) := by
  show some (PyData.bool (!decide ((S b).cps.toList < (S a).cps.toList))) = _
  simp
@[simp high] theorem opLt_T (a b : List Nat) : opLt (.str (S a)) (.str (S b)) = some (.bool (decide (a < b))) := by
  show some (PyData.bool (decide ((S a).cps.toList < (S b).cps.toList))) = _
  simp
/-! ### data of a small size -/
def Sm : Nat → PyData → Prop
  | _, .none => True
  | _, .bool _ => True
  | _, .int _ => True
  | _, .str x => PyData.strOk x = true ∧ x.length ≤ 100000
  | n + 1, .tuple xs => xs.length ≤ 100000 ∧ ∀ x ∈ xs, Sm n x
  | n + 1, .list xs => xs.length ≤ 100000 ∧ ∀ x ∈ xs, Sm n x
  | _, _ => False
theorem canLayAll_of : ∀ {xs : List PyData}, (∀ x ∈ xs, x.canLay0 = true) → PyData.canLayAll0 xs = true
  | [], _ => by simp [PyData.canLayAll0]
  | x :: xs, h => by
    rw [PyData.canLayAll0, Bool.and_eq_true]
    exact ⟨h x List.mem_cons_self, canLayAll_of fun y hy => h y (List.mem_cons_of_mem _ hy)⟩
theorem depthAll_of {n : Nat} : ∀ {xs : List PyData}, (∀ x ∈ xs, x.depth ≤ n) → PyData.depthAll xs ≤ n
  | [], _ => by simp [PyData.depthAll]
  | x :: xs, h => by
    rw [PyData.depthAll]
    have h1 := h x List.mem_cons_self
    have h2 := depthAll_of fun y hy => h y (List.mem_cons_of_mem x hy)
    omega
theorem Sm.lay : ∀ {n : Nat} {x : PyData}, Sm n x → x.canLay0 = true ∧ x.depth ≤ n
  | _, .none, _ => by simp [PyData.canLay0, PyData.depth]
  | _, .bool _, _ => by simp [PyData.canLay0, PyData.depth]
  | _, .int _, _ => by simp [PyData.canLay0, PyData.depth]
  | 0, .str _, h => by simp [PyData.canLay0, PyData.depth]; exact h.1
  | n + 1, .str _, h => by simp [PyData.canLay0, PyData.depth]; exact h.1
  | n + 1, .tuple xs, h => by
    rw [PyData.canLay0, PyData.depth]
    exact ⟨canLayAll_of fun x hx => (Sm.lay (h.2 x hx)).1, by have := depthAll_of fun x hx => (Sm.lay (h.2 x hx)).2; omega⟩
  | n + 1, .list xs, h => by
    rw [PyData.canLay0, PyData.depth]
    exact ⟨canLayAll_of fun x hx => (Sm.lay (h.2 x hx)).1, by have := depthAll_of fun x hx => (Sm.lay (h.2 x hx)).2; omega⟩
  | 0, .tuple xs, h => h.elim
  | 0, .list xs, h => h.elim
  | 0, .dict _, h => h.elim
  | n + 1, .dict _, h => h.elim
theorem Sm.shaped {n : Nat} {x : PyData} (h : Sm n x) (hn : n ≤ 60 := by decide) : SeqAt.shaped x = true := by
  unfold SeqAt.shaped
  rw [Bool.and_eq_true, decide_eq_true_eq]
  exact ⟨h.lay.1, Nat.le_trans h.lay.2 (by omega)⟩
theorem Sm.up : ∀ {n m : Nat} {x : PyData}, Sm n x → n ≤ m → Sm m x
  | _, _, .none, _, _ => by simp [Sm]
  | _, _, .bool _, _, _ => by simp [Sm]
  | _, _, .int _, _, _ => by simp [Sm]
  | n, m, .str _, h, _ => by cases n <;> cases m <;> exact h
  | n + 1, m + 1, .tuple xs, h, hm => ⟨h.1, fun x hx => Sm.up (h.2 x hx) (by omega)⟩
  | n + 1, m + 1, .list xs, h, hm => ⟨h.1, fun x hx => Sm.up (h.2 x hx) (by omega)⟩
  | n + 1, 0, .tuple xs, h, hm => absurd hm (by omega)
  | n + 1, 0, .list xs, h, hm => absurd hm (by omega)
  | 0, _, .tuple xs, h, _ => h.elim
  | 0, _, .list xs, h, _ => h.elim
  | 0, _, .dict _, h, _ => h.elim
  | n + 1, _, .dict _, h, _ => h.elim
end D2

namespace D2
open PySem PySem.Spec PyProof.Rows L2
open PySem.W (EachIs alike alikeAll dataLe AllAlike Sortable dataLt)
/-! ### dicts as functions -/
section
variable {kvs : KD} {k j : Key} {d : PyData}
theorem getA_nil : getA [] k = none := rfl
theorem getA_cons (p : Key × PyData) : getA (p :: kvs) k = if p.1 = k then some p.2 else getA kvs k := by
  by_cases h : p.1 = k <;> simp [getA, List.find?_cons, h]
theorem getA_app (ps qs : KD) : getA (ps ++ qs) k = (getA ps k).or (getA qs k) := by
  induction ps with
  | nil => rfl
  | cons p ps ih =>
    rw [List.cons_append, getA_cons, getA_cons, ih]
    by_cases h : p.1 = k <;> simp [h]
theorem getA_mem : ∀ {kvs : KD}, getA kvs k = some d → (k, d) ∈ kvs
  | [], h => by cases h
  | p :: kvs, h => by
    rw [getA_cons] at h
    by_cases c : p.1 = k
    · rw [if_pos c] at h
      cases h
      rw [← c]
      exact List.mem_cons_self
    · rw [if_neg c] at h
      exact List.mem_cons_of_mem _ (getA_mem h)
theorem getA_any : ∀ kvs : KD, (kvs.any fun p => decide (p.1 = k)) = (getA kvs k).isSome
  | [] => rfl
  | p :: kvs => by
    rw [List.any_cons, getA_cons, getA_any kvs]
    by_cases c : p.1 = k <;> simp [c]
theorem getA_isSome {kvs : KD} : (getA kvs k).isSome = true ↔ k ∈ kvs.map (·.1) := by
  rw [← getA_any, List.any_eq_true, List.mem_map]
  simp
theorem getA_of_mem : ∀ {kvs : KD}, (kvs.map (·.1)).Nodup → (k, d) ∈ kvs → getA kvs k = some d
  | [], _, h => by cases h
  | p :: kvs, hn, h => by
    rw [List.map_cons, List.nodup_cons] at hn
    rw [getA_cons]
    rcases List.mem_cons.mp h with q | q
    · subst q
      simp
    · have : p.1 ≠ k := fun z => hn.1 (by rw [z]; exact List.mem_map.mpr ⟨(k, d), q, rfl⟩)
      rw [if_neg this]
      exact getA_of_mem hn.2 q
theorem getA_map (f : PyData) : ∀ kvs : KD, getA (kvs.map fun p => if p.1 = k then (p.1, f) else p) j = if j = k then (getA kvs j).map fun _ => f else getA kvs j
  | [] => by simp [getA]
  | p :: kvs => by
    rw [List.map_cons, getA_cons, getA_cons, getA_map f kvs]
    by_cases c : p.1 = k
    · by_cases e : k = j
      · subst e; simp [c]
      · have e' : ¬ j = k := fun z => e z.symm
        simp [c, e, e']
    · by_cases e : p.1 = j
      · have e' : ¬ j = k := fun z => c (e.trans z)
        simp [c, e, e']
      · simp [c, e]
theorem getA_put : getA (putA kvs k d) j = if j = k then some d else getA kvs j := by
  unfold putA
  by_cases h : (kvs.any fun p => decide (p.1 = k)) = true
  · rw [if_pos h, getA_map]
    by_cases e : j = k
    · subst e
      rw [getA_any] at h
      obtain ⟨x, hx⟩ := Option.isSome_iff_exists.mp h
      simp [hx]
    · simp [e]
  · rw [if_neg h, getA_app]
    rw [getA_any] at h
    by_cases e : j = k
    · subst e
      have : getA kvs j = none := by cases q : getA kvs j <;> simp_all
      simp [this, getA_cons]
    · have e' : ¬ k = j := fun z => e z.symm
      simp [getA_cons, e, e', getA_nil]
theorem putA_keys : (putA kvs k d).map (·.1) = if (getA kvs k).isSome = true then kvs.map (·.1) else kvs.map (·.1) ++ [k] := by
  unfold putA
  rw [getA_any]
  by_cases h : (getA kvs k).isSome = true
  · rw [if_pos h, if_pos h, List.map_map]
    refine List.map_congr_left fun p _ => ?_
    show (if p.1 = k then (p.1, d) else p).1 = p.1
    split <;> rfl
  · rw [if_neg h, if_neg h]
    simp
theorem putA_nodup (h : (kvs.map (·.1)).Nodup) : ((putA kvs k d).map (·.1)).Nodup := by
  rw [putA_keys]
  by_cases c : (getA kvs k).isSome = true
  · rw [if_pos c]; exact h
  · rw [if_neg c, List.nodup_append]
    exact ⟨h, by simp, fun a ha b hb => by
      rw [List.mem_singleton.mp hb]
      exact fun z => c (getA_isSome.mpr (z ▸ ha))⟩
theorem putA_len : (putA kvs k d).length ≤ kvs.length + 1 := by
  have := congrArg List.length (putA_keys (kvs := kvs) (k := k) (d := d))
  rw [List.length_map] at this
  rw [this]
  by_cases c : (getA kvs k).isSome = true
  · rw [if_pos c]; simp
  · rw [if_neg c]; simp
end
/-! keys that are texts, sorted -/
abbrev sk (l : List Nat) : Key := .inr (S l)
theorem sk_inj {a b : List Nat} : sk a = sk b ↔ a = b := by
  constructor
  · intro h
    exact S_inj.mp (Sum.inr.inj h)
  · rintro rfl; rfl
def sortL (ls : List (List Nat)) : List (List Nat) := ls.mergeSort fun a b => !decide (b < a)
theorem sortK_sk (ls : List (List Nat)) : sortK (ls.map sk) = (sortL ls).map sk := by
  unfold sortK sortL
  rw [List.map_mergeSort]
  intro a _ b _
  rw [PySem.W.dataLe_eq]
  show _ = !dataLt (.str (S b)) (.str (S a))
  rw [PySem.W.dataLt_str]
  simp
theorem sortL_perm (ls : List (List Nat)) : (sortL ls).Perm ls := List.mergeSort_perm _ _
theorem sortL_mem {ls : List (List Nat)} {l : List Nat} : l ∈ sortL ls ↔ l ∈ ls := (sortL_perm ls).mem_iff
theorem sortL_pw (ls : List (List Nat)) : (sortL ls).Pairwise fun a b => ¬ b < a := by
  have h := List.pairwise_mergeSort (le := fun (a b : List Nat) => !decide (b < a)) (fun a b c h1 h2 => by
    simp only [Bool.not_eq_true', decide_eq_false_iff_not] at h1 h2 ⊢
    exact List.not_lt.mpr (List.le_trans (List.not_lt.mp h1) (List.not_lt.mp h2))) (fun a b => by
    simp only [Bool.or_eq_true, Bool.not_eq_true', decide_eq_false_iff_not]
    by_cases c : b < a
    · exact .inr fun z => List.lt_irrefl _ (List.lt_trans c z)
    · exact .inl c) ls
  refine h.imp fun {a b} hab => ?_
  simpa using hab
theorem lt_tri : ∀ a b : List Nat, a < b ∨ a = b ∨ b < a
  | [], [] => .inr (.inl rfl)
  | [], y :: b => .inl (List.nil_lt_cons y b)
  | x :: a, [] => .inr (.inr (List.nil_lt_cons x a))
  | x :: a, y :: b => by
    rw [List.cons_lt_cons_iff, List.cons_lt_cons_iff]
    rcases Nat.lt_trichotomy x y with h | h | h
    · exact .inl (.inl h)
    · subst h
      rcases lt_tri a b with q | q | q
      · exact .inl (.inr ⟨rfl, q⟩)
      · subst q; exact .inr (.inl rfl)
      · exact .inr (.inr (.inr ⟨rfl, q⟩))
    · exact .inr (.inr (.inl h))
theorem lt_of_not {a b : List Nat} (h : ¬ b < a) (hn : a ≠ b) : a < b := by
  rcases lt_tri a b with q | q | q
  · exact q
  · exact absurd q hn
  · exact absurd q h
theorem sortL_inc {ls : List (List Nat)} (h : ls.Nodup) : (sortL ls).Pairwise (· < ·) := by
  have h1 := sortL_pw ls
  have h2 : (sortL ls).Nodup := (sortL_perm ls).nodup_iff.mpr h
  have := List.pairwise_and_iff.mpr ⟨h1, h2⟩
  exact this.imp fun {a b} q => lt_of_not q.1 q.2
end D2
namespace D2
open PySem PySem.Spec PyProof.Rows L2
theorem putA_mem {kvs : KD} {k : Key} {d : PyData} {p : Key × PyData} (h : p ∈ putA kvs k d) : p = (k, d) ∨ p ∈ kvs := by
  unfold putA at h
  by_cases c : (kvs.any fun p => decide (p.1 = k)) = true
  · rw [if_pos c] at h
    obtain ⟨q, hq, e⟩ := List.mem_map.mp h
    by_cases z : q.1 = k
    · rw [if_pos z] at e
      left
      rw [← e, z]
    · rw [if_neg z] at e
      right
      rw [← e]
      exact hq
  · rw [if_neg c] at h
    rcases List.mem_append.mp h with q | q
    · exact .inr q
    · exact .inl (List.mem_singleton.mp q)
theorem sortOk_T {ls : List (List Nat)} (hl : ls.length ≤ 16777216) (h : ∀ l ∈ ls, ∀ c ∈ l, c < 1114112) : sortOk (ls.map T) := by
  refine ⟨by simpa using hl, ?_, ?_, ?_, ?_⟩
  · rw [lay0All, List.all_map, List.all_eq_true]
    intro l hm
    simpa [PyData.canLay0, PyData.strOk] using h l hm
  · rw [alikeA, List.all_map, List.all_eq_true]
    intro l _
    simp [List.all_map, PySem.W.alike]
  · rw [sortA, Bool.or_eq_true]
    right
    rw [List.all_map, List.all_eq_true]
    intro l _
    rfl
  · rw [List.all_map, List.all_eq_true]
    intro l _
    simp [PyData.depth]
end D2

namespace D2
open PySem PySem.Spec PyProof.Rows L2
/-! ### text * int -/
def opMulT : PyData → PyData → Option PyData
  | .str x, .int n => if 2 ≤ n ∧ n ≤ 1000 ∧ x.length ≤ 1000 then some (.str (Txt.mul x n)) else none
  | _, _ => none
def rMulS : R2 := fun x y H Q => ∃ i n, x = .str i ∧ y = .int n ∧ 2 ≤ n ∧ n ≤ 1000 ∧ i.length ≤ 1000 ∧ Q (.str (Txt.mul i n)) H
theorem op_mulS {X : Cx} : OpR X (binaryOp .Mult) rMulS := by
  intro pins s σ H x y v u Q I rx ry h
  obtain ⟨i, n, rfl, rfl, h1, h2, h3, q⟩ := h
  obtain ⟨t, rfl⟩ := rx
  obtain ⟨t', rfl⟩ := ry
  refine SB.mul ⟨?_, fun _ _ => ?_, fun _ _ => ?_⟩ fun t k => ⟨.str _, H, I.tok k, ⟨t, rfl⟩, q⟩
  · rw [Bool.or_eq_false_iff, decide_eq_false_iff_not, decide_eq_false_iff_not]
    omega
  · have : (1000 : Int) ≤ (2 ^ 63 - 1) / n := (Int.le_ediv_iff_mul_le (by omega)).mpr (by omega)
    omega
  · have : i.length * n.toNat ≤ 1000 * 1000 := Nat.mul_le_mul h3 (by omega)
    have z : ¬ (sizeLine < i.length * n.toNat) := by rw [sizeLine_eq]; omega
    unfold Builtin.Str.tooLong
    simp [z]
theorem os_mulS {K : PySem.W.Frag} : OpS K rMulS opMulT := by
  intro S H x y dx dy Q hs hx hy d e q
  unfold opMulT at e
  split at e
  · split at e
    · rename_i h
      cases e
      cases hx
      cases hy
      exact ⟨_, _, rfl, rfl, h.1, h.2.1, h.2.2, q S H _ (.refl hs) (.str _)⟩
    · cases e
  · cases e
@[simp] theorem opMulT_T (l : List Nat) (n : Int) : opMulT (.str (S l)) (.int n) = if 2 ≤ n ∧ n ≤ 1000 ∧ l.length ≤ 1000 then some (.str (Txt.mul (S l) n)) else none := by
  show (if 2 ≤ n ∧ n ≤ 1000 ∧ (S l).length ≤ 1000 then some (PyData.str (Txt.mul (S l) n)) else none) = _
  rw [S_len]
end D2

namespace D2
open PySem PySem.Spec PyProof.Rows L2
open PySem.W (EachIs alike alikeAll dataLe AllAlike Sortable dataLt KeyedOut SortsAt dataKind sortVals)
/-! ### sorted(xs, key=f), f a def of the text -/
def allBut (h : Heap) (x y z : Addr) : List (Addr × Obj) := (List.range h.objs.size).filterMap fun b => if b = x ∨ b = y ∨ b = z then none else (h.get? b).map fun o => (b, o)
theorem allBut_mem {h : Heap} {x y z b : Addr} {o : Obj} (e : h.get? b = some o) (h1 : b ≠ x) (h2 : b ≠ y) (h3 : b ≠ z) : (b, o) ∈ allBut h x y z := by
  refine List.mem_filterMap.mpr ⟨b, List.mem_range.mpr (Heap.lt_size e), ?_⟩
  rw [if_neg (by simp [h1, h2, h3]), e]
  rfl
theorem allBut_of {h : Heap} {x y z : Addr} {p : Addr × Obj} (hp : p ∈ allBut h x y z) : h.get? p.1 = some p.2 ∧ p.1 ≠ x ∧ p.1 ≠ y ∧ p.1 ≠ z := by
  obtain ⟨b, _, e⟩ := List.mem_filterMap.mp hp
  by_cases c : b = x ∨ b = y ∨ b = z
  · rw [if_pos c] at e; cases e
  · rw [if_neg c] at e
    obtain ⟨o, ho, rfl⟩ := Option.map_eq_some_iff.mp e
    simp only [not_or] at c
    exact ⟨ho, c.1, c.2.1, c.2.2⟩
theorem cx_none {hot : List Str} {mg : Str → Option Value} {P : Program} {w : World} {outer : List Env} {H : Hp} {s : Shared} {e : Value} {s' : Shared} (h : CXh hot mg P w outer H s (fun _ _ _ => False) e s') : False := by
  have h := cxh_weak h
  obtain ⟨_, _, _, _, _, _, _, _, _, _, _, _, z⟩ := h
  exact z.elim
section
variable {X : Cx} {pins : List (Addr × Obj)} {σ : St} {H S : Hp} {s : Shared} {k : Nat} {f : Addr} {fd : FuncData} {p1 : Str} {g : List PyData → Rs PyData} {hot : List Str}
/-- the key of one item -/
theorem run_key {x : V} {u : Value} {d y : PyData} {Q : VK} (F : FnOk X.prog X.w X.K X.mg X.base (CXh hot X.mg X.prog X.w) k f fd [p1] (spD X.K X.mg g)) (hr : Room (k + 2) X.A) (hb : Binds X.K fd [p1] [])
    (I : Inv X pins σ H s) (r : RelV x u) (hS : Same S H) (hx : Dq X.K S x d) (hg : g [d] = .ok y) (h : ∀ S' H' v, Old H S S' H' → Dq X.K S' v y → Q v H') :
    wpAny (model X.prog X.w) X.A.in1.in1 (call (.ref f) [u]) (EP X pins σ Q) (fun _ _ => False) s := by
  have hs : spD X.K X.mg g [x] H Q (fun _ _ _ => False) := ⟨S, [d], hS, .cons hx .nil, by rw [hg]; exact h⟩
  refine wpAny_call (codeAny_mono (F.run X.A.in1.in1 X.stack s H ⟨[u], []⟩ [u] [x] Q (fun _ _ _ => False) (hr.in1.in1) I.env0.in1.in1 (hb s [u] I.kIn rfl) (.cons r .nil) hs) fun r s' hq => ?_)
  cases r with
  | error e => exact cx_none hq
  | ok fl =>
    cases fl with
    | ret u => exact I.after hq
    | next => exact False.elim hq
    | brk => exact False.elim hq
    | cont => exact False.elim hq
end
def keyOfD (g : List PyData → Rs PyData) (d : PyData) : PyData := match g [d] with
  | .ok y => y
  | _ => .none
/-- sorted(xs, key=f) -/
def rSortKey (K : PySem.W.Frag) (f : Addr) (g : List PyData → Rs PyData) : List V → List V → Hp → VK → Prop := fun vs zs H Q => ∃ (a : Addr) (xs : List V) (ds : List PyData) (S : Hp), vs = [V.ref a] ∧ zs = [V.ref f] ∧ SqL K H a xs ∧ Same S H ∧ DqAll K S xs ds ∧
  (∀ d ∈ ds, g [d] = .ok (keyOfD g d)) ∧ sortOk (ds.map (keyOfD g)) ∧ ∀ S' H' ys p, Old H S S' H' → H' p = none → DqAll K S' ys (ds.mergeSort (dataLe false (keyOfD g))) → Q (.ref p) (upd H' p (.lst ys))
section
variable {X : Cx} {k : Nat} {f : Addr} {fd : FuncData} {p1 : Str} {g : List PyData → Rs PyData} {hot : List Str}
theorem cr_sortKey (F : FnOk X.prog X.w X.K X.mg X.base (CXh hot X.mg X.prog X.w) k f fd [p1] (spD X.K X.mg g)) (hr : Room (k + 2) X.A) (hb : Binds X.K fd [p1] []) :
    CallRK X (.builtin "sorted") [Str.ofString "key"] (rSortKey X.K f g) := by
  intro pins s σ H vs zs us ws Q I r1 r2 h
  obtain ⟨l, xs, ds, S, rfl, rfl, hs, hS, hd, hg, ok, q⟩ := h
  obtain ⟨its, rv, hl, hz⟩ := I.list hs
  obtain ⟨u, rfl, ru⟩ := vals1 r1
  obtain rfl : u = Value.ref l := ru
  obtain ⟨u2, rfl, ru2⟩ := vals1 r2
  obtain rfl : u2 = Value.ref f := ru2
  have hzi : its.length ≤ sizeLine := by rw [← rv.length]; exact hz
  have hid : its.length = ds.length := by rw [← rv.length]; exact DqAll.length hd
  refine PySem.W.sorted_of_sort hl.isList hzi (ksk_s1 _ _) (fun _ => ksk_l1 _ _) fun E' => ?_
  show wpAny (model X.prog X.w) X.A.in1.in1 (Builtin.«list.sort» ⟨[.ref (s.heap.objs.size + 1)], [(Str.ofString "key", .ref f)]⟩) _ _ _
  rw [ksk_t1]
  have ho := PySem.W.copyHeap_at s.heap its
  obtain ⟨a, ea⟩ : ∃ a, a = s.heap.objs.size + 1 := ⟨_, rfl⟩
  rw [← ea] at ho ⊢
  have keep0 : ∀ b o, s.heap.get? b = some o → (PySem.W.copyHeap s.heap its).get? b = some o := fun _ _ => PySem.W.copyHeap_old
  have hla : s.heap.objs.size ≤ a := by rw [ea]; exact Nat.le_succ _
  have ne_a : ∀ b o, s.heap.get? b = some o → b ≠ a := fun b o e => Nat.ne_of_lt (Nat.lt_of_lt_of_le (Heap.lt_size e) hla)
  generalize PySem.W.copyHeap s.heap its = h1 at *
  obtain ⟨e1, ho1⟩ : ∃ e1, (h1.update a (Obj.mapSeq fun _ => (#[] : Array Value))).get? a = some (seqObj "list" #[] e1) := ⟨_, get?_update_seq ho fun _ => #[]⟩
  have keep1 : ∀ b o, s.heap.get? b = some o → (h1.update a (Obj.mapSeq fun _ => (#[] : Array Value))).get? b = some o := fun b o e => ((Heap.SameBut.update h1 a (Obj.mapSeq fun _ => (#[] : Array Value))).2 b (ne_a b o e)).trans (keep0 b o e)
  have ha1 : a < (h1.update a (Obj.mapSeq fun _ => (#[] : Array Value))).objs.size := Heap.lt_size ho1
  unfold ksk_tree
  refine wpAny_bind (listItems_at ho rfl ?_)
  refine wpAny_bind (listUpdate_at ho rfl ?_ (by rw [List.size_toArray]; exact hzi) (Nat.zero_le _))
  refine wpAny_bind (seqEpoch_at ho1 rfl ?_)
  refine wpAny_bind (wpAny_newTuple ?_ (by show its.length ≤ _; exact hzi))
  refine wpAny_bind (wpAny_newList ?_ (Nat.zero_le _))
  refine wpAny_holding ?_
  show wpAny (model X.prog X.w) X.A.in1.in1 (ksk_rest a (.ref f) false its.toArray e1 (.ref ((h1.update a (Obj.mapSeq fun _ => (#[] : Array Value))).push (seqObj "tuple" its.toArray 0)).objs.size)) _ _ { s with heap := ((h1.update a (Obj.mapSeq fun _ => (#[] : Array Value))).push (seqObj "tuple" its.toArray 0)).push (seqObj "list" #[] 0) }
  generalize h1.update a (Obj.mapSeq fun _ => (#[] : Array Value)) = h2 at *
  have I1 : Inv X pins σ (upd H a (.lst [])) { s with heap := h2.push (seqObj "tuple" its.toArray 0), toks := s.toks } :=
    I.laid (a := a) (o := .lst []) (t' := s.toks) (fun b o e => Heap.get?_push_of_some _ (keep1 b o e)) hla ⟨Nat.zero_le _, [], e1, .nil, Heap.get?_push_of_some _ ho1⟩
  have hob3 : (h2.push (seqObj "tuple" its.toArray 0)).get? a = some (seqObj "list" #[] e1) := Heap.get?_push_of_some _ ho1
  have hk3 : (h2.push (seqObj "tuple" its.toArray 0)).objs.size = h2.objs.size + 1 := size_push' _ _
  generalize h2.push (seqObj "tuple" its.toArray 0) = h3 at *
  obtain ⟨kS, ek⟩ : ∃ kS, kS = h3.objs.size := ⟨_, rfl⟩
  rw [← ek]
  have I2 : Inv X pins σ (upd (upd H a (.lst [])) kS (.lst [])) { s with heap := h3.push (seqObj "list" #[] 0), toks := s.toks } :=
    I1.laid (a := kS) (o := .lst []) (t' := s.toks) (fun b o e => Heap.get?_push_of_some _ e) (by rw [ek]; exact Nat.le_refl _) ⟨Nat.zero_le _, [], 0, .nil, by rw [ek]; exact Heap.get?_push_size _ rfl⟩
  have hak : a < kS := by rw [ek, hk3]; exact Nat.lt_succ_of_lt ha1
  have hne : kS ≠ a := Nat.ne_of_gt hak
  have hlk : s.heap.objs.size ≤ kS := Nat.le_trans hla (Nat.le_of_lt hak)
  have hHa : H a = none := I.hok.fresh hla
  have hHk : H kS = none := I.hok.fresh hlk
  have fpa : FpOk X pins H a := I.fpOk hla hHa
  have fpk : FpOk X pins H kS := I.fpOk hlk hHk
  have ha4 : (upd (upd H a (.lst [])) kS (.lst [])) a = some (.lst []) := by rw [upd_ne hne.symm, upd_same]
  have nfz := I2.nofrz ha4 trivial
  have hob : (h3.push (seqObj "list" #[] 0)).get? a = some (seqObj "list" #[] e1) := Heap.get?_push_of_some _ hob3
  obtain ⟨od, I3⟩ := I2.lock ha4 trivial
  obtain rfl : od = seqObj "list" #[] e1 := Option.some.inj ((I3.hok a _ upd_same).1.symm.trans hob)
  have s12 : Same H (upd (upd H a (.lst [])) kS (.lst [])) := fun b o e => by rw [upd_ne (ne_of_none e hHk), upd_ne (ne_of_none e hHa)]; exact e
  unfold ksk_rest
  refine wpAny_bind (wpAny_rule ?_)
  first
    | rw [List.forIn_toArray]
    | (rw [← Array.forIn_toList]; simp only [List.toList_toArray])
    | rw [← Array.forIn_toList]
  refine wpAny_bind (ksk_fold (fun i s' => ∃ Hi Si kvs, Inv X pins σ Hi s' ∧ Old H S Si (fun b => if b = a ∨ b = kS then none else Hi b) ∧ Si a = none ∧ Si kS = none ∧ Hi a = some (.frz (seqObj "list" #[] e1) (.lst [])) ∧ Hi kS = some (.lst kvs) ∧ DqAll X.K Si kvs ((ds.map (keyOfD g)).take i)) its 0 _ ?init ?step ?done)
  case init =>
    refine ⟨_, S, [], I3, ⟨fun b o e => ?_, fun b o e => ?_, .refl _, fun _ _ _ => rfl⟩, hS.free hHa, hS.free hHk, upd_same, by rw [upd_ne hne, upd_same], by simpa using DqAll.nil⟩
    · rw [if_neg (by rintro (z | z) <;> subst z <;> simp_all), upd_ne (ne_of_none e hHa)]
      exact s12 b o e
    · have e' := hS b o e
      rw [if_neg (by rintro (z | z) <;> subst z <;> simp_all), upd_ne (ne_of_none e' hHa)]
      exact s12 b o e'
  case step =>
    rintro j x s' hx ⟨Hi, Si, kvs, Ii, oo, hSa, hSk, hia, hik, hkd⟩
    simp only [Nat.zero_add] at hkd ⊢
    have hj : j < its.length := (List.getElem?_eq_some_iff.mp hx).1
    have hjd : j < ds.length := by rw [← hid]; exact hj
    obtain ⟨xv, hxv, hdq⟩ := DqAll.get' hd (List.getElem?_eq_getElem hjd)
    obtain ⟨u, hu, rxu⟩ := rv.get hxv
    obtain rfl : u = x := Option.some.inj (hu.symm.trans hx)
    have sSi : Same Si Hi := fun b o e => by
      have := oo.sub b o e
      by_cases c : b = a ∨ b = kS
      · rw [if_pos c] at this; cases this
      · rw [if_neg c] at this; exact this
    have hHi : ∀ b o, H b = some o → Hi b = some o := fun b o e => by
      have := oo.ext b o e
      by_cases c : b = a ∨ b = kS
      · rw [if_pos c] at this; cases this
      · rw [if_neg c] at this; exact this
    refine wpAny_bind (wpAny_attempt (wpAny_mono (run_key (y := keyOfD g ds[j]) (Q := fun v H' => ∃ S', Old Hi Si S' H' ∧ Dq X.K S' v (keyOfD g ds[j])) F hr hb Ii rxu sSi (dp_mono oo.s0 _ _ hdq) (hg _ (List.getElem_mem hjd)) fun S' H' v o hv => ⟨S', o, hv⟩) (fun v s'' he => ?_) fun _ _ hF => hF.elim))
    obtain ⟨yv, H', I4, ry, S', o4, hy⟩ := he
    try dsimp only
    have hk4 := o4.ext _ _ hik
    have ha5 := o4.ext _ _ hia
    obtain ⟨z4, kits, n4, rk, hl4, e4⟩ := I4.lstM hk4
    have hkl : kvs.length ≤ j := by
      have := DqAll.length hkd
      rw [List.length_take, List.length_map] at this
      omega
    refine wpAny_bind (listUpdate_at e4 rfl ?_ (by rw [List.size_toArray, ← hl4]; exact z4) (by rw [Array.size_push, List.size_toArray, ← hl4]; exact Nat.succ_le_succ z4))
    have I5 := I4.lset (its' := kits ++ [v]) (f := fun x => x.push v) (t' := s''.toks) hk4 e4 (by simp) (rk.append (.cons ry .nil)) (by rw [List.length_append, List.length_singleton]; omega)
    refine wpAny_pure ⟨rfl, upd H' kS (.lst (kvs ++ [yv])), S', kvs ++ [yv], I5, ⟨fun b o e => ?_, fun b o e => ?_, oo.s0.trans o4.s0, fun b o e => ?_⟩, ?_, ?_, ?_, upd_same, ?_⟩
    · have n1 : b ≠ a := ne_of_none e hHa
      have n2 : b ≠ kS := ne_of_none e hHk
      rw [if_neg (by simp [n1, n2]), upd_ne n2]
      exact o4.ext _ _ (hHi b o e)
    · have n1 : b ≠ a := fun z => by
        subst z
        rw [o4.old _ _ hia, hSa] at e
        cases e
      have n2 : b ≠ kS := fun z => by
        subst z
        rw [o4.old _ _ hik, hSk] at e
        cases e
      rw [if_neg (by simp [n1, n2]), upd_ne n2]
      exact o4.sub b o e
    · rw [o4.old b o (hHi b o e), oo.old b o e]
    · rw [o4.old _ _ hia, hSa]
    · rw [o4.old _ _ hik, hSk]
    · rw [upd_ne hne.symm]; exact ha5
    · rw [List.take_add_one, List.getElem?_map, List.getElem?_eq_getElem hjd]
      exact DqAll.append (dps_mono o4.s0 _ _ hkd) (DqAll.one hy)
  case done =>
    rintro s' ⟨Hi, Si, kvs, Ii, oo, hSa, hSk, hia, hik, hkd⟩
    have hfull : (ds.map (keyOfD g)).take (0 + its.length) = ds.map (keyOfD g) := List.take_of_length_le (by rw [List.length_map]; omega)
    rw [hfull] at hkd
    obtain ⟨z4, kits, n4, rk, hl4, e4⟩ := Ii.lstM hik
    have e5 : s'.heap.get? a = some (seqObj "list" #[] e1) := (Ii.hok a _ hia).1
    have hkits : kits.length = its.length := by rw [← hl4, DqAll.length hkd, List.length_map, hid]
    refine wpAny_bind (listItems_at e4 rfl ?_)
    obtain ⟨m, hm, _⟩ := Ii.loc
    have sSi : Same Si Hi := fun b o e => by
      have := oo.sub b o e
      by_cases c : b = a ∨ b = kS
      · rw [if_pos c] at this; cases this
      · rw [if_neg c] at this; exact this
    have ek2 : EachIs (fun v k => ∃ as, Reads s'.heap v k as) kits (ds.map (keyOfD g)) :=
      (PySem.W.each_mem (dqs_each rk hkd)).mono fun u d ⟨⟨v, r, hv⟩, hm2⟩ => Dp.reads Ii d v u (dq_dp _ _ (dp_mono sSi _ _ hv) (List.all_eq_true.mp ok.2.1 d hm2)) r
    have un := hr.un
    have hL1 : X.env.locals ≠ kS := fpk.2.1.symm
    have hL2 : X.env.locals ≠ a := fpa.2.1.symm
    refine PySem.W.key_end (κ := dataKind s'.heap (ds.map (keyOfD g))) (h₀ := { s'.heap with objs := #[] }) (L := X.env.locals) (m := m) (news := allBut s'.heap X.env.locals kS a) (vs := its) (e := n4) ⟨hm, fun b o q => absurd (Heap.lt_size q) (Nat.not_lt_zero _), Nat.zero_le _⟩ (fun p hp => ?_) hne (fun p hp => (allBut_of hp).2.2.1) (fun p hp => (allBut_of hp).2.2.2)
      (SortsAt.data (s := s') (by simpa using ek2) (alikeA_all ok.2.2.1) (sortA_ok ok.2.2.2.1) fun d hd2 => ?_) (by rw [List.size_toArray]; exact hkits) hzi fun h' tk c F' N' => ?_
    · have h0 : ({ s'.heap with objs := #[] } : Heap).get? p.1 = none := Heap.get?_none_of_le (Nat.zero_le _)
      rcases List.mem_append.mp hp with q | q
      · exact ⟨(allBut_of q).1, (allBut_of q).2.1, h0⟩
      · rcases List.mem_cons.mp q with rfl | q
        · exact ⟨e4, hL1.symm, h0⟩
        · rw [List.mem_singleton.mp q]
          exact ⟨e5, hL2.symm, Heap.get?_none_of_le (Nat.zero_le _)⟩
    · have := of_decide_eq_true (List.all_eq_true.mp ok.2.2.2.2 d hd2)
      show X.A.units + 1 + 1 + d.depth < cLine
      omega
    · have kp : ∀ b o, b ≠ X.env.locals → b ≠ kS → b ≠ a → s'.heap.get? b = some o → h'.get? b = some o := fun b o x1 x2 x3 e => (N' (b, o) (List.mem_cons_of_mem _ (allBut_mem e x1 x2 x3))).1
      have ko : KeyedOut false (ds.map (keyOfD g)) its (sortVals (dataKind s'.heap (ds.map (keyOfD g))) false kits its) := ⟨s'.heap, kits, alikeA_all ok.2.2.1, rfl, ek2⟩
      have eo := PySem.W.keyedOut_each (R := fun u d => ∃ v, RelV v u ∧ Dq X.K S v d) (keyOfD g) ko (dqs_each rv hd)
      have oa : h'.get? a = some (seqObj "list" (sortVals (dataKind s'.heap (ds.map (keyOfD g))) false kits its).toArray c) := (N' (a, _) List.mem_cons_self).1
      have olen : (sortVals (dataKind s'.heap (ds.map (keyOfD g))) false kits its).length = its.length := PySem.W.sortVals_length false hkits
      generalize sortVals (dataKind s'.heap (ds.map (keyOfD g))) false kits its = out at *
      obtain ⟨ys, rys, hys⟩ := each_back (H := H) eo
      have Iu := Ii.unlock hia nfz
      have hHi : ∀ b o, H b = some o → Hi b = some o := fun b o e => by
        have := oo.ext b o e
        by_cases c : b = a ∨ b = kS
        · rw [if_pos c] at this; cases this
        · rw [if_neg c] at this; exact this
      have Iend := Iu.step (H' := upd (fun b => if b = a ∨ b = kS then none else Hi b) a (.lst ys)) (h' := h') (g' := s'.gens) (d' := s'.drawn) (t' := tk) (ch := [a, kS]) (fun b hb => ?_) (fun b o x1 _ x3 e _ => ?_) (fun b o x1 _ x3 e _ => ⟨o.slots, ?_⟩) (fun b o x3 e q0 => ?_) (fun b o x3 e => ?_)
        (fun b xs q0 => ?_) (fun b o u q0 => ?_) (fun b ps q0 => ⟨#[], ?_⟩) (fun m' hm' => ?_) (fun b u q0 => ?_) Iu.bare
      · refine ⟨rfl, .ref a, _, Iend, rfl, ?_⟩
        refine q Si _ ys a oo (if_pos (.inl rfl)) (dps_mono oo.s0 _ _ (paired_dqs hys))
      · rcases List.mem_cons.mp hb with rfl | hb
        · exact ⟨fpa.2.2.2.1, fpa.2.1, fpa.2.2.2.2.1, fpa.2.2.2.2.2⟩
        · rw [List.mem_singleton.mp hb]
          exact ⟨fpk.2.2.2.1, fpk.2.1, fpk.2.2.2.2.1, fpk.2.2.2.2.2⟩
      · exact kp b o x1 (fun z => x3 (by simp [z])) (fun z => x3 (by simp [z])) e
      · exact kp b o x1 (fun z => x3 (by simp [z])) (fun z => x3 (by simp [z])) e
      · have n1 : b ≠ a := fun z => x3 (by simp [z])
        rw [upd_ne n1] at q0 ⊢
        by_cases c : b = a ∨ b = kS
        · rw [if_pos c]
        · rw [if_neg c]; exact q0
      · by_cases c : b = X.env.locals
        · obtain ⟨o', _, _, e2, _⟩ := F'.ns
          exact ⟨o', by rw [c]; exact e2⟩
        · exact ⟨o, kp b o c (fun z => x3 (by simp [z])) (fun z => x3 (by simp [z])) e⟩
      · have n1 : b ≠ a := fun z => by rw [z, upd_same] at q0; cases q0
        rw [upd_ne n1] at q0 ⊢
        have n2 : b ≠ kS := fun z => by rw [z, hik] at q0; cases q0
        rw [if_neg (by simp [n1, n2])]
        exact q0
      · have n1 : b ≠ a := fun z => by rw [z, upd_same] at q0; cases q0
        rw [upd_ne n1] at q0 ⊢
        have n2 : b ≠ kS := fun z => by rw [z, hik] at q0; cases q0
        rw [if_neg (by simp [n1, n2])]
        exact q0
      · have n1 : b ≠ a := fun z => by rw [z, upd_same] at q0; cases q0
        rw [upd_ne n1] at q0 ⊢
        have n2 : b ≠ kS := fun z => by rw [z, hik] at q0; cases q0
        rw [if_neg (by simp [n1, n2])]
        simpa using q0
      · have : m' = m := funext fun x => Heap.Ns.agree hm' hm x
        rw [this]
        exact F'.ns
      · by_cases n1 : b = a
        · subst n1
          rw [upd_same] at q0
          cases q0
          exact ⟨by rw [rys.length, olen]; exact hzi, out, c, rys, oa⟩
        · rw [upd_ne n1] at q0
          by_cases n2 : b = kS
          · rw [if_pos (.inr n2)] at q0; cases q0
          · rw [if_neg (by simp [n1, n2])] at q0
            have nL : b ≠ X.env.locals := fun z => by rw [z, Ii.free] at q0; cases q0
            refine (Ii.hok b u q0).stay (fun b2 u2 hb2 r2 => ?_) (fun b2 r2 => ?_) fun b2 xs2 r2 => ?_
            · rcases hb2 with rfl | hb2
              · exact kp b2 u2 nL n2 n1 r2
              · exact kp b2 u2 (fun z => by rw [z, Ii.free] at hb2; cases hb2) (fun z => by rw [z, hik] at hb2; cases hb2) (fun z => by rw [z, hia] at hb2; cases hb2) r2
            · have m1 : b2 ≠ a := fun z => by rw [z, hia] at r2; cases r2
              have m2 : b2 ≠ kS := fun z => by rw [z, hik] at r2; cases r2
              rw [upd_ne m1, if_neg (by simp [m1, m2])]
              exact r2
            · have m1 : b2 ≠ a := fun z => by rw [z, hia] at r2; cases r2
              have m2 : b2 ≠ kS := fun z => by rw [z, hik] at r2; cases r2
              rw [upd_ne m1, if_neg (by simp [m1, m2])]
              exact r2
end
end D2

namespace D2
open PySem PySem.Spec PyProof.Rows L2
open PySem.W (dataLe)
/-! ### sorted(xs, key=f) as an expression -/
def isOkB (g : List PyData → Rs PyData) (d : PyData) : Bool := match g [d] with
  | .ok _ => true
  | _ => false
def sortKeyK (g : List PyData → Rs PyData) : PyData → Rs PyData
  | .list ds => if ds.all (isOkB g) = true ∧ sortOk (ds.map (keyOfD g)) then .ok (.list (ds.mergeSort (dataLe false (keyOfD g)))) else .no
  | _ => .no
def eSortKey (g : List PyData → Rs PyData) (f : En → Rs PyData) : En → Rs PyData := fun ρ => (f ρ).bind (sortKeyK g)
section
variable {X : Cx} {c : Ct} {e : Expr} {pos : Pos} {f : En → Rs PyData}
theorem de_sortKey {hot : List Str} {k : Nat} {fa : Addr} {fd : FuncData} {p1 : Str} {g : List PyData → Rs PyData} {y : Str} {p p2 kp : Pos} (F : FnOk X.prog X.w X.K X.mg X.base (CXh hot X.mg X.prog X.w) k fa fd [p1] (spD X.K X.mg g)) (hr : Room (k + 2) X.A)
    (hg : Gl X "sorted") (hm : X.mg "sorted" = none) (hgy : Gl X y) (hmy : X.mg y = some (.ref fa)) (hb : Binds X.K fd [p1] []) (he : DE X c e f) (hdy : (y == ("__debug__" : Str)) = false := by decide) (hv : bootBuiltins ("sorted" : Str) = some (.builtin "sorted") := by decide +kernel)
    (h1 : backTo pos (starEach [e] X.env) = (false, eval e X.env) :: backTo pos (starEach [] X.env) := by rfl) (h1b : starEach [e] X.env = (false, eval e X.env) :: starEach [] X.env := by rfl) (h2 : (backTo pos (starEach [e] X.env)).any (·.1) = false := by rfl)
    (hall : (backToKw pos (keywordEach [⟨some "key", .Name y p2, kp⟩] X.env)).all (·.1.isSome) = true := by rfl) (hnone : (backToKw pos (keywordEach [⟨some "key", .Name y p2, kp⟩] X.env)).any (·.1.isNone) = false := by rfl)
    (hks : (backToKw pos (keywordEach [⟨some "key", .Name y p2, kp⟩] X.env)).filterMap (·.1) = [Str.ofString "key"] := by rfl) :
    DE X c (.Call (.Name "sorted" p) [e] [⟨some "key", .Name y p2, kp⟩] pos) (eSortKey g f) := by
  refine pe_imp (pe_callBK (cr_sortKey F hr hb) hg hm hv (pa_cons he pa_nil h1b) (pk_cons (pe_glob (v := .ref fa) hgy hmy rfl hdy) pk_nil) (by decide) (by decide) h1 h2 hall hnone hks) fun σ H Q ⟨S, ρ, rp, q⟩ => ?_
  refine ⟨S, ρ, rp, Go.seq q fun S1 H1 x dx o1 hx q1 => ?_⟩
  cases dx with
  | list ds =>
    by_cases h : ds.all (isOkB g) = true ∧ sortOk (ds.map (keyOfD g))
    · simp only [sortKeyK, if_pos h] at q1
      cases hx with
      | lst r1 r2 =>
        refine ⟨_, _, ds, S1, rfl, rfl, .inl (rd_mono o1.sub r1), o1.sub, r2, fun d hd => ?_, h.2, fun S' H' ys p o hp hy => ?_⟩
        · have := List.all_eq_true.mp h.1 d hd
          unfold isOkB at this
          unfold keyOfD
          split at this
          · rename_i y e2
            rw [e2]
          · cases this
        · exact q1 (upd S' p (.lst ys)) (upd H' p (.lst ys)) (.ref p) (o.trans (Old.new o.sub hp)) (.lst (.inl upd_same) (dps_mono (same_upd (o.sub.free hp)) _ _ hy))
    · simp only [sortKeyK, if_neg h] at q1
      exact q1.elim
  | _ => exact (show False from q1).elim
end
@[simp] theorem eSortKey_ap (g : List PyData → Rs PyData) (f : En → Rs PyData) (ρ : En) : eSortKey g f ρ = (f ρ).bind (sortKeyK g) := Eq.trans rfl rfl
@[simp] theorem sortKeyK_l (g : List PyData → Rs PyData) (ds : List PyData) : sortKeyK g (.list ds) = if ds.all (isOkB g) = true ∧ sortOk (ds.map (keyOfD g)) then .ok (.list (ds.mergeSort (dataLe false (keyOfD g)))) else .no := Eq.trans rfl rfl
end D2

namespace D2
open PySem PySem.Spec PyProof.Rows L2
/-! ### a dict locked while an expression walks it -/
def lkB : Option B → Option B
  | some (.k kvs) => some (.f kvs)
  | o => o
def lkE (i : Nat) (ρ : En) : En := match ρ[i]? with
  | some (some (.k kvs)) => ρ.set i (some (.f kvs))
  | _ => ρ
def lkR : Rs PyData → Rs PyData
  | .ok d => .ok d
  | _ => .no
def lkK (i : Nat) (f : En → Rs PyData) (ρ : En) : Option (Option B) → Rs PyData
  | some (some (.k kvs)) => lkR (f (ρ.set i (some (.f kvs))))
  | _ => .no
def eLk (i : Nat) (f : En → Rs PyData) : En → Rs PyData := fun ρ => lkK i f ρ ρ[i]?
def Ct.lk (c : Ct) (d : Addr) (u : HO) : Ct := { c with H0 := upd c.H0 d u, W := fun _ _ _ _ => False }
section
variable {X : Cx} {c : Ct} {e tg : Expr} {pos : Pos} {f : En → Rs PyData} {K : PySem.W.Frag} {wd : World} {H0 S0 S H : Hp} {ρ : En} {σ : St}
theorem repLk (r : Rep K wd H0 S0 S ρ σ H) {i : Nat} {kvs : KD} (e : ρ[i]? = some (some (.k kvs))) :
    ∃ a ws, σ[i]? = some (some (.ref a)) ∧ H a = some (.dK ws) ∧ S a = none ∧ H0 a = none ∧ KP K S ws kvs ∧ ∀ od, Rep K wd (upd H0 a (.frz od (.dK ws))) S0 S (ρ.set i (some (.f kvs))) σ (upd H a (.frz od (.dK ws))) := by
  obtain ⟨v, e1, a, ws, rfl, h1, h2, h3, h4⟩ := r.slot i _ e
  refine ⟨a, ws, e1, h1, h2, h3, h4, fun od => ?_⟩
  have hi : i < ρ.length := (List.getElem?_eq_some_iff.mp e).1
  refine ⟨⟨fun b o q => ?_, fun b o q => ?_, r.old.s0, fun b o q => ?_⟩, fun j b eb => ?_, fun j l b d hn e1' e2 o1 o2 => ?_, by simpa using r.len⟩
  · by_cases hb : b = a
    · subst hb; rw [upd_same] at q ⊢; exact q
    · rw [upd_ne hb] at q ⊢; exact r.old.ext b o q
  · have hb : b ≠ a := fun z => by subst z; rw [h2] at q; cases q
    rw [upd_ne hb]; exact r.old.sub b o q
  · by_cases hb : b = a
    · subst hb
      rw [h2]
      cases q2 : S0 b with
      | none => rfl
      | some u => rw [r.old.s0 b u q2] at h2; cases h2
    · rw [upd_ne hb] at q; exact r.old.old b o q
  · rcases getE_set eb with ⟨rfl, eq⟩ | ⟨hn, eb⟩
    · cases Option.some.inj eq
      exact ⟨_, e1, a, od, ws, rfl, upd_same, upd_same, h4⟩
    · obtain ⟨w, e3, h5⟩ := r.slot j b eb
      refine ⟨w, e3, ?_⟩
      cases b with
      | d x => exact h5
      | l ys =>
        obtain ⟨a', vs, rfl, q1, q2, q3, q4⟩ := h5
        have hne : a' ≠ a := fun z => r.apart i j _ _ hn e eb rfl rfl (by rw [e1, e3, z])
        exact ⟨a', vs, rfl, by rw [upd_ne hne]; exact q1, q2, by rw [upd_ne hne]; exact q3, q4⟩
      | k ys =>
        obtain ⟨a', vs, rfl, q1, q2, q3, q4⟩ := h5
        have hne : a' ≠ a := fun z => r.apart i j _ _ hn e eb rfl rfl (by rw [e1, e3, z])
        exact ⟨a', vs, rfl, by rw [upd_ne hne]; exact q1, q2, by rw [upd_ne hne]; exact q3, q4⟩
      | f ys =>
        obtain ⟨a', u, vs, rfl, q1, q3, q4⟩ := h5
        have hne : a' ≠ a := fun z => by rw [z, h3] at q3; cases q3
        exact ⟨a', u, vs, rfl, by rw [upd_ne hne]; exact q1, by rw [upd_ne hne]; exact q3, q4⟩
      | t ys =>
        obtain ⟨a', vs, rfl, q1, q2, q3, q4⟩ := h5
        have hne : a' ≠ a := fun z => r.apart i j _ _ hn e eb rfl rfl (by rw [e1, e3, z])
        exact ⟨a', vs, rfl, by rw [upd_ne hne]; exact q1, q2, by rw [upd_ne hne]; exact q3, q4⟩
  · rcases getE_set e1' with ⟨rfl, eb⟩ | ⟨_, e1'⟩
    · cases Option.some.inj eb; cases o1
    · rcases getE_set e2 with ⟨rfl, eb⟩ | ⟨_, e2⟩
      · cases Option.some.inj eb; cases o2
      · exact r.apart j l b d hn e1' e2 o1 o2
theorem de_lock (i : Nat) (h : ∀ c' : Ct, c'.wd = c.wd → c'.W = (fun _ _ _ _ => False) → DE X c' e f) : DE X c e (eLk i f) := by
  refine ⟨fun pins s σ H Q I hw => ?_⟩
  obtain ⟨S, ρ, rp, q⟩ := hw
  unfold eLk lkK at q
  split at q
  · rename_i kvs eρ
    obtain ⟨a, ws, e1, h1, h2, h3, kp, rl⟩ := repLk rp eρ
    obtain ⟨od, I1⟩ := I.lock h1 trivial
    have rp' := rl od
    cases er : f (ρ.set i (some (.f kvs))) with
    | ok d =>
      rw [er] at q
      refine thn ((h (c.lk a (.frz od (.dK ws))) rfl rfl).run pins s σ _ (fun v H' => H' a = some (.frz od (.dK ws)) ∧ Q v (upd H' a (.dK ws))) I1 ⟨S, _, rp', ?_⟩) fun v s1 ⟨x, H1, I2, r, e2, q2⟩ => ⟨x, _, I2.unlock e2 (I.nofrz h1 trivial), r, q2⟩
      rw [er]
      intro S' H' b o hb
      have ha : H' a = some (.frz od (.dK ws)) := o.ext _ _ upd_same
      have hS' : S' a = none := (o.old a _ upd_same).trans h2
      refine ⟨ha, q S' _ b ⟨fun b2 o2 z => ?_, fun b2 o2 z => ?_, o.s0, fun b2 o2 z => ?_⟩ hb⟩
      · by_cases hb2 : b2 = a
        · subst hb2; rw [upd_same]; rw [h1] at z; exact z
        · rw [upd_ne hb2]; exact o.ext b2 o2 (by rw [upd_ne hb2]; exact z)
      · have hb2 : b2 ≠ a := fun y => by subst y; rw [hS'] at z; cases z
        rw [upd_ne hb2]; exact o.sub b2 o2 z
      · by_cases hb2 : b2 = a
        · subst hb2; exact o.old b2 _ upd_same
        · exact o.old b2 o2 (by rw [upd_ne hb2]; exact z)
    | er x => rw [er] at q; exact q.elim
    | no => rw [er] at q; exact q.elim
  · exact q.elim
/-! .items() of a locked dict -/
def itemsD (kvs : KD) : List PyData := kvs.map fun p => .tuple [keyD p.1, p.2]
def flK : Option (Option B) → Rs (List PyData)
  | some (some (.f kvs)) => .ok (itemsD kvs)
  | some (some (.d (.dict kvs))) => (ofO (unD kvs)).bind fun kd => .ok (itemsD kd)
  | _ => .no
@[simp] theorem flK_d (kvs : KD) : flK (some (some (.d (dD kvs)))) = .ok (itemsD kvs) := by
  show (ofO (unD _)).bind _ = _
  rw [unD_map]; rfl
def iDItems (i : Nat) : En → Rs (List PyData) := fun ρ => flK ρ[i]?
theorem key_dq1 {K : PySem.W.Frag} {S : Hp} (k : Key) : Dq K S (kV k) (keyD k) := by
  cases k with
  | inl i => exact .int i
  | inr x => exact .str x
theorem walks_itemsG {d : Addr} {o : Obj} {ws : List (Key × V)} {kvs : KD} (h0 : ∀ S1 H, Same S S1 → Same S1 H → Same H0 H → H d = some (.frz o (.dK ws))) (kp : KP K S ws kvs) : Walks K (Iti d o ws) H0 S (itemsD kvs) := by
  have hl : ws.length = kvs.length := Paired.length kp
  refine ⟨fun i S1 H s1 s2 s3 hi => ⟨h0 S1 H s1 s2 s3, by rw [hl]; simpa [itemsD] using hi⟩, fun i S1 H x H' s1 s2 s3 y dd ed => ?_, fun S1 H s1 s2 s3 => ⟨h0 S1 H s1 s2 s3, by rw [hl]; simp [itemsD]⟩⟩
  obtain ⟨T, k, v, e1, rfl, hT, rfl⟩ := y
  have hi : i < kvs.length := by rw [← hl]; exact (List.getElem?_eq_some_iff.mp e1).1
  have hp : (k, v).1 = kvs[i].1 ∧ Dq K S v kvs[i].2 := by
    have := kp
    clear kp h0 ed
    revert i
    induction this with
    | nil => intro i e1 hi; simp at e1
    | cons h t ih =>
      intro i e1 hi
      cases i with
      | zero => simp at e1; subst e1; exact h
      | succ i => exact ih (by simpa using hl) i (by simpa using e1) (by simpa using hi)
  have e2 : dd = .tuple [keyD kvs[i].1, kvs[i].2] := by
    rw [itemsD, List.getElem?_map, List.getElem?_eq_getElem hi] at ed
    exact (Option.some.inj ed).symm
  subst e2
  refine ⟨upd S1 T (.tup [kV k, v]), Old.new s2 hT, .tup (.of upd_same) (.cons ?_ (.cons (dp_mono (s1.trans (same_upd (s2.free hT))) _ _ hp.2) .nil))⟩
  rw [← hp.1]
  exact key_dq1 k
theorem walks_items {d : Addr} {o : Obj} {ws : List (Key × V)} {kvs : KD} (h0 : H0 d = some (.frz o (.dK ws))) (kp : KP K S ws kvs) : Walks K (Iti d o ws) H0 S (itemsD kvs) := walks_itemsG (fun _ _ _ _ s3 => s3 _ _ h0) kp
theorem walks_itemsS {d : Addr} {o : Obj} {ws : List (Key × V)} {kvs : KD} (h0 : S d = some (.frz o (.dK ws))) (kp : KP K S ws kvs) : Walks K (Iti d o ws) H0 S (itemsD kvs) := walks_itemsG (fun _ _ s1 s2 _ => s2 _ _ (s1 _ _ h0)) kp
theorem di_items (i : Nat) {x : Str} {p p2 tpos : Pos} {elts : List Expr} {kk : Nat} (hN : X.N[i]? = some x := by rfl) (hv : Vis X.env.scope x := by first | exact Or.inl rfl | exact Or.inr (Or.inl rfl) | exact Or.inr (Or.inr rfl)) (hd : (x == ("__debug__" : Str)) = false := by decide)
    (hcd : (x == ("__classdict__" : Str)) = false := by decide) (hbase : attributeBase (.Name x p) "items" X.env (eval (.Name x p) X.env) = eval (.Name x p) X.env := by rfl) (hline : (p2.endLine == pos.line) = true := by rfl) :
    DI X c (.Tuple elts kk tpos) (.Call (.Attribute (.Name x p) "items" p2) [] [] pos) (iDItems i) := by
  refine pi_imp (pi_items (pe_var hN hv hd hcd) hbase hline) fun σ H R ⟨S, ρ, rp, q⟩ => ?_
  unfold iDItems flK at q
  split at q
  · rename_i kvs eρ
    obtain ⟨v, e1, a, o, ws, rfl, h1, h3, h4⟩ := rp.slot i _ eρ
    exact ⟨_, e1, a, o, ws, rfl, h1, q S H _ (.refl rp.sub) (walks_items h3 h4)⟩
  · rename_i kvs eρ
    obtain ⟨v, e1, h1⟩ := rp.slot i _ eρ
    cases eu : unD kvs with
    | none => rw [eu] at q; exact q.elim
    | some kd =>
      rw [eu] at q
      obtain ⟨a, o, ws, rfl, h1, h4⟩ := dq_dct h1 eu
      exact ⟨_, e1, a, o, ws, rfl, rp.sub _ _ h1, q S H _ (.refl rp.sub) (walks_itemsS h1 h4)⟩
  · exact q.elim
end
section
variable {i : Nat} {f : En → Rs PyData} {ρ : En} {kvs : KD}
@[simp] theorem eLk_ap : eLk i f ρ = lkK i f ρ ρ[i]? := Eq.trans rfl rfl
@[simp] theorem lkK_k : lkK i f ρ (some (some (.k kvs))) = lkR (f (ρ.set i (some (.f kvs)))) := Eq.trans rfl rfl
@[simp] theorem lkR_ok (d : PyData) : lkR (.ok d) = .ok d := Eq.trans rfl rfl
@[simp] theorem iDItems_ap : iDItems i ρ = flK ρ[i]? := Eq.trans rfl rfl
@[simp] theorem flK_f : flK (some (some (.f kvs))) = .ok (itemsD kvs) := Eq.trans rfl rfl
end
/-! list(d) -/
def lsK1 : Option (Option B) → Rs PyData
  | some (some (.k kvs)) => .ok (.list (kvs.map fun p => keyD p.1))
  | _ => .no
def eDList (i : Nat) : En → Rs PyData := fun ρ => lsK1 ρ[i]?
theorem de_dlist {X : Cx} {c : Ct} {pos : Pos} (i : Nat) {x : Str} {p p2 : Pos} (hc : X.calm = true) (hg : Gl X "list") (hm : X.mg "list" = none) (hN : X.N[i]? = some x := by rfl) (hv : Vis X.env.scope x := by first | exact Or.inl rfl | exact Or.inr (Or.inl rfl) | exact Or.inr (Or.inr rfl)) (hd : (x == ("__debug__" : Str)) = false := by decide)
    (hcd : (x == ("__classdict__" : Str)) = false := by decide) (hb : bootBuiltins ("list" : Str) = some (.type "list") := by decide +kernel) (he : starEach [.Name x p2] X.env = (false, eval (.Name x p2) X.env) :: starEach [] X.env := by rfl) (hpl : (backTo pos (starEach [] X.env)).any (·.1) = false := by rfl) :
    DE X c (.Call (.Name "list" p) [.Name x p2] [] pos) (eDList i) := by
  refine pe_imp (pe_callTy (call_list_dK hc) hg hm hb (pa_cons (pe_var hN hv hd hcd) pa_nil he) (by decide) (by decide) he hpl) fun σ H Q ⟨S, ρ, rp, q⟩ => ?_
  unfold eDList lsK1 at q
  split at q
  · rename_i kvs eρ
    obtain ⟨v, e1, a, ws, rfl, h1, h2, h3, h4⟩ := rp.slot i _ eρ
    refine ⟨.ref a, e1, a, ws, rfl, h1, fun q2 hq => ?_⟩
    refine q (upd S q2 (.lst (ws.map fun kv => kV kv.1))) _ (.ref q2) (Old.new rp.sub hq) (.lst (.inl upd_same) ?_)
    have k1 : (ws.map fun kv => kV kv.1) = (kvs.map (·.1)).map kV := by rw [← KP.keys h4, List.map_map]; rfl
    have k2 : (kvs.map fun p => keyD p.1) = (kvs.map (·.1)).map keyD := by rw [List.map_map]; rfl
    rw [k1, k2]
    exact keys_dqs _
  · exact q.elim
@[simp] theorem eDList_ap (i : Nat) (ρ : En) : eDList i ρ = lsK1 ρ[i]? := Eq.trans rfl rfl
@[simp] theorem lsK1_k (kvs : KD) : lsK1 (some (some (.k kvs))) = .ok (.list (kvs.map fun p => keyD p.1)) := Eq.trans rfl rfl
end D2

namespace D2
open PySem PySem.Spec PyProof.Rows L2
/-! ### expressions that change an owned dict (setdefault) -/
def GoX {α β : Type} (K : PySem.W.Frag) (c : Ct) (R : Hp → β → α → Prop) (S : Hp) (σ : St) (H : Hp) (r : Rs (α × En)) (Q : β → Hp → Prop) : Prop := match r with
  | .ok (a, ρ') => ∀ S' H' b, Same S S' → Rep K c.wd c.H0 c.S0 S' ρ' σ H' → R S' b a → Q b H'
  | _ => False
def tEx (K : PySem.W.Frag) (c : Ct) (f : En → Rs (PyData × En)) : TE := fun σ H Q => ∃ S ρ, Rep K c.wd c.H0 c.S0 S ρ σ H ∧ GoX K c (Dq K) S σ H (f ρ) Q
def tTx (K : PySem.W.Frag) (c : Ct) (f : En → Rs (Bool × En)) : TT := fun σ H Q => ∃ S ρ, Rep K c.wd c.H0 c.S0 S ρ σ H ∧ GoX K c RB1 S σ H (f ρ) Q
abbrev DEx (X : Cx) (c : Ct) (e : Expr) (f : En → Rs (PyData × En)) : Prop := PE X e (tEx X.K c f)
abbrev DTx (X : Cx) (c : Ct) (e : Expr) (f : En → Rs (Bool × En)) : Prop := PT X e (tTx X.K c f)
abbrev DWx (X : Cx) (c : Ct) (e : Expr) (f : En → Rs (Bool × En)) : Prop := PW X e (tTx X.K c f)
/-- no exception is let through -/
def clean {α : Type} : Rs α → Rs α
  | .ok a => .ok a
  | _ => .no
def xBin (op : PyData → PyData → Option PyData) (f : En → Rs (PyData × En)) (g : En → Rs PyData) : En → Rs (PyData × En) := fun ρ => (f ρ).bind fun p => (clean (g p.2)).bind fun y => (ofO (op p.1 y)).bind fun z => .ok (z, p.2)
def xOf (f : En → Rs (PyData × En)) : En → Rs (Bool × En) := fun ρ => (f ρ).bind fun p => (asB p.1).bind fun b => .ok (b, p.2)
def xT (f : En → Rs Bool) : En → Rs (Bool × En) := fun ρ => (clean (f ρ)).bind fun b => .ok (b, ρ)
def xOr (f g : En → Rs (Bool × En)) : En → Rs (Bool × En) := fun ρ => (f ρ).bind fun p => if p.1 = true then .ok (true, p.2) else g p.2
def setdV (ρ : En) (i : Nat) (kvs : KD) (y z : PyData) : Rs (PyData × En) := match keyOf y with
  | some k => if kvs.length < 16777216 then (match getA kvs k with
    | some d => .ok (d, ρ)
    | none => .ok (z, ρ.set i (some (.k (putA kvs k z))))) else .no
  | none => .no
def setdK (ρ : En) (i : Nat) (r rd : Rs PyData) : Option (Option B) → Rs (PyData × En)
  | some (some (.k kvs)) => (clean r).bind fun y => (clean rd).bind fun z => setdV ρ i kvs y z
  | _ => .no
def xSetd (i : Nat) (f g : En → Rs PyData) : En → Rs (PyData × En) := fun ρ => setdK ρ i (f ρ) (g ρ) ρ[i]?
def sIfx (f : En → Rs (Bool × En)) (A B : En → Out) : En → Out := fun ρ => match f ρ with
  | .ok (b, ρ') => if b = true then A ρ' else B ρ'
  | _ => .no
section
variable {X : Cx} {c : Ct} {a b e : Expr} {pos : Pos} {f g : En → Rs PyData} {fx gx : En → Rs (PyData × En)} {ft : En → Rs Bool} {tx ux : En → Rs (Bool × En)} {body orelse : List Stmt} {A B : En → Out}
theorem go_clean {α β : Type} {K : PySem.W.Frag} {mg : Str → Option Value} {R : Hp → β → α → Prop} {S H : Hp} {r : Rs α} {Q : β → Hp → Prop} {E : XK} {P : α → Prop} (h : ∃ a, clean r = .ok a ∧ P a) (k : ∀ a, P a → ∀ S' H' b, Old H S S' H' → R S' b a → Q b H') : Go K mg R S H r Q E := by
  obtain ⟨a, e, hp⟩ := h
  cases r with
  | ok x =>
    have e2 : x = a := Rs.ok.inj e
    intro S' H' b o hb
    exact k a hp S' H' b o (e2 ▸ hb)
  | er x => cases e
  | no => cases e
theorem bind_ex {α β : Type} {r : Rs α} {k : α → Rs β} {y : β} (h : r.bind k = .ok y) : ∃ a, r = .ok a ∧ k a = .ok y := by
  cases r with
  | ok a => exact ⟨a, rfl, h⟩
  | er x => cases h
  | no => cases h
theorem goX_ok {α β : Type} {K : PySem.W.Frag} {R : Hp → β → α → Prop} {S H : Hp} {σ : St} {r : Rs (α × En)} {Q : β → Hp → Prop} (h : GoX K c R S σ H r Q) : ∃ a ρ', r = .ok (a, ρ') ∧ ∀ S' H' b, Same S S' → Rep K c.wd c.H0 c.S0 S' ρ' σ H' → R S' b a → Q b H' := by
  cases r with
  | ok p => exact ⟨p.1, p.2, rfl, h⟩
  | er x => exact h.elim
  | no => exact h.elim
theorem dex_setd (i : Nat) {x : Str} {p p2 : Pos} (hu : DE X c e f) (hz : DE X c a g) (hN : X.N[i]? = some x := by rfl) (hv : Vis X.env.scope x := by first | exact Or.inl rfl | exact Or.inr (Or.inl rfl) | exact Or.inr (Or.inr rfl)) (hd : (x == ("__debug__" : Str)) = false := by decide)
    (hcd : (x == ("__classdict__" : Str)) = false := by decide) (m : M2 X (.Name x p) "setdefault" p2 e a pos := by exact ⟨rfl, rfl, rfl, rfl⟩) : DEx X c (.Call (.Attribute (.Name x p) "setdefault" p2) [e, a] [] pos) (xSetd i f g) := by
  refine pe_imp (pe_dsetd (pe_var hN hv hd hcd) hu hz m) fun σ H Q ⟨S, ρ, rp, q⟩ => ?_
  obtain ⟨dv, ρ', eq, k⟩ := goX_ok q
  unfold xSetd setdK at eq
  split at eq
  · rename_i kvs eρ
    obtain ⟨v, e1, ad, ws, rfl, h1, h2, h3, h4⟩ := rp.slot i _ eρ
    obtain ⟨dy, ey, eq⟩ := bind_ex eq
    obtain ⟨dz, ez, eq⟩ := bind_ex eq
    refine ⟨.ref ad, e1, ad, rfl, .inl ⟨ws, .inl h1⟩, S, ρ, rp, go_clean (P := fun x => x = dy) ⟨dy, ey, rfl⟩ ?_⟩
    intro dy' hdy S1 H1 y o1 hy
    rw [hdy] at hy
    refine ⟨S1, ρ, rp.step o1, go_clean (r := g ρ) (P := fun x => x = dz) ⟨dz, ez, rfl⟩ ?_⟩
    intro dz' hdz S2 H2 z o2 hz
    rw [hdz] at hz
    have r2 := (rp.step o1).step o2
    have kp : KP X.K S2 ws kvs := KP.mono h4 (o1.s0.trans o2.s0)
    unfold setdV at eq
    cases ek : keyOf dy with
    | none => rw [ek] at eq; cases eq
    | some kk =>
      rw [ek] at eq
      simp only at eq
      by_cases hl : kvs.length < 16777216
      · rw [if_pos hl] at eq
        refine ⟨ws, kk, o2.ext _ _ (o1.ext _ _ h1), key_dq ek hy, by rw [Paired.length kp, sizeLine_eq]; exact hl, fun v hv => ?_, fun hn => ?_⟩
        · cases eg : getA kvs kk with
          | none => rw [kp.none eg] at hv; cases hv
          | some d =>
            rw [eg] at eq
            cases eq
            obtain ⟨v', ev, hd⟩ := kp.some eg
            rw [hv] at ev
            cases ev
            exact k S2 H2 v (o1.s0.trans o2.s0) r2 hd
        · cases eg : getA kvs kk with
          | some d =>
            obtain ⟨v', ev, _⟩ := kp.some eg
            rw [hn] at ev
            cases ev
          | none =>
            rw [eg] at eq
            cases eq
            exact k S2 _ z (o1.s0.trans o2.s0) (repRewrK r2 eρ e1 (kp.put hz)) hz
      · rw [if_neg hl] at eq
        cases eq
  · cases eq
theorem tOpx_of {r : R2} {op : PyData → PyData → Option PyData} (hs : OpS X.K r op) {σ : St} {H : Hp} {Q : VK} (h : tEx X.K c (xBin op fx g) σ H Q) : tOp r (tEx X.K c fx) (tE X.K X.mg c g) σ H Q := by
  obtain ⟨S, ρ, rp, q⟩ := h
  obtain ⟨z, ρ', eq, k⟩ := goX_ok q
  obtain ⟨⟨dx, ρ1⟩, e1, eq⟩ := bind_ex eq
  obtain ⟨dy, e2, eq⟩ := bind_ex eq
  obtain ⟨dz, e3, eq⟩ := bind_ex eq
  cases eq
  refine ⟨S, ρ, rp, ?_⟩
  rw [e1]
  intro S1 H1 x s1 r1 hx
  refine ⟨S1, ρ1, r1, go_clean (P := fun x => x = dy) ⟨dy, e2, rfl⟩ ?_⟩
  intro dy' hdy S2 H2 y o2 hy
  rw [hdy] at hy
  have e4 : op dx dy = some z := by
    cases q : op dx dy with
    | none => rw [q] at e3; cases e3
    | some w => rw [q] at e3; cases e3; rfl
  exact hs S2 H2 x y dx dy Q o2.sub (dp_mono o2.s0 _ _ hx) hy z e4 fun S3 H3 v o3 hv => k S3 H3 v ((s1.trans o2.s0).trans o3.s0) ((r1.step o2).step o3) hv
theorem dex_ix {r : R2} {op : PyData → PyData → Option PyData} (ho : IxR X r) (hs : OpS X.K r op) (ha : DEx X c a fx) (hb : DE X c b g) (hp : PlainIx b := by exact fun _ _ => rfl) : DEx X c (.Subscript a b pos) (xBin op fx g) :=
  pe_imp (pe_ix ho ha hb hp) fun _ _ _ h => tOpx_of hs h
theorem dtx_cmp {o : CmpOp} {r : R2} {op : PyData → PyData → Option PyData} (ho : OpR X (compareOp o) r) (hs : OpS X.K r op) (ha : DEx X c a fx) (hb : DE X c b g) (hm : behindInMarks o b = false := by first | rfl | exact nomark _) :
    DTx X c (.Compare a [o] [b] pos) (xOf (xBin op fx g)) := by
  refine pt_imp (pt_cmpR ho ha hb hm) fun σ H Q ⟨S, ρ, rp, q⟩ => ?_
  obtain ⟨bb, ρ', eq, k⟩ := goX_ok q
  obtain ⟨⟨dz, ρ1⟩, e1, eq⟩ := bind_ex eq
  obtain ⟨b2, e2, eq⟩ := bind_ex eq
  cases eq
  have hz : dz = .bool bb := by
    cases dz <;> simp [asB] at e2 <;> subst e2 <;> rfl
  subst hz
  refine tOpx_of hs ⟨S, ρ, rp, ?_⟩
  rw [e1]
  intro S1 H1 x s1 r1 hx
  cases hx
  exact ⟨bb, rfl, k S1 H1 bb s1 r1 rfl⟩
theorem dtx_t (h : DT X c e ft) : DTx X c e (xT ft) := by
  refine pt_imp h fun σ H Q ⟨S, ρ, rp, q⟩ => ?_
  obtain ⟨b, ρ', eq, k⟩ := goX_ok q
  obtain ⟨b2, e1, eq⟩ := bind_ex eq
  cases eq
  refine ⟨S, ρ, rp, go_clean (P := fun x => x = b) ⟨b, e1, rfl⟩ ?_⟩
  intro b' hb S1 H1 y o1 hy
  rw [hb] at hy
  exact k S1 H1 y o1.s0 (rp.step o1) hy
theorem dwx_or1 (ha : DTx X c a tx) : DWx X c (.BoolOp .Or [a] pos) tx := pw_or1 ha
theorem dwx_or {rest : List Expr} (ha : DTx X c a tx) (hb : DWx X c (.BoolOp .Or (b :: rest) pos) ux) : DWx X c (.BoolOp .Or (a :: b :: rest) pos) (xOr tx ux) := by
  refine pw_imp (pw_or ha hb) fun σ H Q ⟨S, ρ, rp, q⟩ => ?_
  obtain ⟨b, ρ', eq, k⟩ := goX_ok q
  obtain ⟨⟨b1, ρ1⟩, e1, eq⟩ := bind_ex eq
  refine ⟨S, ρ, rp, ?_⟩
  rw [e1]
  intro S1 H1 y s1 r1 hy
  cases hy
  cases b1 with
  | true =>
    simp only [↓reduceIte] at eq
    cases eq
    exact iteT (k S1 H1 true s1 r1 rfl)
  | false =>
    simp only [Bool.false_eq_true, ↓reduceIte] at eq
    refine iteF ⟨S1, ρ1, r1, ?_⟩
    rw [eq]
    exact fun S2 H2 w s2 r2 hw => k S2 H2 w (s1.trans s2) r2 hw
theorem dtx_w (h : DWx X c a tx) : DTx X c a tx := h.pt
theorem ds_ifx (ht : DTx X c e tx) (ha : DSs X c body A) (hb : DSs X c orelse B) : DS X c (.If e body orelse pos) (sIfx tx A B) := by
  refine ps_imp (ps_if ht ha hb) fun D σ H ⟨S, ρ, rp, p⟩ => ⟨S, ρ, rp, ?_⟩
  unfold sIfx at p
  split at p
  · rename_i b ρ' eq
    rw [eq]
    intro S1 H1 y s1 r1 hy
    cases hy
    cases b with
    | true => exact iteT ⟨S1, ρ', r1, Post.mono p s1⟩
    | false => exact iteF ⟨S1, ρ', r1, Post.mono p s1⟩
  · exact p.elim
end
section
variable {f g : En → Rs PyData} {fx gx : En → Rs (PyData × En)} {ft : En → Rs Bool} {tx ux : En → Rs (Bool × En)} {A B : En → Out} {ρ : En} {i : Nat} {kvs : KD} {op : PyData → PyData → Option PyData}
@[simp] theorem clean_ok {α : Type} (a : α) : clean (.ok a) = .ok a := Eq.trans rfl rfl
@[simp] theorem xBin_ap : xBin op fx g ρ = (fx ρ).bind fun p => (clean (g p.2)).bind fun y => (ofO (op p.1 y)).bind fun z => .ok (z, p.2) := Eq.trans rfl rfl
@[simp] theorem xOf_ap : xOf fx ρ = (fx ρ).bind fun p => (asB p.1).bind fun b => .ok (b, p.2) := Eq.trans rfl rfl
@[simp] theorem xT_ap : xT ft ρ = (clean (ft ρ)).bind fun b => .ok (b, ρ) := Eq.trans rfl rfl
@[simp] theorem xOr_ap : xOr tx ux ρ = (tx ρ).bind fun p => if p.1 = true then .ok (true, p.2) else ux p.2 := Eq.trans rfl rfl
@[simp] theorem xSetd_ap : xSetd i f g ρ = setdK ρ i (f ρ) (g ρ) ρ[i]? := Eq.trans rfl rfl
@[simp] theorem setdK_k (r rd : Rs PyData) : setdK ρ i r rd (some (some (.k kvs))) = (clean r).bind fun y => (clean rd).bind fun z => setdV ρ i kvs y z := Eq.trans rfl rfl
theorem setdV_sS {x : Str} {z d : PyData} (hl : kvs.length < 16777216) (h : getA kvs (.inr x) = some d) : setdV ρ i kvs (.str x) z = .ok (d, ρ) := by
  show (if kvs.length < 16777216 then (match getA kvs (.inr x) with
    | some d => Rs.ok (d, ρ)
    | none => .ok (z, ρ.set i (some (.k (putA kvs (.inr x) z))))) else .no) = _
  rw [if_pos hl, h]
theorem setdV_sN {x : Str} {z : PyData} (hl : kvs.length < 16777216) (h : getA kvs (.inr x) = none) : setdV ρ i kvs (.str x) z = .ok (z, ρ.set i (some (.k (putA kvs (.inr x) z)))) := by
  show (if kvs.length < 16777216 then (match getA kvs (.inr x) with
    | some d => Rs.ok (d, ρ)
    | none => .ok (z, ρ.set i (some (.k (putA kvs (.inr x) z))))) else .no) = _
  rw [if_pos hl, h]
theorem setdV_iS {x : Int} {z d : PyData} (hl : kvs.length < 16777216) (h : getA kvs (.inl x) = some d) : setdV ρ i kvs (.int x) z = .ok (d, ρ) := by
  show (if kvs.length < 16777216 then (match getA kvs (.inl x) with
    | some d => Rs.ok (d, ρ)
    | none => .ok (z, ρ.set i (some (.k (putA kvs (.inl x) z))))) else .no) = _
  rw [if_pos hl, h]
theorem setdV_iN {x : Int} {z : PyData} (hl : kvs.length < 16777216) (h : getA kvs (.inl x) = none) : setdV ρ i kvs (.int x) z = .ok (z, ρ.set i (some (.k (putA kvs (.inl x) z)))) := by
  show (if kvs.length < 16777216 then (match getA kvs (.inl x) with
    | some d => Rs.ok (d, ρ)
    | none => .ok (z, ρ.set i (some (.k (putA kvs (.inl x) z))))) else .no) = _
  rw [if_pos hl, h]
def ifxK (A B : En → Out) : Rs (Bool × En) → Out
  | .ok (b, ρ') => if b = true then A ρ' else B ρ'
  | _ => .no
@[simp] theorem sIfx_ap : sIfx tx A B ρ = ifxK A B (tx ρ) := by
  unfold sIfx ifxK
  rfl
@[simp] theorem ifxK_ok (b : Bool) (ρ' : En) : ifxK A B (.ok (b, ρ')) = if b = true then A ρ' else B ρ' := Eq.trans rfl rfl
end
end D2

namespace D2
open PySem PySem.Spec PyProof.Rows L2
/-! ### except (X, Y): clauses with a tuple of classes -/
theorem traced_keeps {B h h' : Heap} {a : Addr} {Z : Obj → Prop} {fl : Value} (k : ∀ b o, h.get? b = some o → h'.get? b = some o) (x : HandSPX.TracedZ h B a Z fl) : HandSPX.TracedZ h' B a Z fl := by
  obtain ⟨oe, vs, T, oT, ts, he, hz, hd, h1, hn, hne, hT, hdT, h3⟩ := x
  exact ⟨oe, vs, T, oT, ts, k _ _ he, hz, hd, h1, hn, hne, k _ _ hT, hdT, h3⟩
theorem flyingZ_keeps {B h h' : Heap} {l : List Env} {a : Addr} {Z : Obj → Prop} (k : ∀ b o, h.get? b = some o → h'.get? b = some o) (x : HandSPX.FlyingZ B l a Z h) : HandSPX.FlyingZ B l a Z h' :=
  ⟨fun b o q => k b o (x.1 b o q), x.2.1, x.2.2.1.of_keeps fun b o q _ => ⟨o, k b o q, rfl⟩, traced_keeps k x.2.2.2⟩
/-- what a clause's test tells -/
def TestOk (X : Cx) (t : Expr) (r : Value → Option Bool) : Prop := ∀ (a : Addr) (pn : List (Addr × Obj)) (σ : St) (H : Hp) (s : Shared) (cls : Value) (b : Bool), Inv (X.suite a pn) [] σ H s → X.K.In s.heap →
  PySem.W.Looks (model X.prog X.w) s.heap (typeOf (.ref a)) cls → r cls = some b →
  ∀ (E : Value → Shared → Prop) (Q : Bool → Shared → Prop), (∀ h', (∀ q o, s.heap.get? q = some o → h'.get? q = some o) → Q b { s with heap := h' }) →
    wpAny (model X.prog X.w) (X.A.mark (some (.ref a))) (eval t X.env) (fun c s1 => wpAny (model X.prog X.w) (X.A.mark (some (.ref a))) (excMatches (.ref a) c) Q E s1) E s
theorem ld_names {X : Cx} {x : Str} {c : Value} {np : Pos} (hc : Names X x c) {a : Addr} {pn : List (Addr × Obj)} {σ : St} {H : Hp} {s : Shared} (I : Inv (X.suite a pn) [] σ H s) {Q : Value → Shared → Prop} {E : Value → Shared → Prop} (q : Q c s) :
    wpAny (model X.prog X.w) (X.A.mark (some (.ref a))) (eval (.Name x np) X.env) Q E s := by
  obtain ⟨hg, hdbg, hm | ⟨hm, hv, hnn⟩⟩ := hc
  · exact ld_glob (X := X.suite a pn) I hg hm q hdbg
  · exact ld_blt (X := X.suite a pn) I hg hm hv q hnn hdbg
theorem test_one {X : Cx} {x : Str} {c : Value} {np : Pos} (hc : Names X x c) : TestOk X (.Name x np) (fun cls => PySem.W.exmOne X.K cls c) := fun a pn σ H s cls b I k LT hb E Q q =>
  ld_names hc I ((PySem.W.exm_one k LT hb).here (q s.heap fun _ _ z => z))
theorem test_two {X : Cx} {x1 x2 : Str} {c1 c2 : Value} {p1 p2 tpos : Pos} {kk : Nat} (n1 : Names X x1 c1) (n2 : Names X x2 c2) :
    TestOk X (.Tuple [.Name x1 p1, .Name x2 p2] kk tpos) (fun cls => PySem.W.exmAny X.K cls [c1, c2]) := fun a pn σ H s cls b I k LT hb E Q q => by
  refine wpAny_Tuple ?_
  refine wpAny_items_cons (ld_names n1 I ?_)
  refine wpAny_items_cons (ld_names n2 I ?_)
  refine wpAny_items_nil ⟨by size_fits, ?_⟩
  have kp : ∀ q o, s.heap.get? q = some o → (s.heap.push { cls := .type "tuple", data := .seq [c1, c2].toArray }).get? q = some o := fun _ _ z => Heap.get?_push_of_some _ z
  exact (PySem.W.exm_tup2 (k.keeps kp) (LT.keeps kp) (Heap.get?_push_size s.heap rfl) hb).here (q _ kp)
theorem test_three {X : Cx} {x1 x2 x3 : Str} {c1 c2 c3 : Value} {p1 p2 p3 tpos : Pos} {kk : Nat} (n1 : Names X x1 c1) (n2 : Names X x2 c2) (n3 : Names X x3 c3) :
    TestOk X (.Tuple [.Name x1 p1, .Name x2 p2, .Name x3 p3] kk tpos) (fun cls => PySem.W.exmAny X.K cls [c1, c2, c3]) := fun a pn σ H s cls b I k LT hb E Q q => by
  refine wpAny_Tuple ?_
  refine wpAny_items_cons (ld_names n1 I ?_)
  refine wpAny_items_cons (ld_names n2 I ?_)
  refine wpAny_items_cons (ld_names n3 I ?_)
  refine wpAny_items_nil ⟨by size_fits, ?_⟩
  have kp : ∀ q o, s.heap.get? q = some o → (s.heap.push { cls := .type "tuple", data := .seq [c1, c2, c3].toArray }).get? q = some o := fun _ _ z => Heap.get?_push_of_some _ z
  exact (PySem.W.exm_tup3 (k.keeps kp) (LT.keeps kp) (Heap.get?_push_size s.heap rfl) hb).here (q _ kp)
/-- what the clauses wish, one after the other -/
def wMany' (Wout : WX) (D : Ends) : List ((Value → Option Bool) × (Addr → Value → Option Addr → TS)) → WX
  | [] => Wout
  | (c, ts) :: r => fun cls d σ H => ∃ b, c cls = some b ∧ (b = true → ∀ a, H a = none → ts a cls d D σ H) ∧ (b = false → wMany' Wout D r cls d σ H)
def asEnds (i : Nat) (D : Ends) : Ends := { nx := fun σ' H' => D.nx (σ'.set i none) H', rt := D.rt, bk := fun σ' H' => D.bk (σ'.set i none) H', ct := fun σ' H' => D.ct (σ'.set i none) H' }
inductive HdsOk' (X : Cx) : List ExceptHandler → List ((Value → Option Bool) × (Addr → Value → Option Addr → TS)) → Prop
  | nil : HdsOk' X [] []
  | cons {t : Expr} {c : Value → Option Bool} {ts : Addr → Value → Option Addr → TS} {b₀ : Stmt} {suite : List Stmt} {pos' : Pos} {hds : List ExceptHandler} {l : List ((Value → Option Bool) × (Addr → Value → Option Addr → TS))} (hc : TestOk X t c)
      (hsu : ∀ (a : Addr) (oe : Obj) (cls : Value) (d : Option Addr) (pn : List (Addr × Obj)), Zc cls d oe → (∃ vs, oe.data = .fields vs) → PSs (X.suite a ((a, oe) :: pn)) (b₀ :: suite) (ts a cls d)) (r : HdsOk' X hds l) :
      HdsOk' X (.ExceptHandler (some t) none (b₀ :: suite) pos' :: hds) ((c, ts) :: l)
  | consAs {t : Expr} {n : Str} {i : Nat} {c : Value → Option Bool} {ts : Addr → Value → Option Addr → TS} {b₀ : Stmt} {suite : List Stmt} {pos' : Pos} {hds : List ExceptHandler} {l : List ((Value → Option Bool) × (Addr → Value → Option Addr → TS))} (hN : X.N.Nodup) (hi : X.N[i]? = some n) (hln : X.env.kindOf n = some .local) (hc : TestOk X t c)
      (hsu : ∀ (a : Addr) (oe : Obj) (cls : Value) (d : Option Addr) (pn : List (Addr × Obj)), Zc cls d oe → (∃ vs, oe.data = .fields vs) → PSs (X.suite a ((a, oe) :: pn)) (b₀ :: suite) (ts a cls d)) (r : HdsOk' X hds l) :
      HdsOk' X (.ExceptHandler (some t) (some n) (b₀ :: suite) pos' :: hds) ((c, fun a cls d D σ H => ts a cls d (asEnds i D) (σ.set i (some (.ref a))) H) :: l)
section
variable {X : Cx} {body : List Stmt} {h₀ : ExceptHandler} {hds : List ExceptHandler} {l : List ((Value → Option Bool) × (Addr → Value → Option Addr → TS))} {pos : Pos} {tb : WX → TS} {Wout : WX} {hot : List Str}
/-- an exception that has landed: the clauses, one after the other -/
theorem catch_go {D : Ends} {pins : List (Addr × Obj)} {a : Addr} {B : Heap} {sI s' : Shared} {σ' : L2.St} {H' : Hp} {cls : Value} {d : Option Addr} {Z : Obj → Prop} (hs : X.stack = X.env :: X.outer) (hf : X.env.frame = some X.env.locals) (ok : X.Ok)
    (hZ : ∀ o, Z o → Zc cls d o) (J : Inv X pins σ' H' sI) (nb : ∀ b o, sI.heap.get? b = some o → b ∉ frs X.stack → B.get? b = some o) (up : sI.heap.UpToSlots s'.heap) (na : H' a = none) (os : s'.os = sI.os) (ag : AllBare s'.gens)
    (thr : ∀ s'' : Shared, sI.heap.UpToSlots s''.heap → Sky B X.stack a Z X.env.locals s''.heap → s''.os = sI.os → AllBare s''.gens → Wout cls d σ' H' → X.xe (.ref a) s'') :
    ∀ {hds' : List ExceptHandler} {l' : List ((Value → Option Bool) × (Addr → Value → Option Addr → TS))}, HdsOk' X hds' l' → wMany' Wout D l' cls d σ' H' → ∀ h3 : Heap, HandSPX.FlyingZ B (X.env :: X.outer) a Z h3 → s'.heap.UpToSlots h3 →
        wpAny (model X.prog X.w) X.A (handleBy (.ref a) X.env hds') (SP X pins D) X.xe { s' with heap := h3 } := by
  have notFr : ∀ {h : Heap} {o : Obj} {vs : Array Value}, h.FunFrames B (X.env :: X.outer) → h.get? a = some o → o.data = .fields vs → a ∉ frs (X.env :: X.outer) := fun {h o vs} ff e dd hm => by
    obtain ⟨_, o', e', hnf⟩ := ff.mem hm
    rw [e] at e'; cases e'
    exact hnf _ dd
  intro hds' l' hk
  induction hk with
  | nil =>
    intro w h3 fl3 up3
    refine wpAny_handleBy_nil ?_
    obtain ⟨k1, k2, k3, oe, vs, T, oT, ts', he, hz, hd, h1, hr⟩ := id fl3
    unfold PySem.passOn
    refine wpAny_bind (wpAny_field he hd h1 ?_)
    rw [if_neg (show ¬ ((Value.ref T == Value.none) = true) from by simp)]
    have fin : wpAny (model X.prog X.w) X.A (setFlight (.ref a) X.env.frame) (fun _ s4 => wpAny (model X.prog X.w) X.A (throw (.ref a) : Sem Flow) (SP X pins D) X.xe s4) X.xe { s' with heap := h3 } := by
      rw [hf]
      refine HandSPX.setFlight_upZ fl3 fun h4 hh4 up4 => wpAny_throw (thr _ ((up.trans up3).trans up4) (.inr (.inr (by rw [hs]; exact hh4))) os ag w)
    first
      | exact wpAny_bind (wpAny_pure (wpAny_bind fin))
      | exact wpAny_bind fin
  | @cons t c ts b₀ suite pos' hds2 l2 hc hsu r ih =>
    intro w h3 fl3 up3
    have J3 : Inv X pins σ' H' { s' with heap := h3 } := J.landed nb fl3.1 (up.trans up3) os ag
    obtain ⟨oe3, vs3, he3, hz3, hd3⟩ := fl3.there
    have nfr := notFr fl3.2.2.1 he3 hd3
    have nL : a ≠ X.env.locals := fun z => nfr (List.mem_filterMap.mpr ⟨X.env, List.mem_cons_self, by rw [hf, z]⟩)
    have nF : a ∉ X.fs := fun hm => by
      obtain ⟨e, he, q⟩ := List.mem_filterMap.mp hm
      exact nfr (List.mem_filterMap.mpr ⟨e, List.mem_cons_of_mem _ he, q⟩)
    have S3 := J3.suite he3 hd3 na nL nF
    obtain ⟨b, hb1, hyes, hno⟩ := w
    refine wpAny_handleBy_cons (codeAny_handlers_test ?_) (by intro q; cases q)
    have LT : PySem.W.Looks (model X.prog X.w) h3 (typeOf (.ref a)) cls := fun A Q E s k q => wpAny_typeOf_ref (k _ _ he3) (by rw [(hZ _ hz3).1]; exact q)
    refine hc a _ _ _ _ cls b S3 J3.kIn LT hb1 _ _ fun h5 kp => ?_
    have fl5 := flyingZ_keeps kp fl3
    have up5 := up3.trans (Heap.UpToSlots.of_keeps kp)
    cases b with
    | true =>
      refine codeAny_handlers_suite ?_
      refine HandSPX.lands_againZ fl5 fun h4 fl4 up4 => ?_
      have J4 : Inv X pins σ' H' { s' with heap := h4 } := J.landed nb fl4.1 ((up.trans up5).trans up4) os ag
      obtain ⟨oe4, vs4, he4, hz4, hd4⟩ := fl4.there
      have S4 := J4.suite he4 hd4 na nL nF
      refine wpAny_mono ((hsu a oe4 cls d (X.pn ++ pins) (hZ _ hz4) ⟨_, hd4⟩).run [] _ _ H' _ S4 (hyes rfl a na)) (fun f s6 hsp => ?_) (fun _ _ z => False.elim z)
      cases f with
      | next =>
        obtain ⟨σ6, H6, S6, q6⟩ := hsp
        exact ⟨_, _, S6.unsuite ok, q6⟩
      | brk =>
        obtain ⟨σ6, H6, S6, q6⟩ := hsp
        exact ⟨_, _, S6.unsuite ok, q6⟩
      | cont =>
        obtain ⟨σ6, H6, S6, q6⟩ := hsp
        exact ⟨_, _, S6.unsuite ok, q6⟩
      | ret u =>
        obtain ⟨v6, σ6, H6, S6, r6, q6⟩ := hsp
        exact ⟨_, _, _, S6.unsuite ok, r6, q6⟩
    | false =>
      show wpAny _ X.A (handleBy (.ref a) X.env hds2) _ _ _
      exact ih (hno rfl) h5 fl5 up5
  | @consAs t n i c ts b₀ suite pos' hds2 l2 hN hi hln hc hsu r ih =>
    intro w h3 fl3 up3
    have J3 : Inv X pins σ' H' { s' with heap := h3 } := J.landed nb fl3.1 (up.trans up3) os ag
    obtain ⟨oe3, vs3, he3, hz3, hd3⟩ := fl3.there
    have nfr := notFr fl3.2.2.1 he3 hd3
    have nL : a ≠ X.env.locals := fun z => nfr (List.mem_filterMap.mpr ⟨X.env, List.mem_cons_self, by rw [hf, z]⟩)
    have nF : a ∉ X.fs := fun hm => by
      obtain ⟨e, he, q⟩ := List.mem_filterMap.mp hm
      exact nfr (List.mem_filterMap.mpr ⟨e, List.mem_cons_of_mem _ he, q⟩)
    have S3 := J3.suite he3 hd3 na nL nF
    obtain ⟨b, hb1, hyes, hno⟩ := w
    refine wpAny_handleBy_cons (codeAny_handlers_test ?_) (by intro q; cases q)
    have LT : PySem.W.Looks (model X.prog X.w) h3 (typeOf (.ref a)) cls := fun A Q E s k q => wpAny_typeOf_ref (k _ _ he3) (by rw [(hZ _ hz3).1]; exact q)
    refine hc a _ _ _ _ cls b S3 J3.kIn LT hb1 _ _ fun h5 kp => ?_
    have fl5 := flyingZ_keeps kp fl3
    have up5 := up3.trans (Heap.UpToSlots.of_keeps kp)
    cases b with
    | true =>
      refine codeAny_handlers_suite_as ?_
      refine HandSPX.lands_againZ fl5 fun h4 fl4 up4 => ?_
      have J4 : Inv X pins σ' H' { s' with heap := h4 } := J.landed nb fl4.1 ((up.trans up5).trans up4) os ag
      obtain ⟨oe4, vs4, he4, hz4, hd4⟩ := fl4.there
      have S4 := J4.suite he4 hd4 na nL nF
      refine store_ok (X := X.suite a ((a, oe4) :: (X.pn ++ pins))) (v := .ref a) S4 hN hi (.inl hln) rfl (fun s5 S5 => ?_) (.inr hln)
      refine wpAny_mono ((hsu a oe4 cls d (X.pn ++ pins) (hZ _ hz4) ⟨_, hd4⟩).run [] s5 _ H' _ S5 (hyes rfl a na)) (fun f s6 hsp => ?_) (fun _ _ z => False.elim z)
      have end_ : ∀ {σ6 : L2.St} {H6 : Hp} {Q : Shared → Prop}, Inv (X.suite a ((a, oe4) :: (X.pn ++ pins))) [] σ6 H6 s6 → (∀ s7, Inv X pins (σ6.set i none) H6 s7 → Q s7) →
          wpAny (model X.prog X.w) X.A (do bindName X.env n .none; unbindBehindTheSuite X.env n pos') (fun _ s7 => Q s7) X.xe s6 := fun {σ6 H6 Q} S6 hq => gone_ok (S6.unsuite ok) hN hi hln hq
      cases f with
      | next =>
        obtain ⟨σ6, H6, S6, q6⟩ := hsp
        exact end_ S6 fun s7 J7 => ⟨_, _, J7, q6⟩
      | brk =>
        obtain ⟨σ6, H6, S6, q6⟩ := hsp
        exact end_ S6 fun s7 J7 => ⟨_, _, J7, q6⟩
      | cont =>
        obtain ⟨σ6, H6, S6, q6⟩ := hsp
        exact end_ S6 fun s7 J7 => ⟨_, _, J7, q6⟩
      | ret u =>
        obtain ⟨v6, σ6, H6, S6, r6, q6⟩ := hsp
        exact end_ S6 fun s7 J7 => ⟨_, _, _, J7, r6, q6⟩
    | false =>
      show wpAny _ X.A (handleBy (.ref a) X.env hds2) _ _ _
      exact ih (hno rfl) h5 fl5 up5
theorem ps_try_many' (hs : X.stack = X.env :: X.outer) (hf : X.env.frame = some X.env.locals) (tk : TakesH hot X Wout)
    (hb : ∀ (W : WX) (pn : List (Addr × Obj)) (xe : Value → Shared → Prop), TakesH hot (X.tr pn xe) W → PassesOwn (model X.prog X.w) X.A X.env xe → PSs (X.tr pn xe) body (tb W))
    (hh : HdsOk' X (h₀ :: hds) l) : PS X (.Try body (h₀ :: hds) [] [] pos) (fun D σ H => tb (wMany' Wout D l) D σ H) := by
  refine ⟨fun pins s σ H D I h => ?_⟩
  have ok := I.ok
  have hfr : X.A.frames = some (X.env :: X.outer) := by rw [ok.frames, hs]
  refine wpAny_Try_except ?_
  refine wpAny_mono ((hb (wMany' Wout D l) (X.pn ++ pins) (fun e s₁ => wpAny (model X.prog X.w) X.A (noteFrame e X.env) (fun _ s₂ => wpAny (model X.prog X.w) X.A (setFlight e none) (fun _ s₃ =>
    wpAny (model X.prog X.w) X.A (handleBy e X.env (h₀ :: hds)) (SP X pins D) X.xe s₃) X.xe s₂) X.xe s₁) (fun u s' xx => ?_) PassesOwn.looking).run [] s σ H D (I.toTry _) h) (fun f s1 hsp => ?_) (fun e s1 he => he)
  · -- the catch
    rcases xx with xx | xx
    · obtain ⟨a, B, sI, pins', σ', H', cls, d, rfl, J', nb, up, sky, na, os, ag, w⟩ := xx
      have J : Inv X pins σ' H' sI := J'.ofTry ok
      have sky' : Sky B (X.env :: X.outer) a (L2N.Zn cls d) X.env.locals s'.heap := by rw [← hs]; exact sky
      show wpAny (model X.prog X.w) X.A (noteFrame (.ref a) X.env) _ _ _
      refine L2N.Sky.land L2N.Zn.steady hfr hf sky' fun h3 fl3 up3 => ?_
      exact catch_go hs hf ok (fun o z => z.zc) J nb up na os ag (fun s'' u1 u2 u3 u4 u5 => tk _ _ (.inl ⟨a, B, sI, pins, σ', H', cls, d, rfl, J, nb, u1, u2, na, u3, u4, u5⟩)) hh w h3 fl3 up3
    · obtain ⟨a, B, sI, pins', σ', H', cls, d, rfl, J', nb, up, sky, na, os, ag, hc, w⟩ := xx
      have J : Inv X pins σ' H' sI := J'.ofTry ok
      have sky' : Sky B (X.env :: X.outer) a (Zc cls d) X.env.locals s'.heap := by rw [← hs]; exact sky
      show wpAny (model X.prog X.w) X.A (noteFrame (.ref a) X.env) _ _ _
      refine L2.Sky.land Zc.steady hfr hf sky' fun h3 fl3 up3 => ?_
      exact catch_go hs hf ok (fun o z => z) J nb up na os ag (fun s'' u1 u2 u3 u4 u5 => tk _ _ (.inr ⟨a, B, sI, pins, σ', H', cls, d, rfl, J, nb, u1, u2, na, u3, u4, hc, u5⟩)) hh w h3 fl3 up3
  · cases f with
    | next =>
      obtain ⟨σ', H', J', q⟩ := hsp
      exact wpAny_execs_nil ⟨σ', H', J'.ofTry ok, q⟩
    | brk =>
      obtain ⟨σ', H', J', q⟩ := hsp
      exact ⟨σ', H', J'.ofTry ok, q⟩
    | cont =>
      obtain ⟨σ', H', J', q⟩ := hsp
      exact ⟨σ', H', J'.ofTry ok, q⟩
    | ret u =>
      obtain ⟨v, σ', H', J', r, q⟩ := hsp
      exact ⟨v, σ', H', J'.ofTry ok, r, q⟩
end
section
variable {X : Cx} {c : Ct} {pos : Pos} {F : En → Out}
def RelOf' (X : Cx) (r : Rel) (m : Value → Option Bool) : Prop := ∀ n C b, r n = some b → X.mg n = some C → m C = some b
def DH' (X : Cx) (c : Ct) (hds : List ExceptHandler) (l : List (Rel × (En → Out))) : Prop := ∃ l', HdsOk' X hds l' ∧
  ∀ (D : Ends) (x : Ex) (ρ : En) (S S' : Hp) (σ' : St) (H' : Hp) (C : Value) (d : Option Addr), Post X.K X.mg c S D (pick x ρ l) → Same S S' → Rep X.K c.wd c.H0 c.S0 S' ρ σ' H' → X.mg x.cls = some C → ExOk X.K S' H' x d → wMany' c.W D l' C d σ' H'
theorem dh_nil' : DH' X c [] [] := ⟨[], .nil, fun D x ρ S S' σ' H' C d p s r m e => p S' σ' H' C d s r m e⟩
theorem dh_cons' {t : Expr} {m : Value → Option Bool} {r : Rel} {b₀ : Stmt} {suite : List Stmt} {pos' : Pos} {hds : List ExceptHandler} {l : List (Rel × (En → Out))} {G : En → Out} (hc : TestOk X t m) (hr : RelOf' X r m)
    (hs : ∀ (a : Addr) (oe : Obj) (cls : Value) (d : Option Addr) (pn : List (Addr × Obj)), Zc cls d oe → (∃ vs, oe.data = .fields vs) → DSs (X.suite a ((a, oe) :: pn)) c.in1 (b₀ :: suite) G) (h : DH' X c hds l) :
    DH' X c (.ExceptHandler (some t) none (b₀ :: suite) pos' :: hds) ((r, G) :: l) := by
  obtain ⟨l', h1, h2⟩ := h
  refine ⟨(m, fun a cls d => tS X.K X.mg c.in1 G) :: l', .cons hc (fun a oe cls d pn hz hf => hs a oe cls d pn hz hf) h1, fun D y ρ S S' σ' H' C d p s rp mm e => ?_⟩
  cases q : r y.cls with
  | none => simp only [pick, q] at p; exact p.elim
  | some b =>
    refine ⟨b, hr _ _ _ q mm, fun hb a _ => ?_, fun hb => ?_⟩
    · subst hb
      simp only [pick, q] at p
      refine ⟨S', ρ, rp, ?_⟩
      have p := p.mono s
      cases z : G ρ with
      | nx ρ1 => rw [z] at p; exact p
      | rt v => rw [z] at p; exact p
      | bk ρ1 => rw [z] at p; exact p
      | ct ρ1 => rw [z] at p; exact p
      | er x ρ1 => rw [z] at p; exact p.elim
      | no => rw [z] at p; exact p.elim
    · subst hb
      simp only [pick, q] at p
      exact h2 D y ρ S S' σ' H' C d p s rp mm e
theorem ds_try' {hot : List Str} {body : List Stmt} {h₀ : ExceptHandler} {hds : List ExceptHandler} {l : List (Rel × (En → Out))} (hs : X.stack = X.env :: X.outer) (hf : X.env.frame = some X.env.locals) (tk : TakesH hot X c.W)
    (hb : ∀ (W : WX) (pn : List (Addr × Obj)) (xe : Value → Shared → Prop), TakesH hot (X.tr pn xe) W → PassesOwn (model X.prog X.w) X.A X.env xe → DSs (X.tr pn xe) { c with W := W } body F)
    (hh : DH' X c (h₀ :: hds) l) : DS X c (.Try body (h₀ :: hds) [] [] pos) (sTry F l) := by
  obtain ⟨l', h1, h2⟩ := hh
  refine ps_imp (ps_try_many' (tb := fun W => tS X.K X.mg { c with W := W } F) hs hf tk (fun W pn xe t p => hb W pn xe t p) h1) fun D σ H ⟨S, ρ, rp, p⟩ => ⟨S, ρ, rp, ?_⟩
  unfold sTry at p
  cases z : F ρ with
  | nx ρ1 => rw [z] at p; exact p
  | rt v => rw [z] at p; exact p
  | bk ρ1 => rw [z] at p; exact p
  | ct ρ1 => rw [z] at p; exact p
  | er x ρ1 => rw [z] at p; exact fun S' σ' H' C d s r m e => h2 D x ρ1 S S' σ' H' C d p s r m e
  | no => rw [z] at p; exact p.elim
end
/-- any of the classes -/
def orR (r1 r2 : Rel) : Rel := fun n => match r1 n, r2 n with
  | some a, some b => some (a || b)
  | _, _ => none
def noR : Rel := fun _ => some false
theorem rel_one' {X : Cx} {cv : Value} {r : Rel} (h : RelOf X r cv) : RelOf' X r (fun cls => PySem.W.exmOne X.K cls cv) := h
theorem rel_cons' {X : Cx} {c : Value} {cs : List Value} {r1 r2 : Rel} (h1 : RelOf X r1 c) (h2 : RelOf' X r2 fun cls => PySem.W.exmAny X.K cls cs) : RelOf' X (orR r1 r2) fun cls => PySem.W.exmAny X.K cls (c :: cs) := by
  intro n C b e m
  unfold orR at e
  cases q1 : r1 n with
  | none => rw [q1] at e; cases e
  | some b1 =>
    cases q2 : r2 n with
    | none => rw [q1, q2] at e; cases e
    | some b2 =>
      rw [q1, q2] at e
      have a1 := h1 n C b1 q1 m
      have a2 := h2 n C b2 q2 m
      show PySem.W.exmAny X.K C (c :: cs) = some b
      have a2' : PySem.W.exmAny X.K C cs = some b2 := a2
      have e' : some (b1 || b2) = some b := e
      show (match PySem.W.exmOne X.K C c, PySem.W.exmAny X.K C cs with
        | some b, some d => some (b || d)
        | _, _ => none) = some b
      rw [a1, a2']
      exact e'
theorem rel_nil' {X : Cx} : RelOf' X noR fun cls => PySem.W.exmAny X.K cls [] := fun n C b e m => e
end D2

namespace D2
open PySem PySem.Spec PyProof.Rows L2
@[simp] theorem orR_ap (r1 r2 : Rel) (n : Str) : orR r1 r2 n = match r1 n, r2 n with
  | some a, some b => some (a || b)
  | _, _ => none := Eq.trans rfl rfl
@[simp] theorem noR_ap (n : Str) : noR n = some false := Eq.trans rfl rfl
/-! ### x = xs.pop(0) -/
def pop0K (ρ : En) (i j : Nat) (xs : List PyData) (d : PyData) : Out := match d, xs with
  | .int 0, x :: r => .nx ((ρ.set i (some (.l r))).set j (some (.d x)))
  | _, _ => .no
def sPop0 (i j : Nat) (f : En → Rs PyData) : En → Out := fun ρ => match ρ[i]? with
  | some (some (.l xs)) => andThen (f ρ) ρ (pop0K ρ i j xs)
  | _ => .no
section
variable {X : Cx} {c : Ct} {pos : Pos} {e : Expr} {f : En → Rs PyData}
theorem ds_pop0 (i : Nat) {j : Nat} {x y : Str} {p1 p2 p3 py : Pos} (he : DE X c e f) (hN' : X.N.Nodup) (hj : X.N[j]? = some y) (hy : Loc X.env.scope y) (hN : X.N[i]? = some x := by rfl) (hv : Vis X.env.scope x := by first | exact Or.inl rfl | exact Or.inr (Or.inl rfl) | exact Or.inr (Or.inr rfl)) (hd : (x == ("__debug__" : Str)) = false := by decide)
    (hcd : (x == ("__classdict__" : Str)) = false := by decide) (hs : swapsWith (.Call (.Attribute (.Name x p1) "pop" p2) [e] [] p3) (some (.Name y py)) pos.line X.env = pure false := by rfl)
    (hbase : attributeBase (.Name x p1) "pop" X.env (eval (.Name x p1) X.env) = eval (.Name x p1) X.env := by rfl)
    (hfew : ((backTo p3 (starEach [e] X.env)).all (fun x => !x.1) && (backToKw p3 (keywordEach [] X.env)).all (fun x => x.1.isSome)
      && decide (([e] : List Expr).length + ([] : List Keyword).length + (if ([] : List Keyword).isEmpty then 0 else 1) < 30)) = true := by rfl)
    (hline : (p2.endLine == p3.line) = true := by rfl) (hst : starEach [e] X.env = (false, eval e X.env) :: starEach [] X.env := by rfl) (hplain : (backTo p3 (starEach [] X.env)).any (·.1) = false := by rfl)
    (hf : X.fn y = true ∨ X.env.scope.names.lookup y = some .local := by first | exact .inl rfl | exact .inr rfl | assumption) :
    DS X c (.Assign [.Name y py] (.Call (.Attribute (.Name x p1) "pop" p2) [e] [] p3) pos) (sPop0 i j f) := by
  refine ps_imp (ps_set hN' hj hy (pe_bm PySem.F.plainAttrs_list PySem.F.slot_list_pop PySem.F.type_list_pop mt_popAt (pe_var hN hv hd hcd) (pa_cons he pa_nil hst) hbase hfew hline hst hplain) hs hf) fun D σ H ⟨S, ρ, rp, p⟩ => ?_
  unfold sPop0 at p
  cases hρ : ρ[i]? with
  | none => rw [hρ] at p; exact p.elim
  | some o =>
    rw [hρ] at p
    cases o with
    | none => exact p.elim
    | some b =>
      cases b with
      | d _ => exact p.elim
      | k _ => exact p.elim
      | f _ => exact p.elim
      | t _ => exact p.elim
      | l xs =>
        obtain ⟨v, e1, a, vs, rfl, h1, h2, h3, h4⟩ := rp.slot i _ hρ
        refine ⟨.ref a, e1, .inl ⟨rfl, vs, .inl (.inl h1)⟩, S, ρ, rp, go_then rp p fun S1 H1 v d o1 hd r1 p1 => ?_⟩
        cases d with
        | int k =>
          cases hd
          cases xs with
          | nil => exact (show False by revert p1; unfold pop0K; split <;> first | exact id | (intro _; simp_all)).elim
          | cons x0 r =>
            by_cases hk : k = 0
            · subst hk
              cases vs with
              | nil => cases h4
              | cons v0 vs' =>
                cases h4 with
                | cons hx hr =>
                  refine ⟨a, v0 :: vs', 0, 0, v0, rfl, rfl, o1.ext _ _ h1, by decide, by decide, by simp [seqIndex?], rfl, ?_⟩
                  exact p1 S1 _ _ (.refl _) ((repRewr r1 hρ e1 (dps_mono o1.s0 _ _ hr)).set j (dp_mono o1.s0 _ _ hx))
            · exact (show False by
                revert p1
                unfold pop0K
                split
                · rename_i h1 _
                  exact absurd (PyData.int.inj h1) hk
                · exact id).elim
        | _ => exact (show False from p1).elim
end
section
variable (i j : Nat) (ρ : En) (xs : List PyData) (f : En → Rs PyData)
def popK0 (ρ : En) (i j : Nat) (r : Rs PyData) : Option (Option B) → Out
  | some (some (.l xs)) => andThen r ρ (pop0K ρ i j xs)
  | _ => .no
@[simp] theorem sPop0_ap : sPop0 i j f ρ = popK0 ρ i j (f ρ) ρ[i]? := by
  unfold sPop0 popK0
  rfl
@[simp] theorem popK0_l (r : Rs PyData) : popK0 ρ i j r (some (some (.l xs))) = andThen r ρ (pop0K ρ i j xs) := Eq.trans rfl rfl
@[simp] theorem pop0K_c (x : PyData) (r : List PyData) : pop0K ρ i j (x :: r) (.int 0) = .nx ((ρ.set i (some (.l r))).set j (some (.d x))) := Eq.trans rfl rfl
end
end D2

namespace D2
open PySem PySem.Spec PyProof.Rows L2
/-! ### x or y as values -/
def eOrV (f g : En → Rs PyData) : En → Rs PyData := fun ρ => (f ρ).bind fun x => (ofO (truth x)).bind fun b => if b = true then .ok x else g ρ
section
variable {X : Cx} {c : Ct} {pos : Pos} {a b : Expr} {rest : List Expr} {f g : En → Rs PyData} {ρ : En}
theorem de_orV (ha : DE X c a f) (hb : DE X c (.BoolOp .Or (b :: rest) pos) g) : DE X c (.BoolOp .Or (a :: b :: rest) pos) (eOrV f g) := by
  refine pe_imp (pe_orT ha hb) fun σ H Q ⟨S, ρ, rp, q⟩ => ?_
  refine ⟨S, ρ, rp, Go.seq q fun S1 H1 x dx o1 hx q1 => ?_⟩
  cases e : truth dx with
  | none => rw [e] at q1; exact q1.elim
  | some k =>
    rw [e] at q1
    refine ⟨k, tru_of o1.sub hx e, ?_⟩
    cases k with
    | true => exact iteT (Go.now (r' := dx) q1 o1.sub hx)
    | false => exact iteF ⟨S1, ρ, rp.step o1, q1⟩
@[simp] theorem eOrV_ap : eOrV f g ρ = (f ρ).bind fun x => (ofO (truth x)).bind fun b => if b = true then .ok x else g ρ := Eq.trans rfl rfl
end
end D2

namespace D2
open PySem PySem.Spec PyProof.Rows L2
/-! ### except X: raise Y() from None -/
def wRaise (m : Value → Option Bool) (C : Value) (Wout : WX) : WX := fun cls d σ H => ∃ b, m cls = some b ∧ (b = true → Wout C none σ H) ∧ (b = false → Wout cls d σ H)
section
variable {X : Cx} {body : List Stmt} {t eR : Expr} {m : Value → Option Bool} {C : Value} {j : Nat} {pos pos' cpos rpos : Pos} {tb : WX → TS} {Wout : WX} {hot : List Str}
theorem ps_tryR (hs : X.stack = X.env :: X.outer) (hf : X.env.frame = some X.env.locals) (hpa : ∀ hd : Option Value, PassesOwnAt (model X.prog X.w) (X.A.mark hd) X.A X.env X.xe) (tk : TakesH hot X Wout) (hc : TestOk X t m)
    (hn : ∀ cls, HotCls hot X.mg cls → m cls ≠ some true) (hC : HotCls hot X.mg C) (he : ∀ (a : Addr) (pn : List (Addr × Obj)), L2H.PMk5 (L2H.suiteX X a pn) eR (fun σ H Q => Q C none H))
    (hb : ∀ (W : WX) (pn : List (Addr × Obj)) (xe : Value → Shared → Prop), TakesH hot (X.tr pn xe) W → PassesOwn (model X.prog X.w) X.A X.env xe → PSs (X.tr pn xe) body (tb W)) :
    PS X (.Try body [.ExceptHandler (some t) none [.Raise (some eR) (some (.Constant .none j cpos)) rpos] pos'] [] [] pos) (fun D σ H => tb (wRaise m C Wout) D σ H) := by
  refine ⟨fun pins s σ H D I h => ?_⟩
  have ok := I.ok
  have hfr : X.A.frames = some (X.env :: X.outer) := by rw [ok.frames, hs]
  have notFr : ∀ {B h : Heap} {a : Addr} {o : Obj} {vs : Array Value}, h.FunFrames B (X.env :: X.outer) → h.get? a = some o → o.data = .fields vs → a ∉ frs (X.env :: X.outer) := fun {B h a o vs} ff e dd hm => by
    obtain ⟨_, o', e', hnf⟩ := ff.mem hm
    rw [e] at e'; cases e'
    exact hnf _ dd
  refine wpAny_Try_except ?_
  refine wpAny_mono ((hb (wRaise m C Wout) (X.pn ++ pins) (fun e s₁ => wpAny (model X.prog X.w) X.A (noteFrame e X.env) (fun _ s₂ => wpAny (model X.prog X.w) X.A (setFlight e none) (fun _ s₃ =>
    wpAny (model X.prog X.w) X.A (handleBy e X.env [.ExceptHandler (some t) none [.Raise (some eR) (some (.Constant .none j cpos)) rpos] pos']) (SP X pins D) X.xe s₃) X.xe s₂) X.xe s₁) (fun u s' xx => ?_) PassesOwn.looking).run [] s σ H D (I.toTry _) h) (fun f s1 hsp => ?_) (fun e s1 he => he)
  · rcases xx with xx | xx
    · -- context None
      obtain ⟨a, B, sI, pins', σ', H', cls, d, rfl, J', nb, up, sky, na, os, ag, b, hb1, hyes, hno⟩ := xx
      have J : Inv X pins σ' H' sI := J'.ofTry ok
      have sky' : Sky B (X.env :: X.outer) a (L2N.Zn cls d) X.env.locals s'.heap := by rw [← hs]; exact sky
      show wpAny (model X.prog X.w) X.A (noteFrame (.ref a) X.env) _ _ _
      refine L2N.Sky.land L2N.Zn.steady hfr hf sky' fun h3 fl3 up3 => ?_
      cases b with
      | false =>
        exact catch_go (l' := [(m, fun _ _ _ _ _ _ => False)]) hs hf ok (fun o z => z.zc) J nb up na os ag (fun s'' u1 u2 u3 u4 u5 => tk _ _ (.inl ⟨a, B, sI, pins, σ', H', cls, d, rfl, J, nb, u1, u2, na, u3, u4, u5⟩))
          (.cons hc (fun _ _ _ _ _ _ _ => ⟨fun _ _ _ _ _ _ z => z.elim⟩) .nil) ⟨false, hb1, (fun z => absurd z (by decide)), fun _ => hno rfl⟩ h3 fl3 up3
      | true =>
        have J3 : Inv X pins σ' H' { s' with heap := h3 } := J.landed nb fl3.1 (up.trans up3) os ag
        obtain ⟨oe3, vs3, he3, hz3, hd3⟩ := fl3.there
        have nfr : a ∉ frs (X.env :: X.outer) := notFr fl3.2.2.1 he3 hd3
        have nL : a ≠ X.env.locals := fun z => nfr (List.mem_filterMap.mpr ⟨X.env, List.mem_cons_self, by rw [hf, z]⟩)
        have nF : a ∉ X.fs := fun hm => by
          obtain ⟨e, he, q⟩ := List.mem_filterMap.mp hm
          exact nfr (List.mem_filterMap.mpr ⟨e, List.mem_cons_of_mem _ he, q⟩)
        have S3 := J3.suite he3 hd3 na nL nF
        refine wpAny_handleBy_cons (codeAny_handlers_test ?_) (by intro q; cases q)
        have LT : PySem.W.Looks (model X.prog X.w) h3 (typeOf (.ref a)) cls := fun A Q E s k q => wpAny_typeOf_ref (k _ _ he3) (by rw [hz3.1]; exact q)
        refine hc a _ _ _ _ cls true S3 J3.kIn LT hb1 _ _ fun h5 kp => ?_
        have fl5 := flyingZ_keeps kp fl3
        have up5 := up3.trans (Heap.UpToSlots.of_keeps kp)
        refine codeAny_handlers_suite ?_
        refine HandSPX.lands_againZ fl5 fun h4 fl4 up4 => ?_
        have J4 : Inv X pins σ' H' { s' with heap := h4 } := J.landed nb fl4.1 ((up.trans up5).trans up4) os ag
        obtain ⟨oe4, vs4, he4, hz4, hd4⟩ := fl4.there
        have S4 := J4.suite he4 hd4 na nL nF
        have tkS : L2.Takes (L2H.suiteX X a ((a, oe4) :: (X.pn ++ pins))) (fun cls d σ H => HotCls hot X.mg cls ∧ Wout cls d σ H) := fun u2 s2 x2 => by
          obtain ⟨a2, B2, sI2, pn2, σ2, H2, cls2, d2, e2, I2, nb2, up2, sky2, na2, os2, ag2, w2⟩ := x2
          exact xe_hot tk u2 s2 ⟨a2, B2, sI2, pins, σ2, H2, cls2, d2, e2, L2H.unsuiteX I2 ok, nb2, up2, sky2, na2, os2, ag2, w2⟩
        have hotc : L2H.HotC (L2H.suiteX X a ((a, oe4) :: (X.pn ++ pins))) := ⟨(a, oe4), ⟨rfl, vs4, hd4, hz4.2.2 vs4 hd4⟩, List.mem_cons_self⟩
        refine wpAny_mono ((pss_one (L2H.ps_raiseHN hotc tkS (he a _))).run [] _ _ H' D (L2H.suiteX_of S4) ⟨hC, hyes rfl⟩) (fun f s6 hsp => ?_) (fun e6 s6 z => hpa (some (.ref a)) e6 s6 z)
        cases f with
        | next =>
          obtain ⟨σ6, H6, S6, q6⟩ := hsp
          exact ⟨_, _, L2H.unsuiteX S6 ok, q6⟩
        | brk =>
          obtain ⟨σ6, H6, S6, q6⟩ := hsp
          exact ⟨_, _, L2H.unsuiteX S6 ok, q6⟩
        | cont =>
          obtain ⟨σ6, H6, S6, q6⟩ := hsp
          exact ⟨_, _, L2H.unsuiteX S6 ok, q6⟩
        | ret u =>
          obtain ⟨v6, σ6, H6, S6, r6, q6⟩ := hsp
          exact ⟨_, _, _, L2H.unsuiteX S6 ok, r6, q6⟩
    · obtain ⟨a, B, sI, pins', σ', H', cls, d, rfl, J', nb, up, sky, na, os, ag, hh, b, hb1, hyes, hno⟩ := xx
      have hbf : b = false := by
        cases b with
        | false => rfl
        | true => exact absurd hb1 (hn cls hh)
      subst hbf
      have J : Inv X pins σ' H' sI := J'.ofTry ok
      have sky' : Sky B (X.env :: X.outer) a (Zc cls d) X.env.locals s'.heap := by rw [← hs]; exact sky
      show wpAny (model X.prog X.w) X.A (noteFrame (.ref a) X.env) _ _ _
      refine L2.Sky.land Zc.steady hfr hf sky' fun h3 fl3 up3 => ?_
      exact catch_go (l' := [(m, fun _ _ _ _ _ _ => False)]) hs hf ok (fun o z => z) J nb up na os ag (fun s'' u1 u2 u3 u4 u5 => tk _ _ (.inr ⟨a, B, sI, pins, σ', H', cls, d, rfl, J, nb, u1, u2, na, u3, u4, hh, u5⟩))
        (.cons hc (fun _ _ _ _ _ _ _ => ⟨fun _ _ _ _ _ _ z => z.elim⟩) .nil) ⟨false, hb1, (fun z => absurd z (by decide)), fun _ => hno rfl⟩ h3 fl3 up3
  · cases f with
    | next =>
      obtain ⟨σ', H', J', q⟩ := hsp
      exact wpAny_execs_nil ⟨σ', H', J'.ofTry ok, q⟩
    | brk =>
      obtain ⟨σ', H', J', q⟩ := hsp
      exact ⟨σ', H', J'.ofTry ok, q⟩
    | cont =>
      obtain ⟨σ', H', J', q⟩ := hsp
      exact ⟨σ', H', J'.ofTry ok, q⟩
    | ret u =>
      obtain ⟨v, σ', H', J', r, q⟩ := hsp
      exact ⟨v, σ', H', J'.ofTry ok, r, q⟩
end
/-- except (those of r): raise y() from None -/
def pickR (r : Rel) (y : Str) (x : Ex) (ρ : En) : Out := match r x.cls with
  | some true => .er (.plain y) ρ
  | some false => .er x ρ
  | none => .no
def sTryR (F : En → Out) (r : Rel) (y : Str) : En → Out := fun ρ => match F ρ with
  | .er x ρ' => pickR r y x ρ'
  | o => o
section
variable {X : Cx} {c : Ct} {pos : Pos} {F : En → Out} {hot : List Str}
theorem ds_tryR {body : List Stmt} {t eR : Expr} {m : Value → Option Bool} {C : Addr} {y : Str} {j : Nat} {pos' cpos rpos : Pos} {r : Rel} (hs : X.stack = X.env :: X.outer) (hf : X.env.frame = some X.env.locals) (hpa : ∀ hd : Option Value, PassesOwnAt (model X.prog X.w) (X.A.mark hd) X.A X.env X.xe)
    (tk : TakesH hot X c.W) (hc : TestOk X t m) (hr : RelOf' X r m) (hn : ∀ z ∈ hot, r z = some false) (hy : y ∈ hot) (gC : X.mg y = some (.ref C)) (he : ∀ (a : Addr) (pn : List (Addr × Obj)), L2H.PMk5 (L2H.suiteX X a pn) eR (fun σ H Q => Q (.ref C) none H))
    (hb : ∀ (W : WX) (pn : List (Addr × Obj)) (xe : Value → Shared → Prop), TakesH hot (X.tr pn xe) W → PassesOwn (model X.prog X.w) X.A X.env xe → DSs (X.tr pn xe) { c with W := W } body F) :
    DS X c (.Try body [.ExceptHandler (some t) none [.Raise (some eR) (some (.Constant .none j cpos)) rpos] pos'] [] [] pos) (sTryR F r y) := by
  refine ps_imp (ps_tryR (tb := fun W => tS X.K X.mg { c with W := W } F) hs hf hpa tk hc (fun cls ⟨z, hz, hm⟩ e => ?_) ⟨y, hy, gC⟩ he (fun W pn xe t p => hb W pn xe t p)) fun D σ H ⟨S, ρ, rp, p⟩ => ⟨S, ρ, rp, ?_⟩
  · have := hr z cls false (hn z hz) hm
    rw [e] at this
    cases this
  · unfold sTryR at p
    cases z : F ρ with
    | nx ρ1 => rw [z] at p; exact p
    | rt v => rw [z] at p; exact p
    | bk ρ1 => rw [z] at p; exact p
    | ct ρ1 => rw [z] at p; exact p
    | er x ρ1 =>
      rw [z] at p
      intro S' σ' H' C' d s rp' mx ex
      have p : Post X.K X.mg c S D (pickR r y x ρ1) := p
      unfold pickR at p
      cases q : r x.cls with
      | none => rw [q] at p; exact p.elim
      | some b =>
        rw [q] at p
        refine ⟨b, hr _ _ _ q mx, fun hb' => ?_, fun hb' => ?_⟩
        · subst hb'
          exact p S' σ' H' (.ref C) none s rp' gC rfl
        · subst hb'
          exact p S' σ' H' C' d s rp' mx ex
    | no => rw [z] at p; exact p.elim
end
def tryR (r : Rel) (y : Str) : Out → Out
  | .er x ρ => pickR r y x ρ
  | o => o
@[simp] theorem sTryR_ap (F : En → Out) (r : Rel) (y : Str) (ρ : En) : sTryR F r y ρ = tryR r y (F ρ) := by unfold sTryR tryR; rfl
@[simp] theorem tryR_nx (r : Rel) (y : Str) (ρ : En) : tryR r y (.nx ρ) = .nx ρ := Eq.trans rfl rfl
@[simp] theorem tryR_rt (r : Rel) (y : Str) (d : PyData) : tryR r y (.rt d) = .rt d := Eq.trans rfl rfl
@[simp] theorem tryR_ct (r : Rel) (y : Str) (ρ : En) : tryR r y (.ct ρ) = .ct ρ := Eq.trans rfl rfl
@[simp] theorem tryR_bk (r : Rel) (y : Str) (ρ : En) : tryR r y (.bk ρ) = .bk ρ := Eq.trans rfl rfl
@[simp] theorem tryR_er (r : Rel) (y : Str) (x : Ex) (ρ : En) : tryR r y (.er x ρ) = match r x.cls with
  | some true => .er (.plain y) ρ
  | some false => .er x ρ
  | none => .no := Eq.trans rfl rfl
end D2

namespace D2
open PySem PySem.Spec PyProof.Rows L2
/-! ### dicts whose keys are tuples of ints and texts -/
abbrev KDt := List (List Key × PyData)
def getT (kvs : KDt) (k : List Key) : Option PyData := (kvs.find? fun p => decide (p.1 = k)).map (·.2)
def putT (kvs : KDt) (k : List Key) (d : PyData) : KDt := if (kvs.any fun p => decide (p.1 = k)) = true then kvs.map (fun p => if p.1 = k then (p.1, d) else p) else kvs ++ [(k, d)]
abbrev KPt (K : PySem.W.Frag) (S : Hp) : List (List Key × V) → KDt → Prop := Paired (fun (p : List Key × V) (q : List Key × PyData) => p.1 = q.1 ∧ Dq K S p.2 q.2)
section
variable {K : PySem.W.Frag} {S S' H : Hp}
theorem KPt.mono {ws : List (List Key × V)} {kvs : KDt} (h : KPt K S ws kvs) (e : Same S S') : KPt K S' ws kvs := Paired.mapP h fun p q z => ⟨z.1, dp_mono e _ _ z.2⟩
theorem KPt.some {k : List Key} {d : PyData} : ∀ {ws : List (List Key × V)} {kvs : KDt}, KPt K S ws kvs → getT kvs k = some d → ∃ v, valV ws k = some v ∧ Dq K S v d
  | _, _, .nil, e => by simp [getT] at e
  | p :: ws, q :: kvs, .cons h t, e => by
    by_cases hk : q.1 = k
    · have : getT (q :: kvs) k = Option.some q.2 := by simp [getT, List.find?_cons, hk]
      rw [this] at e
      cases e
      exact ⟨p.2, valV_pos (h.1.trans hk), h.2⟩
    · have e2 : getT (q :: kvs) k = getT kvs k := by simp [getT, List.find?_cons, hk]
      rw [e2] at e
      obtain ⟨v, e3, hv⟩ := KPt.some t e
      exact ⟨v, by rw [valV_neg (fun z => hk (h.1.symm.trans z))]; exact e3, hv⟩
theorem KPt.none {k : List Key} : ∀ {ws : List (List Key × V)} {kvs : KDt}, KPt K S ws kvs → getT kvs k = none → valV ws k = none
  | _, _, .nil, e => rfl
  | p :: ws, q :: kvs, .cons h t, e => by
    by_cases hk : q.1 = k
    · have : getT (q :: kvs) k = Option.some q.2 := by simp [getT, List.find?_cons, hk]
      rw [this] at e
      cases e
    · have e2 : getT (q :: kvs) k = getT kvs k := by simp [getT, List.find?_cons, hk]
      rw [e2] at e
      rw [valV_neg (fun z => hk (h.1.symm.trans z))]
      exact KPt.none t e
theorem KPt.any {k : List Key} : ∀ {ws : List (List Key × V)} {kvs : KDt}, KPt K S ws kvs → (ws.any fun p => decide (p.1 = k)) = kvs.any fun p => decide (p.1 = k)
  | _, _, .nil => rfl
  | p :: ws, q :: kvs, .cons h t => by rw [List.any_cons, List.any_cons, KPt.any t, h.1]
theorem KPt.map {k : List Key} {v : V} {d : PyData} (hd : Dq K S v d) : ∀ {ws : List (List Key × V)} {kvs : KDt}, KPt K S ws kvs → KPt K S (ws.map fun p => if p.1 = k then (p.1, v) else p) (kvs.map fun p => if p.1 = k then (p.1, d) else p)
  | _, _, .nil => .nil
  | p :: ws, q :: kvs, .cons h t => by
    refine .cons ?_ (KPt.map hd t)
    show ((if p.1 = k then (p.1, v) else p).1 = (if q.1 = k then (q.1, d) else q).1) ∧ Dq K S (if p.1 = k then (p.1, v) else p).2 (if q.1 = k then (q.1, d) else q).2
    by_cases hk : q.1 = k
    · rw [if_pos (h.1.trans hk), if_pos hk]; exact ⟨h.1, hd⟩
    · rw [if_neg (fun z => hk (h.1.symm.trans z)), if_neg hk]; exact h
theorem KPt.app {ws' : List (List Key × V)} {kvs' : KDt} (h' : KPt K S ws' kvs') : ∀ {ws : List (List Key × V)} {kvs : KDt}, KPt K S ws kvs → KPt K S (ws ++ ws') (kvs ++ kvs')
  | _, _, .nil => h'
  | _, _, .cons h t => .cons h (KPt.app h' t)
theorem KPt.put {k : List Key} {v : V} {d : PyData} {ws : List (List Key × V)} {kvs : KDt} (h : KPt K S ws kvs) (hd : Dq K S v d) : KPt K S (putK ws k v) (putT kvs k d) := by
  unfold putK putT
  rw [h.any]
  by_cases e : (kvs.any fun p => decide (p.1 = k)) = true
  · rw [if_pos e, if_pos e]; exact h.map hd
  · rw [if_neg e, if_neg e]; exact KPt.app (Paired.cons (a := (k, v)) (b := (k, d)) ⟨rfl, hd⟩ .nil) h
end
section
variable {K : PySem.W.Frag} {wd : World} {H0 S0 S H S1 H1 : Hp} {ρ : En} {σ : St}
theorem repOwnT (r : Rep K wd H0 S0 S ρ σ H) {p : Addr} {ws : List (List Key × V)} {xs : KDt} (i : Nat) (hp : H p = none) (h : KPt K S ws xs) : Rep K wd H0 S0 S (ρ.set i (some (.t xs))) (σ.set i (some (.ref p))) (upd H p (.dT ws)) := by
  have hs : S p = none := r.sub.free hp
  have h0 : H0 p = none := r.old.ext.free hp
  have r2 := r.write (o := .dT ws) (r.fresh hp) h0 hs
  refine ⟨r2.old, fun j b e => ?_, fun j l b d hn e1 e2 o1 o2 => ?_, by simpa using r.len⟩
  · rcases getE_set e with ⟨rfl, eb⟩ | ⟨hn, e⟩
    · have hi : i < ρ.length := by
        by_cases hi : i < ρ.length
        · exact hi
        · rw [List.getElem?_eq_none (by simpa using hi)] at e; cases e
      cases Option.some.inj eb
      exact ⟨.ref p, List.getElem?_set_self (by rw [← r.len]; exact hi), p, ws, rfl, upd_same, hs, h0, h⟩
    · obtain ⟨w, e1, h1⟩ := r2.slot j b e
      exact ⟨w, by rw [List.getElem?_set_ne hn]; exact e1, h1⟩
  · have fr := r.fresh hp
    have hlen : ∀ {j : Nat} {b : B}, (ρ.set i (some (.t xs)))[j]? = some (some b) → i = j → (σ.set i (some (.ref p)))[j]? = some (some (.ref p)) := by
      intro j b e hij
      subst hij
      have hi : i < ρ.length := by
        by_cases hi : i < ρ.length
        · exact hi
        · rw [List.getElem?_eq_none (by simpa using hi)] at e; cases e
      exact List.getElem?_set_self (by rw [← r.len]; exact hi)
    by_cases hj : i = j
    · have hl : i ≠ l := fun z => hn (hj.symm.trans z)
      rw [hlen e1 hj, List.getElem?_set_ne hl]
      rw [List.getElem?_set_ne hl] at e2
      exact fun z => fr l d e2 o2 z.symm
    · rw [List.getElem?_set_ne hj] at e1 ⊢
      by_cases hl : i = l
      · rw [hlen e2 hl]
        exact fun z => fr j b e1 o1 z
      · rw [List.getElem?_set_ne hl] at e2 ⊢
        exact r.apart j l b d hn e1 e2 o1 o2
theorem repRewrT (r : Rep K wd H0 S0 S ρ σ H) {i : Nat} {a : Addr} {ws' : List (List Key × V)} {xs xs' : KDt} (e : ρ[i]? = some (some (.t xs))) (hσ : σ[i]? = some (some (.ref a))) (h : KPt K S ws' xs') :
    Rep K wd H0 S0 S (ρ.set i (some (.t xs'))) σ (upd H a (.dT ws')) := by
  obtain ⟨v, e1, a', ws, ev, h1, h2, h3, h4⟩ := r.slot i _ e
  subst ev
  rw [hσ] at e1
  cases Option.some.inj (Option.some.inj e1)
  have ap : Apart (ρ.set i none) σ a := fun j b eb o z => by
    rcases getE_set eb with ⟨rfl, eq⟩ | ⟨hn, eb⟩
    · cases eq
    · exact r.apart i j _ _ hn e eb rfl o (by rw [hσ, z])
  have r2 := (r.forget i).write (o := .dT ws') ap h3 h2
  refine ⟨r2.old, fun j b eb => ?_, fun j l b d hn e1 e2 o1 o2 => ?_, by simpa using r.len⟩
  · rcases getE_set eb with ⟨rfl, eq⟩ | ⟨hn, eb⟩
    · cases Option.some.inj eq
      exact ⟨_, hσ, a, ws', rfl, upd_same, h2, h3, h⟩
    · exact r2.slot j b (by rw [List.getElem?_set_ne hn]; exact eb)
  · have old : ∀ {j : Nat} {b : B}, (ρ.set i (some (.t xs')))[j]? = some (some b) → owned b = true → ∃ b', ρ[j]? = some (some b') ∧ owned b' = true := by
      intro j b eb o
      rcases getE_set eb with ⟨rfl, eq⟩ | ⟨hn, eb⟩
      · exact ⟨_, e, rfl⟩
      · exact ⟨b, eb, o⟩
    obtain ⟨b', q1, q2⟩ := old e1 o1
    obtain ⟨d', q3, q4⟩ := old e2 o2
    exact r.apart j l b' d' hn q1 q3 q2 q4
end
def keysOf : List PyData → Option (List Key)
  | [] => some []
  | d :: ds => match keyOf d, keysOf ds with
    | some k, some ks => some (k :: ks)
    | _, _ => none
theorem keysOf_dq {K : PySem.W.Frag} {S : Hp} : ∀ {ds : List PyData} {ks : List Key} {vs : List V}, keysOf ds = some ks → DqAll K S vs ds → vs = ks.map kV
  | [], ks, vs, e, h => by cases e; cases h; rfl
  | d :: ds, ks, vs, e, h => by
    cases h with
    | cons h1 h2 =>
      unfold keysOf at e
      cases e1 : keyOf d with
      | none => rw [e1] at e; cases e
      | some k =>
        cases e2 : keysOf ds with
        | none => rw [e1, e2] at e; cases e
        | some r =>
          rw [e1, e2] at e
          cases e
          rw [key_dq e1 h1, keysOf_dq e2 h2]
          rfl
def keysL (ds : List PyData) : Option (List Key) := if ds.length ≤ 100 then keysOf ds else none
theorem keysL_of {ds : List PyData} {k : List Key} (h : keysL ds = some k) : keysOf ds = some k ∧ ds.length ≤ 100 := by
  unfold keysL at h
  split at h
  · exact ⟨h, by assumption⟩
  · cases h
def slT : Option (Option B) → Rs KDt
  | some (some (.t kvs)) => .ok kvs
  | _ => .no
def tgetK (kvs : KDt) (ds : List PyData) : Rs PyData := ofO ((keysL ds).bind (getT kvs))
def tinK (kvs : KDt) (ds : List PyData) : Rs PyData := ofO ((keysL ds).map fun k => .bool (getT kvs k).isSome)
def tninK (kvs : KDt) (ds : List PyData) : Rs PyData := ofO ((keysL ds).map fun k => .bool (!(getT kvs k).isSome))
def eTGet (i : Nat) (fa : En → Rs (List PyData)) : En → Rs PyData := fun ρ => (slT ρ[i]?).bind fun kvs => (fa ρ).bind (tgetK kvs)
def eTIn (i : Nat) (fa : En → Rs (List PyData)) : En → Rs PyData := fun ρ => (slT ρ[i]?).bind fun kvs => (fa ρ).bind (tinK kvs)
def eTNin (i : Nat) (fa : En → Rs (List PyData)) : En → Rs PyData := fun ρ => (slT ρ[i]?).bind fun kvs => (fa ρ).bind (tninK kvs)
def sTNew (i : Nat) : En → Out := fun ρ => .nx (ρ.set i (some (.t [])))
def tputV (ρ : En) (i : Nat) (kvs : KDt) (d : PyData) (ds : List PyData) : Out := match keysL ds with
  | some k => if kvs.length < 16777216 then .nx (ρ.set i (some (.t (putT kvs k d)))) else .no
  | none => .no
def tputK (ρ : En) (i : Nat) (r : Rs PyData) (ra : Rs (List PyData)) : Option (Option B) → Out
  | some (some (.t kvs)) => andThen r ρ fun d => andThen ra ρ (tputV ρ i kvs d)
  | _ => .no
def sTPut (i : Nat) (fa : En → Rs (List PyData)) (f : En → Rs PyData) : En → Out := fun ρ => tputK ρ i (f ρ) (fa ρ) ρ[i]?
section
variable {X : Cx} {c : Ct} {pos : Pos} {e : Expr} {es : List Expr} {f : En → Rs PyData} {fa : En → Rs (List PyData)}
theorem slT_ne (o : Option (Option B)) (x : Ex) : slT o ≠ .er x := by
  cases o with
  | none => intro z; cases z
  | some o =>
    cases o with
    | none => intro z; cases z
    | some b => cases b <;> (intro z; cases z)
theorem slot_t {K : PySem.W.Frag} {wd : World} {H0 S0 S H : Hp} {ρ : En} {σ : St} (rp : Rep K wd H0 S0 S ρ σ H) {i : Nat} {kvs : KDt} (e : slT ρ[i]? = .ok kvs) : ∃ a ws, σ[i]? = some (some (.ref a)) ∧ H a = some (.dT ws) ∧ KPt K S ws kvs := by
  cases hρ : ρ[i]? with
  | none => rw [hρ] at e; cases e
  | some o =>
    rw [hρ] at e
    cases o with
    | none => cases e
    | some b =>
      obtain ⟨v, e1, h1⟩ := rp.slot i b hρ
      cases b with
      | t ys =>
        cases e
        obtain ⟨a, ws, rfl, q1, q2, q3, q4⟩ := h1
        exact ⟨a, ws, e1, q1, q4⟩
      | _ => cases e
theorem k_noT {α β : Type} {K : PySem.W.Frag} {mg : Str → Option Value} {R : Hp → β → α → Prop} {S H : Hp} {r : Rs KDt} {k : KDt → Rs α} {Q : β → Hp → Prop} {E : XK} (h : Go K mg R S H (r.bind k) Q E) (ne : ∀ x, r ≠ .er x) : ∃ kvs, r = .ok kvs ∧ Go K mg R S H (k kvs) Q E := by
  cases r with
  | ok a => exact ⟨a, rfl, h⟩
  | er x => exact absurd rfl (ne x)
  | no => exact h.elim
theorem getS {K : PySem.W.Frag} {S : Hp} {ws : List (List Key × V)} {kvs : KDt} {k : List Key} (kp : KPt K S ws kvs) : (valV ws k).isSome = (getT kvs k).isSome := by
  cases e : getT kvs k with
  | none => rw [kp.none e]; rfl
  | some x =>
    obtain ⟨u, e2, h⟩ := kp.some e
    rw [e2]
    rfl
theorem in_go {K : PySem.W.Frag} {mg : Str → Option Value} {S1 H1 : Hp} {p : Addr} {xs : List V} {b : Bool} {Q : VK} {E : XK} (sub : Same S1 H1) (hp : H1 p = none) (q : Go K mg (Dq K) S1 H1 (.ok (.bool b)) Q E) : Q (.bl b) (upd H1 p (.tup xs)) :=
  q (upd S1 p (.tup xs)) (upd H1 p (.tup xs)) (.bl b) (.new sub hp) (.bl _)
theorem dget_t {X : Cx} {H1 S1 : Hp} {d p : Addr} {ws : List (List Key × V)} {k : List Key} {xs : List V} {dxs : List PyData} (hH1 : H1 d = some (.dT ws)) (hp : H1 p = none) (ek : keysOf dxs = some k) (hx : DqAll X.K S1 xs dxs) : DGet (upd H1 p (.tup xs)) d (.ref p) (valV ws k) :=
  .inr ⟨ws, k, p, .inl (by rw [upd_ne (ne_of_none hH1 hp)]; exact hH1), rfl, by rw [upd_same, keysOf_dq ek hx], rfl⟩
theorem tTIn_of {i : Nat} {σ : St} {H : Hp} {Q : VK} (q : tE X.K X.mg c (eTIn i fa) σ H Q) : tDIn (tTup (tA X.K X.mg c fa)) (tVar i) σ H Q := by
  obtain ⟨S, ρ, rp, q⟩ := q
  obtain ⟨kvs, e1, q1⟩ := k_noT q (slT_ne _)
  obtain ⟨d, ws, es, hd, kp⟩ := slot_t rp e1
  refine ⟨S, ρ, rp, Go.seq q1 fun S1 H1 xs dxs o1 hx q2 => ?_⟩
  cases ek : keysL dxs with
  | none => simp only [tinK, ek] at q2; exact q2.elim
  | some k =>
    simp only [tinK, ek] at q2
    obtain ⟨ek2, hl⟩ := keysL_of ek
    refine ⟨by rw [DqAll.length hx, sizeLine_eq]; omega, fun p hp => ⟨_, es, d, valV ws k, rfl, dget_t (o1.ext _ _ hd) hp ek2 hx, ?_⟩⟩
    rw [getS kp]
    exact in_go o1.sub hp q2
theorem tTNin_of {i : Nat} {σ : St} {H : Hp} {Q : VK} (q : tE X.K X.mg c (eTNin i fa) σ H Q) : tDNotIn (tTup (tA X.K X.mg c fa)) (tVar i) σ H Q := by
  obtain ⟨S, ρ, rp, q⟩ := q
  obtain ⟨kvs, e1, q1⟩ := k_noT q (slT_ne _)
  obtain ⟨d, ws, es, hd, kp⟩ := slot_t rp e1
  refine ⟨S, ρ, rp, Go.seq q1 fun S1 H1 xs dxs o1 hx q2 => ?_⟩
  cases ek : keysL dxs with
  | none => simp only [tninK, ek] at q2; exact q2.elim
  | some k =>
    simp only [tninK, ek] at q2
    obtain ⟨ek2, hl⟩ := keysL_of ek
    refine ⟨by rw [DqAll.length hx, sizeLine_eq]; omega, fun p hp => ⟨_, es, d, valV ws k, rfl, dget_t (o1.ext _ _ hd) hp ek2 hx, ?_⟩⟩
    rw [getS kp]
    exact in_go o1.sub hp q2
variable (i : Nat) {x : Str} {p p2 : Pos} {k2 : Nat} (hu : X.A.units + 65 < cLine) (ha : DA X c es fa) (hN : X.N[i]? = some x := by rfl) (hv : Vis X.env.scope x := by first | exact Or.inl rfl | exact Or.inr (Or.inl rfl) | exact Or.inr (Or.inr rfl)) (hd : (x == ("__debug__" : Str)) = false := by decide)
    (hcd : (x == ("__classdict__" : Str)) = false := by decide)
include hu ha hN hv hd hcd
theorem de_tin (hm : behindInMarks .In (.Name x p) = false := by first | rfl | exact nomark _) : DE X c (.Compare (.Tuple es k2 p2) [.In] [.Name x p] pos) (eTIn i fa) :=
  pe_imp (pe_cmp (pc_din (by omega) (pe_tup ha) (pe_var hN hv hd hcd)) hm) fun _ _ _ q => tTIn_of q
theorem de_tnin (hm : behindInMarks .NotIn (.Name x p) = false := by first | rfl | exact nomark _) : DE X c (.Compare (.Tuple es k2 p2) [.NotIn] [.Name x p] pos) (eTNin i fa) :=
  pe_imp (pe_cmp (pc_dnotin (by omega) (pe_tup ha) (pe_var hN hv hd hcd)) hm) fun _ _ _ q => tTNin_of q
theorem dt_tin (hm : behindInMarks .In (.Name x p) = false := by first | rfl | exact nomark _) : DT X c (.Compare (.Tuple es k2 p2) [.In] [.Name x p] pos) (bOf (eTIn i fa)) :=
  pt_imp (pt_cmp (pc_din (by omega) (pe_tup ha) (pe_var hN hv hd hcd)) hm) fun _ _ _ q => tTest_of (fun _ q => tTIn_of q) q
theorem dt_tnin (hm : behindInMarks .NotIn (.Name x p) = false := by first | rfl | exact nomark _) : DT X c (.Compare (.Tuple es k2 p2) [.NotIn] [.Name x p] pos) (bOf (eTNin i fa)) :=
  pt_imp (pt_cmp (pc_dnotin (by omega) (pe_tup ha) (pe_var hN hv hd hcd)) hm) fun _ _ _ q => tTest_of (fun _ q => tTNin_of q) q
theorem de_tget (hs : NoSl (.Tuple es k2 p2) := by exact fun _ _ => rfl) : DE X c (.Subscript (.Name x p) (.Tuple es k2 p2) pos) (eTGet i fa) := by
  refine pe_imp (pe_dget (by omega) (pe_var hN hv hd hcd) (pe_tup ha) hs) fun σ H Q ⟨S, ρ, rp, q⟩ => ?_
  obtain ⟨kvs, e1, q1⟩ := k_noT q (slT_ne _)
  obtain ⟨d, ws, es', hdd, kp⟩ := slot_t rp e1
  refine ⟨_, es', S, ρ, rp, Go.seq q1 fun S1 H1 xs dxs o1 hx q2 => ?_⟩
  cases ek : keysL dxs with
  | none => simp only [tgetK, ek] at q2; exact q2.elim
  | some k =>
    obtain ⟨ek2, hl⟩ := keysL_of ek
    cases eg : getT kvs k with
    | none => simp only [tgetK, ek, Option.bind_some, eg] at q2; exact q2.elim
    | some y =>
      simp only [tgetK, ek, Option.bind_some, eg] at q2
      obtain ⟨v, ev, hvv⟩ := (kp.mono o1.s0).some eg
      refine ⟨by rw [DqAll.length hx, sizeLine_eq]; omega, fun p hp => ⟨d, v, rfl, ?_, ?_⟩⟩
      · rw [← ev]
        exact dget_t (o1.ext _ _ hdd) hp ek2 hx
      · exact q2 (upd S1 p (.tup xs)) (upd H1 p (.tup xs)) v (.new o1.sub hp) (dp_mono (same_upd (o1.sub.free hp)) _ _ hvv)
theorem ds_tput {p3 : Pos} (hf : DE X c e f) (hs : swapsWith e (some (.Subscript (.Name x p) (.Tuple es k2 p2) p3)) pos.line X.env = pure false := by rfl) : DS X c (.Assign [.Subscript (.Name x p) (.Tuple es k2 p2) p3] e pos) (sTPut i fa f) := by
  refine ps_imp (ps_dput (by omega) (pe_var hN hv hd hcd) (pe_tup ha) hf hs) fun D σ H ⟨S, ρ, rp, pp⟩ => ?_
  unfold sTPut tputK at pp
  cases hρ : ρ[i]? with
  | none => rw [hρ] at pp; exact pp.elim
  | some o =>
    rw [hρ] at pp
    cases o with
    | none => exact pp.elim
    | some b =>
      cases b with
      | t kvs =>
        obtain ⟨v0, e1, ad, ws, rfl, h1, h2, h3, h4⟩ := rp.slot i _ hρ
        refine ⟨S, ρ, rp, go_then rp pp fun S1 H1 v d o1 hd1 r1 p1 => ⟨_, e1, S1, ρ, r1, go_then r1 p1 fun S2 H2 xs dxs o2 hx r2 p2 => ?_⟩⟩
        unfold tputV at p2
        cases ek : keysL dxs with
        | none => rw [ek] at p2; exact p2.elim
        | some k =>
          rw [ek] at p2
          simp only at p2
          obtain ⟨ek2, hl2⟩ := keysL_of ek
          by_cases hl : kvs.length < 16777216
          · rw [if_pos hl] at p2
            have kp : KPt X.K S2 ws kvs := KPt.mono h4 (o1.s0.trans o2.s0)
            have hH2 := o2.ext _ _ (o1.ext _ _ h1)
            refine ⟨by rw [DqAll.length hx, sizeLine_eq]; omega, fun q hq => ⟨ad, _, rfl, .inr ⟨ws, k, q, ?_, rfl, ?_, by rw [Paired.length kp, sizeLine_eq]; exact hl, rfl⟩, ?_⟩⟩
            · rw [upd_ne (ne_of_none hH2 hq)]; exact hH2
            · rw [upd_same, keysOf_dq ek2 hx]
            · have o3 : Old H2 S2 (upd S2 q (.tup xs)) (upd H2 q (.tup xs)) := .new o2.sub hq
              have kp3 : KPt X.K (upd S2 q (.tup xs)) ws kvs := KPt.mono kp o3.s0
              exact p2 _ _ _ o3.s0 (repRewrT (r2.step o3) hρ e1 (kp3.put (dp_mono (o2.s0.trans o3.s0) _ _ hd1)))
          · rw [if_neg hl] at p2
            exact p2.elim
      | _ => exact pp.elim
end
theorem ds_tnew {X : Cx} {c : Ct} {pos : Pos} {i : Nat} {x : Str} {pos' p2 : Pos} (hN : X.N.Nodup) (hi : X.N[i]? = some x) (hx : Loc X.env.scope x) (hs : swapsWith (.Dict [] [] p2) (some (.Name x pos')) pos.line X.env = pure false := by rfl) (hf : X.fn x = true ∨ X.env.scope.names.lookup x = some .local := by first | exact .inl rfl | exact .inr rfl | assumption) :
    DS X c (.Assign [.Name x pos'] (.Dict [] [] p2) pos) (sTNew i) := by
  refine ps_imp (ps_set hN hi hx pe_dnewT hs hf) fun D σ H ⟨S, ρ, rp, p⟩ => fun q hq => ?_
  exact p S _ _ (.refl _) (repOwnT rp i hq .nil)
section
variable (i : Nat) (ρ : En) (fa : En → Rs (List PyData)) (f : En → Rs PyData) (kvs : KDt) (d : PyData) (ds : List PyData)
@[simp] theorem slT_t : slT (some (some (.t kvs))) = .ok kvs := Eq.trans rfl rfl
@[simp] theorem eTGet_ap : eTGet i fa ρ = (slT ρ[i]?).bind fun kvs => (fa ρ).bind (tgetK kvs) := Eq.trans rfl rfl
@[simp] theorem eTIn_ap : eTIn i fa ρ = (slT ρ[i]?).bind fun kvs => (fa ρ).bind (tinK kvs) := Eq.trans rfl rfl
@[simp] theorem eTNin_ap : eTNin i fa ρ = (slT ρ[i]?).bind fun kvs => (fa ρ).bind (tninK kvs) := Eq.trans rfl rfl
@[simp] theorem sTNew_ap : sTNew i ρ = .nx (ρ.set i (some (.t []))) := Eq.trans rfl rfl
@[simp] theorem sTPut_ap : sTPut i fa f ρ = tputK ρ i (f ρ) (fa ρ) ρ[i]? := Eq.trans rfl rfl
@[simp] theorem tputK_t (r : Rs PyData) (ra : Rs (List PyData)) : tputK ρ i r ra (some (some (.t kvs))) = andThen r ρ fun d => andThen ra ρ (tputV ρ i kvs d) := Eq.trans rfl rfl
@[simp] theorem keysL_ii (a b : Int) : keysL [.int a, .int b] = some [.inl a, .inl b] := Eq.trans rfl rfl
@[simp] theorem tgetK_ii (a b : Int) : tgetK kvs [.int a, .int b] = ofO (getT kvs [.inl a, .inl b]) := Eq.trans rfl rfl
@[simp] theorem tinK_ii (a b : Int) : tinK kvs [.int a, .int b] = .ok (.bool (getT kvs [.inl a, .inl b]).isSome) := Eq.trans rfl rfl
@[simp] theorem tninK_ii (a b : Int) : tninK kvs [.int a, .int b] = .ok (.bool (!(getT kvs [.inl a, .inl b]).isSome)) := Eq.trans rfl rfl
theorem tputV_ii (a b : Int) (h : kvs.length < 16777216) : tputV ρ i kvs d [.int a, .int b] = .nx (ρ.set i (some (.t (putT kvs [.inl a, .inl b] d)))) := if_pos h
end
end D2

namespace D2
open PySem PySem.Spec PyProof.Rows L2
/-! ### xs.index(x), xs a list of texts -/
def ixStr (z : Str) : List Str → Option Nat
  | [] => none
  | y :: r => if y = z then some 0 else (ixStr z r).map (· + 1)
theorem ixStr_ok {z : Str} : ∀ {l : List Str} {j : Nat}, ixStr z l = some j → l[j]? = some z ∧ ∀ m y, m < j → l[m]? = some y → y ≠ z
  | [], j, h => by cases h
  | y :: r, j, h => by
    unfold ixStr at h
    by_cases c : y = z
    · rw [if_pos c] at h
      cases h
      exact ⟨by rw [c]; rfl, fun m _ hm => absurd hm (by omega)⟩
    · rw [if_neg c] at h
      cases e : ixStr z r with
      | none => rw [e] at h; cases h
      | some k =>
        rw [e] at h
        cases h
        obtain ⟨h1, h2⟩ := ixStr_ok e
        refine ⟨h1, fun m w hm hw => ?_⟩
        cases m with
        | zero => cases hw; exact c
        | succ m => exact h2 m w (by have : m + 1 < k + 1 := hm; omega) hw
def opIdx : PyData → PyData → Option PyData
  | .list ys, .str z => match strsD ys with
    | some zs => (ixStr z zs).map fun (j : Nat) => PyData.int (j : Int)
    | none => none
  | _, _ => none
def eIdx (f g : En → Rs PyData) : En → Rs PyData := fun ρ => (f ρ).bind fun x => match x with
  | .list ys => (g ρ).bind fun y => ofO (opIdx (.list ys) y)
  | _ => .no
section
variable {X : Cx} {c : Ct} {f g : En → Rs PyData}
theorem de_idx {o e : Expr} {pos apos : Pos} (ho : DE X c o f) (he : DE X c e g)
    (hbase : attributeBase o "index" X.env (eval o X.env) = eval o X.env := by rfl)
    (hfew : ((backTo pos (starEach [e] X.env)).all (fun x => !x.1) && (backToKw pos (keywordEach [] X.env)).all (fun x => x.1.isSome)
      && decide (([e] : List Expr).length + ([] : List Keyword).length + (if ([] : List Keyword).isEmpty then 0 else 1) < 30)) = true := by rfl)
    (hline : (apos.endLine == pos.line) = true := by rfl) (hst : starEach [e] X.env = (false, eval e X.env) :: starEach [] X.env := by rfl) (hplain : (backTo pos (starEach [] X.env)).any (·.1) = false := by rfl) :
    DE X c (.Call (.Attribute o "index" apos) [e] [] pos) (eIdx f g) := by
  refine pe_imp (pe_bm PySem.F.plainAttrs_list PySem.F.slot_list_index PySem.F.type_list_index mt_index ho (pa_cons he pa_nil hst) hbase hfew hline hst hplain) fun σ H Q ⟨S, ρ, rp, q⟩ => ?_
  refine ⟨S, ρ, rp, Go.seq q fun S1 H1 x dx o1 hx q1 => ?_⟩
  cases dx with
  | list ys =>
    cases hx with
    | @lst a xs _ h1 h2 =>
      refine ⟨.inl ⟨rfl, xs, .inl (rd_mono o1.sub h1)⟩, S1, ρ, rp.step o1, Go.seq (r := g ρ) (k := fun y => ofO (opIdx (.list ys) y)) q1 fun S2 H2 y dy o2 hy q2 => ?_⟩
      obtain ⟨d, e, q3⟩ := go_op q2
      cases dy with
      | str z =>
        cases hy
        simp only [opIdx] at e
        cases es : strsD ys with
        | none => rw [es] at e; cases e
        | some zs =>
          rw [es] at e
          have ey := strsD_eq es
          subst ey
          have ex := dps_strs _ _ h2
          subst ex
          cases ej : ixStr z zs with
          | none => simp only [ej] at e; cases e
          | some j =>
            simp only [ej, Option.map_some] at e
            cases e
            obtain ⟨j1, j2⟩ := ixStr_ok ej
            have sq : SqL X.K H2 a (zs.map V.str) := .inl (rd_mono (o1.sub.trans o2.ext) h1)
            have fl : (zs.map V.str).all flatV = true := by
              rw [List.all_map]
              exact List.all_eq_true.mpr fun _ _ => rfl
            refine ⟨a, zs.map V.str, .str z, j, .str z, rfl, rfl, sq, rfl, fl, by rw [List.getElem?_map, j1]; rfl, by simp [eqV], fun m z' hm hz => ?_, q3 S2 H2 _ (.refl o2.sub) (.int _)⟩
            rw [List.getElem?_map] at hz
            obtain ⟨w, hw, rfl⟩ := Option.map_eq_some_iff.mp hz
            have := j2 m w hm hw
            simp [eqV, this]
      | _ => exact (by cases e)
  | _ => exact False.elim q1
end
@[simp] theorem opIdx_T (x : List Nat) (a : List (List Nat)) : opIdx (.list (a.map T)) (.str (S x)) = (ixStr (S x) (a.map S)).map fun (j : Nat) => PyData.int (j : Int) := by
  have : a.map T = (a.map S).map PyData.str := by rw [List.map_map]; rfl
  rw [this]
  simp only [opIdx, strsD_map]
end D2

namespace D2
open PySem PySem.Spec PyProof.Rows L2
/-! ### a dict that a function answers -/
def frzK (i : Nat) (ρ : En) : En := match ρ[i]? with
  | some (some (.k kvs)) => ρ.set i (some (.d (dD kvs)))
  | _ => ρ
def sFrzK (i : Nat) (F : En → Out) : En → Out := fun ρ => F (frzK i ρ)
section
variable {K : PySem.W.Frag} {wd : World} {H0 S0 S H : Hp} {ρ : En} {σ : St}
theorem repFrzK (r : Rep K wd H0 S0 S ρ σ H) {i : Nat} {kvs : KD} (e : ρ[i]? = some (some (.k kvs))) :
    ∃ a ws, H a = some (.dK ws) ∧ S a = none ∧ ∀ od, Rep K wd H0 S0 (upd S a (.frz od (.dK ws))) (ρ.set i (some (.d (dD kvs)))) σ (upd H a (.frz od (.dK ws))) := by
  obtain ⟨v, e1, a, ws, rfl, h1, h2, h3, h4⟩ := r.slot i _ e
  refine ⟨a, ws, h1, h2, fun od => ?_⟩
  have sm : Same S (upd S a (.frz od (.dK ws))) := same_updS h2
  refine ⟨⟨fun b o q => ?_, fun b o q => ?_, r.old.s0.trans sm, fun b o q => ?_⟩, fun j b eb => ?_, fun j l b d hn e1' e2 o1 o2 => ?_, by simpa using r.len⟩
  · rw [upd_ne (ne_of_none q h3)]; exact r.old.ext b o q
  · by_cases hb : b = a
    · subst hb; rw [upd_same] at q ⊢; exact q
    · rw [upd_ne hb] at q ⊢; exact r.old.sub b o q
  · rw [upd_ne (ne_of_none q h3)]; exact r.old.old b o q
  · rcases getE_set eb with ⟨rfl, eq⟩ | ⟨hn, eb⟩
    · cases Option.some.inj eq
      obtain ⟨k1, k2⟩ := KP.dq (KP.mono h4 sm)
      exact ⟨_, e1, .dct upd_same k1 k2⟩
    · obtain ⟨w, e3, h5⟩ := r.slot j b eb
      refine ⟨w, e3, ?_⟩
      cases b with
      | d x => exact dp_mono sm _ _ h5
      | l ys =>
        obtain ⟨a', vs, rfl, q1, q2, q3, q4⟩ := h5
        have hne : a' ≠ a := fun z => r.apart i j _ _ hn e eb rfl rfl (by rw [e1, e3, z])
        exact ⟨a', vs, rfl, by rw [upd_ne hne]; exact q1, by rw [upd_ne hne]; exact q2, q3, dps_mono sm _ _ q4⟩
      | k ys =>
        obtain ⟨a', vs, rfl, q1, q2, q3, q4⟩ := h5
        have hne : a' ≠ a := fun z => r.apart i j _ _ hn e eb rfl rfl (by rw [e1, e3, z])
        exact ⟨a', vs, rfl, by rw [upd_ne hne]; exact q1, by rw [upd_ne hne]; exact q2, q3, Paired.mapP q4 fun p q z => ⟨z.1, dp_mono sm _ _ z.2⟩⟩
      | f ys =>
        obtain ⟨a', u, vs, rfl, q1, q3, q4⟩ := h5
        have hne : a' ≠ a := fun z => by rw [z, h3] at q3; cases q3
        exact ⟨a', u, vs, rfl, by rw [upd_ne hne]; exact q1, q3, Paired.mapP q4 fun p q z => ⟨z.1, dp_mono sm _ _ z.2⟩⟩
      | t ys =>
        obtain ⟨a', vs, rfl, q1, q2, q3, q4⟩ := h5
        have hne : a' ≠ a := fun z => r.apart i j _ _ hn e eb rfl rfl (by rw [e1, e3, z])
        exact ⟨a', vs, rfl, by rw [upd_ne hne]; exact q1, by rw [upd_ne hne]; exact q2, q3, Paired.mapP q4 fun p q z => ⟨z.1, dp_mono sm _ _ z.2⟩⟩
  · rcases getE_set e1' with ⟨rfl, eb⟩ | ⟨_, e1'⟩
    · cases Option.some.inj eb; cases o1
    · rcases getE_set e2 with ⟨rfl, eb⟩ | ⟨_, e2⟩
      · cases Option.some.inj eb; cases o2
      · exact r.apart j l b d hn e1' e2 o1 o2
end
section
variable {X : Cx} {c : Ct} {e tg : Expr} {pos : Pos} {f : En → Rs PyData}
theorem ds_frzK (i : Nat) {st : Stmt} {F : En → Out} (h : DS X c st F) : DS X c st (sFrzK i F) := by
  refine ⟨fun pins s σ H D I hw => ?_⟩
  obtain ⟨S, ρ, rp, p⟩ := hw
  unfold sFrzK frzK at p
  split at p
  · rename_i kvs eρ
    obtain ⟨a, ws, h1, h2, rl⟩ := repFrzK rp eρ
    obtain ⟨od, I1⟩ := I.lock h1 trivial
    exact h.run pins s σ _ D I1 ⟨_, _, rl od, Post.mono p (same_updS h2)⟩
  · exact h.run pins s σ _ D I ⟨S, ρ, rp, p⟩
/-! .items() of an answer -/
def asDct : PyData → Rs (List PyData)
  | .dict kvs => (ofO (unD kvs)).bind fun kd => .ok (itemsD kd)
  | _ => .no
def iItemsE (f : En → Rs PyData) : En → Rs (List PyData) := fun ρ => (f ρ).bind asDct
theorem di_itemsE {p2 tpos : Pos} {elts : List Expr} {kk : Nat} (he : DE X c e f) (hbase : attributeBase e "items" X.env (eval e X.env) = eval e X.env := by rfl) (hline : (p2.endLine == pos.line) = true := by rfl) :
    DI X c (.Tuple elts kk tpos) (.Call (.Attribute e "items" p2) [] [] pos) (iItemsE f) := by
  refine pi_imp (pi_items he hbase hline) fun σ H R ⟨S, ρ, rp, q⟩ => ⟨S, ρ, rp, Go.seq q fun S1 H1 x dx o1 hx q1 => ?_⟩
  unfold asDct at q1
  split at q1
  · rename_i kvs
    cases eu : unD kvs with
    | none => rw [eu] at q1; exact q1.elim
    | some kd =>
      rw [eu] at q1
      obtain ⟨a, o, ws, rfl, h1, h4⟩ := dq_dct hx eu
      exact ⟨a, o, ws, rfl, o1.sub _ _ h1, q1 S1 H1 _ (.refl o1.sub) (walks_itemsS h1 h4)⟩
  · exact q1.elim
end
section
variable {i : Nat} {f : En → Rs PyData} {F : En → Out} {ρ : En} {kvs : KD}
@[simp] theorem sFrzK_ap : sFrzK i F ρ = F (frzK i ρ) := Eq.trans rfl rfl
@[simp] theorem frzK_ap : frzK i ρ = match ρ[i]? with
  | some (some (.k kvs)) => ρ.set i (some (.d (dD kvs)))
  | _ => ρ := Eq.trans rfl rfl
@[simp] theorem iItemsE_ap : iItemsE f ρ = (f ρ).bind asDct := Eq.trans rfl rfl
@[simp] theorem asDct_d (kvs : KD) : asDct (dD kvs) = .ok (itemsD kvs) := by
  show (ofO (unD _)).bind _ = _
  rw [unD_map]; rfl
end
end D2

/-! ### any(xs) of a list of ints -/
namespace L2
open PySem PySem.Spec PyProof.Rows
section
variable {X : Cx}
theorem truth_ints {prog : Program} {w : World} {A : Around} {ns : List Int} {its : List Value} (e : IntsAre its ns) :
    TruthOf prog w A (fun i v => its.toArray[i]? = some v) (fun i => (ns.map (fun n => n != 0)).getD i false) := fun i v s Q E hv hq => by
  have hv' : its[i]? = some v := by simpa using hv
  have hl : its.length = ns.length := by
    clear hq hv hv'
    induction e with
    | nil => rfl
    | cons _ _ _ ih => simp [ih]
  have hi : i < ns.length := by rw [← hl]; exact (List.getElem?_eq_some_iff.mp hv').1
  obtain ⟨t, ht⟩ := e.get i ns[i] (List.getElem?_eq_getElem hi)
  rw [hv'] at ht
  cases ht
  have hg : (ns.map (fun n => n != 0)).getD i false = (ns[i] != 0) := by rw [List.getD_eq_getElem?_getD, List.getElem?_map, List.getElem?_eq_getElem hi]; rfl
  have hq' : Q ((ns.map (fun n => n != 0)).getD i false) s := hq
  rw [hg] at hq'
  exact truthy_int hq'
def rAnyI (K : PySem.W.Frag) : List V → Hp → VK → Prop := fun vs H Q => ∃ (a : Addr) (ns : List Int), vs = [V.ref a] ∧ SqL K H a (ns.map V.int) ∧ Q (.bl (ns.any (fun n => n != 0))) H
theorem cr_anyI (hc : X.calm = true) : CallR X (.builtin "any") (rAnyI X.K) := by
  intro pins s σ H vs us Q I r h
  obtain ⟨a, ns, rfl, hs, q⟩ := h
  obtain ⟨its, rv, hl, _⟩ := I.list hs
  rw [Vals.ref1 r]
  have hb := rv.ints
  have hz : its.length = ns.length := by
    have := rv.length
    simpa using this.symm
  refine call_any_walk (iter_any hl.isList fun s₂ e2 st hne => ?_)
  subst e2
  refine ⟨_, _, _, _, _, _, _, rfl, Walks.list (A := X.A.in1) (I.ok.hd hc) _ a hne its.toArray, st, truth_ints hb, fun h' tk hk => ?_⟩
  refine ⟨.bl _, H, I.kept fun b o eo => hk b o (fun hmem => ?_) (Heap.get?_push_of_some _ eo), ?_, q⟩
  · rcases List.mem_cons.mp hmem with e1 | hmem
    · exact absurd (e1 ▸ Heap.lt_size eo) (Nat.lt_irrefl _)
    · cases hmem
  · show Value.bool _ = Value.bool _
    have h1 := any_range (ns.map (fun n => n != 0))
    rw [List.length_map] at h1
    rw [List.size_toArray, hz, h1, List.any_map]
    rfl
end
end L2
namespace D2
open PySem PySem.Spec PyProof.Rows L2
def fAnyI : List PyData → Option PyData
  | [.list xs] => (intsD xs).map fun ns => .bool (ns.any fun n => n != 0)
  | _ => none
theorem cs_anyI {K : PySem.W.Frag} : CallS K (rAnyI K) fAnyI := by
  intro S H vs ds Q hs hv d e q
  unfold fAnyI at e
  split at e
  · rename_i xs
    cases e2 : intsD xs with
    | none => rw [e2] at e; cases e
    | some bs =>
      rw [e2] at e; cases e
      obtain ⟨v, rfl, hx⟩ := dqs1 hv
      cases hx with
      | lst h1 h2 => 
        have e3 := intsD_eq e2
        subst e3
        have e4 := dps_ints _ _ h2
        exact ⟨_, bs, rfl, .inl (by rw [← e4]; exact rd_mono hs h1), q S H _ (.refl hs) (.bl _)⟩
  · cases e
@[simp] theorem fAnyI_map (ns : List Int) : fAnyI [.list (ns.map PyData.int)] = some (.bool (ns.any fun n => n != 0)) := by
  show (intsD _).map _ = _
  rw [intsD_map]; rfl
end D2

namespace D2
open PySem PySem.Spec PyProof.Rows L2

/-! ### dicts as functions -/
section
variable {kvs : KDt} {k j : List Key} {d : PyData}
theorem getT_nil : getT [] k = none := rfl
theorem getT_cons (p : List Key × PyData) : getT (p :: kvs) k = if p.1 = k then some p.2 else getT kvs k := by
  by_cases h : p.1 = k <;> simp [getT, List.find?_cons, h]
theorem getT_app (ps qs : KDt) : getT (ps ++ qs) k = (getT ps k).or (getT qs k) := by
  induction ps with
  | nil => rfl
  | cons p ps ih =>
    rw [List.cons_append, getT_cons, getT_cons, ih]
    by_cases h : p.1 = k <;> simp [h]
theorem getT_mem : ∀ {kvs : KDt}, getT kvs k = some d → (k, d) ∈ kvs
  | [], h => by cases h
  | p :: kvs, h => by
    rw [getT_cons] at h
    by_cases c : p.1 = k
    · rw [if_pos c] at h
      cases h
      rw [← c]
      exact List.mem_cons_self
    · rw [if_neg c] at h
      exact List.mem_cons_of_mem _ (getT_mem h)
theorem getT_any : ∀ kvs : KDt, (kvs.any fun p => decide (p.1 = k)) = (getT kvs k).isSome
  | [] => rfl
  | p :: kvs => by
    rw [List.any_cons, getT_cons, getT_any kvs]
    by_cases c : p.1 = k <;> simp [c]
theorem getT_isSome {kvs : KDt} : (getT kvs k).isSome = true ↔ k ∈ kvs.map (·.1) := by
  rw [← getT_any, List.any_eq_true, List.mem_map]
  simp
theorem getT_of_mem : ∀ {kvs : KDt}, (kvs.map (·.1)).Nodup → (k, d) ∈ kvs → getT kvs k = some d
  | [], _, h => by cases h
  | p :: kvs, hn, h => by
    rw [List.map_cons, List.nodup_cons] at hn
    rw [getT_cons]
    rcases List.mem_cons.mp h with q | q
    · subst q
      simp
    · have : p.1 ≠ k := fun z => hn.1 (by rw [z]; exact List.mem_map.mpr ⟨(k, d), q, rfl⟩)
      rw [if_neg this]
      exact getT_of_mem hn.2 q
theorem getT_map (f : PyData) : ∀ kvs : KDt, getT (kvs.map fun p => if p.1 = k then (p.1, f) else p) j = if j = k then (getT kvs j).map fun _ => f else getT kvs j
  | [] => by simp [getT]
  | p :: kvs => by
    rw [List.map_cons, getT_cons, getT_cons, getT_map f kvs]
    by_cases c : p.1 = k
    · by_cases e : k = j
      · subst e; simp [c]
      · have e' : ¬ j = k := fun z => e z.symm
        simp [c, e, e']
    · by_cases e : p.1 = j
      · have e' : ¬ j = k := fun z => c (e.trans z)
        simp [c, e, e']
      · simp [c, e]
theorem getT_put : getT (putT kvs k d) j = if j = k then some d else getT kvs j := by
  unfold putT
  by_cases h : (kvs.any fun p => decide (p.1 = k)) = true
  · rw [if_pos h, getT_map]
    by_cases e : j = k
    · subst e
      rw [getT_any] at h
      obtain ⟨x, hx⟩ := Option.isSome_iff_exists.mp h
      simp [hx]
    · simp [e]
  · rw [if_neg h, getT_app]
    rw [getT_any] at h
    by_cases e : j = k
    · subst e
      have : getT kvs j = none := by cases q : getT kvs j <;> simp_all
      simp [this, getT_cons]
    · have e' : ¬ k = j := fun z => e z.symm
      simp [getT_cons, e, e', getT_nil]
theorem putT_keys : (putT kvs k d).map (·.1) = if (getT kvs k).isSome = true then kvs.map (·.1) else kvs.map (·.1) ++ [k] := by
  unfold putT
  rw [getT_any]
  by_cases h : (getT kvs k).isSome = true
  · rw [if_pos h, if_pos h, List.map_map]
    refine List.map_congr_left fun p _ => ?_
    show (if p.1 = k then (p.1, d) else p).1 = p.1
    split <;> rfl
  · rw [if_neg h, if_neg h]
    simp
theorem putT_nodup (h : (kvs.map (·.1)).Nodup) : ((putT kvs k d).map (·.1)).Nodup := by
  rw [putT_keys]
  by_cases c : (getT kvs k).isSome = true
  · rw [if_pos c]; exact h
  · rw [if_neg c, List.nodup_append]
    exact ⟨h, by simp, fun a ha b hb => by
      rw [List.mem_singleton.mp hb]
      exact fun z => c (getT_isSome.mpr (z ▸ ha))⟩
theorem putT_len : (putT kvs k d).length ≤ kvs.length + 1 := by
  have := congrArg List.length (putT_keys (kvs := kvs) (k := k) (d := d))
  rw [List.length_map] at this
  rw [this]
  by_cases c : (getT kvs k).isSome = true
  · rw [if_pos c]; simp
  · rw [if_neg c]; simp
end
end D2

namespace D2
open PySem PySem.Spec PyProof.Rows L2
/-! ### x = xs.pop(k) -/
def popIK (ρ : En) (i j : Nat) (xs : List PyData) (d : PyData) : Out := match d with
  | .int k => match if 0 ≤ k then xs[k.toNat]? else none with
    | some x => .nx ((ρ.set i (some (.l (xs.eraseIdx k.toNat)))).set j (some (.d x)))
    | none => .no
  | _ => .no
def sPopI (i j : Nat) (f : En → Rs PyData) : En → Out := fun ρ => match ρ[i]? with
  | some (some (.l xs)) => if xs.length ≤ 16777216 then andThen (f ρ) ρ (popIK ρ i j xs) else .no
  | _ => .no
theorem DqAll.erase {K : PySem.W.Frag} {S : Hp} : ∀ {vs : List V} {ds : List PyData}, DqAll K S vs ds → ∀ n : Nat, DqAll K S (vs.eraseIdx n) (ds.eraseIdx n)
  | _, [], h, n => by cases h; exact .nil
  | _, d :: ds, h, 0 => by cases h with | cons h1 h2 => exact h2
  | _, d :: ds, h, n + 1 => by cases h with | cons h1 h2 => exact .cons h1 (DqAll.erase h2 n)
section
variable {X : Cx} {c : Ct} {pos : Pos} {e : Expr} {f : En → Rs PyData}
theorem ds_popI (i : Nat) {j : Nat} {x y : Str} {p1 p2 p3 py : Pos} (he : DE X c e f) (hN' : X.N.Nodup) (hj : X.N[j]? = some y) (hy : Loc X.env.scope y) (hN : X.N[i]? = some x := by rfl) (hv : Vis X.env.scope x := by first | exact Or.inl rfl | exact Or.inr (Or.inl rfl) | exact Or.inr (Or.inr rfl)) (hd : (x == ("__debug__" : Str)) = false := by decide)
    (hcd : (x == ("__classdict__" : Str)) = false := by decide) (hs : swapsWith (.Call (.Attribute (.Name x p1) "pop" p2) [e] [] p3) (some (.Name y py)) pos.line X.env = pure false := by rfl)
    (hbase : attributeBase (.Name x p1) "pop" X.env (eval (.Name x p1) X.env) = eval (.Name x p1) X.env := by rfl)
    (hfew : ((backTo p3 (starEach [e] X.env)).all (fun x => !x.1) && (backToKw p3 (keywordEach [] X.env)).all (fun x => x.1.isSome)
      && decide (([e] : List Expr).length + ([] : List Keyword).length + (if ([] : List Keyword).isEmpty then 0 else 1) < 30)) = true := by rfl)
    (hline : (p2.endLine == p3.line) = true := by rfl) (hst : starEach [e] X.env = (false, eval e X.env) :: starEach [] X.env := by rfl) (hplain : (backTo p3 (starEach [] X.env)).any (·.1) = false := by rfl)
    (hf : X.fn y = true ∨ X.env.scope.names.lookup y = some .local := by first | exact .inl rfl | exact .inr rfl | assumption) :
    DS X c (.Assign [.Name y py] (.Call (.Attribute (.Name x p1) "pop" p2) [e] [] p3) pos) (sPopI i j f) := by
  refine ps_imp (ps_set hN' hj hy (pe_bm PySem.F.plainAttrs_list PySem.F.slot_list_pop PySem.F.type_list_pop mt_popAt (pe_var hN hv hd hcd) (pa_cons he pa_nil hst) hbase hfew hline hst hplain) hs hf) fun D σ H ⟨S, ρ, rp, p⟩ => ?_
  unfold sPopI at p
  cases hρ : ρ[i]? with
  | none => rw [hρ] at p; exact p.elim
  | some o =>
    rw [hρ] at p
    cases o with
    | none => exact p.elim
    | some b =>
      cases b with
      | d _ => exact p.elim
      | k _ => exact p.elim
      | f _ => exact p.elim
      | t _ => exact p.elim
      | l xs =>
        obtain ⟨v, e1, a, vs, rfl, h1, h2, h3, h4⟩ := rp.slot i _ hρ
        have hl : xs.length ≤ 16777216 := by
          by_cases hl : xs.length ≤ 16777216
          · exact hl
          · dsimp only at p; rw [if_neg hl] at p; exact p.elim
        dsimp only at p
        rw [if_pos hl] at p
        refine ⟨.ref a, e1, .inl ⟨rfl, vs, .inl (.inl h1)⟩, S, ρ, rp, go_then rp p fun S1 H1 v d o1 hd r1 p1 => ?_⟩
        cases d with
        | int k =>
          cases hd
          dsimp only [popIK] at p1
          cases ex : (if 0 ≤ k then xs[k.toNat]? else none) with
          | none => rw [ex] at p1; exact p1.elim
          | some x0 =>
            rw [ex] at p1
            dsimp only at p1
            by_cases hk : 0 ≤ k
            · rw [if_pos hk] at ex
              obtain ⟨v0, ev, hx⟩ := DqAll.get' (dps_mono o1.s0 _ _ h4) ex
              have hlt : k.toNat < vs.length := (List.getElem?_eq_some_iff.mp ev).1
              have hlx : vs.length ≤ sizeLine := by
                rw [DqAll.length h4, sizeLine_eq]
                exact hl
              rw [sizeLine_eq] at hlx
              refine ⟨a, vs, k, k.toNat, v0, rfl, rfl, o1.ext _ _ h1, by omega, by omega, ?_, ev, ?_⟩
              · have g1 : ¬ k < 0 := by omega
                have g2 : k < (vs.length : Int) := by omega
                simp [seqIndex?, g1, hk, g2]
              · exact p1 S1 _ _ (.refl _) ((repRewr r1 hρ e1 (DqAll.erase (dps_mono o1.s0 _ _ h4) k.toNat)).set j (dp_mono (.refl _) _ _ hx))
            · rw [if_neg hk] at ex
              cases ex
        | _ => exact (show False from p1).elim
end
section
variable (i j : Nat) (ρ : En) (xs : List PyData) (f : En → Rs PyData)
def popKI (ρ : En) (i j : Nat) (r : Rs PyData) : Option (Option B) → Out
  | some (some (.l xs)) => if xs.length ≤ 16777216 then andThen r ρ (popIK ρ i j xs) else .no
  | _ => .no
@[simp] theorem sPopI_ap : sPopI i j f ρ = popKI ρ i j (f ρ) ρ[i]? := by
  unfold sPopI popKI
  rfl
@[simp] theorem popKI_l (r : Rs PyData) : popKI ρ i j r (some (some (.l xs))) = if xs.length ≤ 16777216 then andThen r ρ (popIK ρ i j xs) else .no := Eq.trans rfl rfl
theorem popIK_c {k : Nat} {x : PyData} (h : xs[k]? = some x) : popIK ρ i j xs (.int (k : Int)) = .nx ((ρ.set i (some (.l (xs.eraseIdx k)))).set j (some (.d x))) := by
  unfold popIK
  simp only
  rw [if_pos (Int.natCast_nonneg k), Int.toNat_natCast, h]
end
end D2

namespace D2
open PySem PySem.Spec PyProof.Rows L2
open PySem.W (EachIs DilG list_sort_data)
/-! ### sorted(d.items()) -/
mutual
theorem reads_there {h : Heap} : ∀ {v : Value} {d : PyData} {as : List Addr}, Reads h v d as → ∀ a ∈ as, a < h.objs.size
  | _, _, _, .none => fun _ q => nomatch q
  | _, _, _, .bool _ => fun _ q => nomatch q
  | _, _, _, .int _ _ => fun _ q => nomatch q
  | _, _, _, .str _ _ => fun _ q => nomatch q
  | _, _, _, .list h1 _ _ h4 => fun a q => by
    rcases List.mem_cons.mp q with rfl | q
    · exact Heap.lt_size h1
    · exact readsAll_there h4 a q
  | _, _, _, .tuple _ _ _ h4 => fun a q => readsAll_there h4 a q
  | _, _, _, .dict h1 _ _ h4 h5 => fun a q => by
    rcases List.mem_append.mp q with q | q
    · rcases List.mem_cons.mp q with rfl | q
      · exact Heap.lt_size h1
      · exact readsAll_there h4 a q
    · exact readsAll_there h5 a q
theorem readsAll_there {h : Heap} : ∀ {vs : List Value} {ds : List PyData} {as : List Addr}, ReadsAll h vs ds as → ∀ a ∈ as, a < h.objs.size
  | _, _, _, .nil => fun _ q => nomatch q
  | _, _, _, .cons h1 h2 => fun a q => by
    rcases List.mem_append.mp q with q | q
    · exact reads_there h1 a q
    · exact readsAll_there h2 a q
end
def laysH (H : Hp) : List (Addr × List V) → Hp
  | [] => H
  | p :: r => upd (laysH H r) p.1 (.tup p.2)
section
variable {H S : Hp} {b : Addr} {o : HO}
theorem laysH_out : ∀ {l : List (Addr × List V)}, (∀ p ∈ l, p.1 ≠ b) → laysH H l b = H b
  | [], _ => rfl
  | p :: r, h => by
    rw [laysH, upd_ne (fun z => h p (.head _) z.symm)]
    exact laysH_out fun q hq => h q (.tail _ hq)
theorem laysH_in : ∀ {l : List (Addr × List V)}, (l.map (·.1)).Nodup → ∀ p ∈ l, laysH H l p.1 = some (.tup p.2)
  | [], _, _, hp => nomatch hp
  | q :: r, nd, p, hp => by
    rw [List.map_cons, List.nodup_cons] at nd
    rcases List.mem_cons.mp hp with rfl | hp
    · exact upd_same
    · rw [laysH, upd_ne (fun z : p.1 = q.1 => nd.1 (List.mem_map.mpr ⟨p, hp, z⟩))]
      exact laysH_in nd.2 p hp
theorem laysH_cases : ∀ {l : List (Addr × List V)}, laysH H l b = some o → H b = some o ∨ ∃ p ∈ l, p.1 = b ∧ o = .tup p.2
  | [], e => .inl e
  | p :: r, e => by
    by_cases hb : b = p.1
    · subst hb
      rw [laysH, upd_same] at e
      exact .inr ⟨p, .head _, rfl, (Option.some.inj e).symm⟩
    · rw [laysH, upd_ne hb] at e
      rcases laysH_cases e with e | ⟨q, hq, e1, e2⟩
      · exact .inl e
      · exact .inr ⟨q, .tail _ hq, e1, e2⟩
theorem same_lays {l : List (Addr × List V)} (h : ∀ p ∈ l, H p.1 = none) : Same H (laysH H l) := fun b o e => by
  rw [laysH_out fun p hp z => by rw [← z, h p hp] at e; cases e]
  exact e
end
section
variable {X : Cx} {pins : List (Addr × Obj)} {σ : St} {H : Hp} {s : Shared} {h' : Heap}
theorem inv_lays {t' : Nat} {l : List (Addr × List V)} (I : L2.Inv X pins σ H s) (k : ∀ b u, s.heap.get? b = some u → h'.get? b = some u) (hp : ∀ p ∈ l, s.heap.objs.size ≤ p.1) (new : ∀ p ∈ l, ObjOk X.prog X.w H h' p.1 (.tup p.2)) :
    L2.Inv X pins σ (laysH H l) { s with heap := h', toks := t' } := by
  have sm : Same H (laysH H l) := same_lays fun p hp' => I.hok.fresh (hp p hp')
  refine I.un ⟨fun b u q _ _ _ => k b u q, fun b u q _ _ _ => ⟨u.slots, k b u q⟩, fun b u q n _ => ?_, fun b u q _ => ⟨u, k b u q⟩, fun b xs q => sm _ _ q, fun b o u q => sm _ _ q, fun b ps q => ⟨#[], by rw [sm _ _ q]; simp⟩⟩ fun b u e => ?_
  · rw [laysH_out fun p hp' (z : p.1 = b) => absurd (Heap.lt_size q) (Nat.not_lt.mpr (by rw [← z]; exact hp p hp'))]
    exact n
  · rcases laysH_cases e with e | ⟨p, hp', e1, e2⟩
    · exact (I.hok b u e).stay (fun c v _ q => k c v q) (fun c q => sm _ _ q) fun c xs q => sm _ _ q
    · subst e1
      subst e2
      exact new p hp'
end
theorem paired_get {α β : Type} {F : α → β → Prop} : ∀ {l : List α} {m : List β}, Paired F l m → ∀ {j : Nat} {x : α}, l[j]? = some x → ∃ y, m[j]? = some y ∧ F x y
  | _, _, .nil, j, x, e => by simp at e
  | _, _, .cons h t, 0, x, e => ⟨_, rfl, by simp at e; subst e; exact h⟩
  | _, _, .cons h t, j + 1, x, e => by
    obtain ⟨y, e1, h1⟩ := paired_get t (j := j) (by simpa using e)
    exact ⟨y, by simpa using e1, h1⟩
def viewO (a d : Addr) : HO := .ext fun h => h.get? a = some { cls := .type "dict_items", data := .fields #[.ref d] }
def rSortV (K : PySem.W.Frag) : List V → Hp → VK → Prop := fun xs H Q => ∃ (a d : Addr) (o : Obj) (ws : List (Key × V)) (S : Hp) (kvs : KD), xs = [V.ref a] ∧ H a = some (viewO a d) ∧ H d = some (.frz o (.dK ws)) ∧ Same S H ∧ KP K S ws kvs ∧
  sortOk (itemsD kvs) ∧ ∀ S' H' q, Old H S S' H' → Dq K S' (.ref q) (.list (sortD (itemsD kvs))) → Q (.ref q) H'
section
variable {X : Cx}
theorem cr_sortV (hu : X.A.units + 65 < cLine) (hc : X.calm = true) : CallR X (.builtin "sorted") (rSortV X.K) := by
  intro pins s σ H xs us Q I r h
  obtain ⟨a, d, o, ws, S, kvs, e, ha, hd, hS, kp, ok, q⟩ := h
  subst e
  obtain ⟨u, eu, rx⟩ := vals1 r
  subst eu
  obtain rfl : u = Value.ref a := rx
  have hv : s.heap.IsItemsView a d := ⟨_, (I.hok a _ ha).1, rfl, rfl⟩
  obtain ⟨hs, hgd, hx, es0, ep0, vs, hdt, hsz, kv, hm⟩ := I.frzK hd
  obtain ⟨es, ep, hraw, hl, hat⟩ := Heap.DictOf.raw hm.dictOf
  have hlw : ws.length = vs.length := Paired.length kv
  have hlk : ws.length = kvs.length := Paired.length kp
  have hz : es.size ≤ sizeLine := by
    rw [hl, ← hlw, hlk, sizeLine_eq]
    have := ok.1
    simpa [itemsD] using this
  refine Calls.call_function_entry kind_sorted plain_sorted entry_sorted (args_sorted1 _) ?_
  unfold Builtin.«sorted»
  refine wpAny_bind (m := checkCount "sorted" 1 1 _) (wpAny_pure ?_)
  refine wpAny_bind (PySem.W.dil_collect (A := X.A.in1) (I.ok.hd hc) hv hraw hz fun h' tk as hkeep hlen hG => ?_)
  have hal : as.length = ws.length := by rw [hlen, hl, hlw]
  let l : List (Addr × List V) := as.zip (ws.map fun p => [kV p.1, p.2])
  have hl1 : l.map (·.1) = as := List.map_fst_zip (by rw [List.length_map, hal]; exact Nat.le_refl _)
  have nd : (l.map (·.1)).Nodup := by rw [hl1]; exact hG.rise.imp fun h => Nat.ne_of_lt h
  have hup : ∀ p ∈ l, s.heap.objs.size ≤ p.1 := fun p hp => Nat.le_of_lt (hG.above p.1 (hl1 ▸ List.mem_map.mpr ⟨p, hp, rfl⟩))
  have new : ∀ p ∈ l, ObjOk X.prog X.w H h' p.1 (.tup p.2) := fun p hp => by
    obtain ⟨j, hj⟩ := List.mem_iff_getElem?.mp hp
    obtain ⟨h1, h2⟩ := List.getElem?_zip_eq_some.mp hj
    rw [List.getElem?_map] at h2
    cases hw : ws[j]? with
    | none => rw [hw] at h2; cases h2
    | some p0 =>
      rw [hw] at h2
      obtain ⟨h3, h4⟩ := hG.pairs j p.1 h1
      obtain ⟨q0, hq0, hq1, hq2⟩ := paired_get kv hw
      obtain ⟨k1, k2⟩ := hat j h3 q0.1 q0.2 hq0
      rw [← Option.some.inj h2]
      exact ⟨by show 2 ≤ sizeLine; decide, [es[j].key, es[j].val], .cons (by rw [hq1]; exact keyIs_rel k1) (.cons (by rw [k2]; exact hq2) .nil), ⟨_, h4, rfl, _, rfl⟩⟩
  have hHn : ∀ p ∈ l, H p.1 = none := fun p hp => I.hok.fresh (hup p hp)
  have hSn : ∀ p ∈ l, S p.1 = none := fun p hp => hS.free (hHn p hp)
  have sH : Same H (laysH H l) := same_lays hHn
  have sS : Same S (laysH S l) := same_lays hSn
  have sSH : Same (laysH S l) (laysH H l) := fun b o e => by
    rcases laysH_cases e with e | ⟨p, hp, e1, e2⟩
    · exact sH _ _ (hS _ _ e)
    · subst e1; subst e2; exact laysH_in nd p hp
  have I1 : L2.Inv X pins σ (laysH H l) { s with heap := h', toks := tk } := inv_lays I hkeep hup new
  have e1 : EachIs (fun u d => ∃ v, RelV v u ∧ Dq X.K (laysH S l) v d) (as.map Value.ref) (itemsD kvs) := by
    refine EachIs.of_zip (by rw [List.length_map, hal, hlk, itemsD, List.length_map]) fun p hp => ?_
    obtain ⟨j, hj⟩ := List.mem_iff_getElem?.mp hp
    obtain ⟨h1, h2⟩ := List.getElem?_zip_eq_some.mp hj
    rw [List.getElem?_map] at h1
    rw [itemsD, List.getElem?_map] at h2
    cases ha' : as[j]? with
    | none => rw [ha'] at h1; cases h1
    | some b =>
      cases hk' : kvs[j]? with
      | none => rw [hk'] at h2; cases h2
      | some kd =>
        rw [ha'] at h1
        rw [hk'] at h2
        have hj2 : j < ws.length := by rw [hlk]; exact (List.getElem?_eq_some_iff.mp hk').1
        have hw : ws[j]? = some ws[j] := List.getElem?_eq_getElem hj2
        obtain ⟨q0, hq0, hq1, hq2⟩ := paired_get kp hw
        rw [hk'] at hq0
        cases hq0
        have hin : (b, [kV ws[j].1, ws[j].2]) ∈ l := List.mem_iff_getElem?.mpr ⟨j, by
          show (as.zip _)[j]? = _
          rw [List.getElem?_zip_eq_some]
          exact ⟨ha', by rw [List.getElem?_map, hw]; rfl⟩⟩
        refine ⟨.ref b, ?_, ?_⟩
        · rw [← Option.some.inj h1]; rfl
        · rw [← Option.some.inj h2]
          refine .tup (.of (laysH_in nd _ hin)) (.cons ?_ (.cons (dp_mono sS _ _ hq2) .nil))
          rw [hq1]
          exact key_dq1 _
  have e2 : EachIs (fun v d => ∃ bs, Reads (h'.push (seqObj "list" (as.map Value.ref).toArray 0)) v (id d) bs ∧ h'.objs.size ∉ bs) (as.map Value.ref) (itemsD kvs) :=
    (PySem.W.each_mem e1).mono fun u d ⟨⟨v, r, hv⟩, hm⟩ => by
      obtain ⟨bs, rd⟩ := Dp.reads I1 d v u (dq_dp _ _ (dp_mono sSH _ _ hv) (List.all_eq_true.mp ok.2.1 d hm)) r
      exact ⟨bs, PyProof.Rows.Reads.keeps (fun b o q => Heap.get?_push_of_some _ q) rd, fun z => Nat.lt_irrefl _ (reads_there rd _ z)⟩
  refine wpAny_bind (wpAny_newList ?_ (by rw [List.length_map, hlen]; exact hz))
  have hoL : (h'.push (seqObj "list" (as.map Value.ref).toArray 0)).get? h'.objs.size = some (seqObj "list" (as.map Value.ref).toArray 0) := Heap.get?_push_size _ rfl
  have hlen2 : (itemsD kvs).length = es.size := by rw [itemsD, List.length_map, ← hlk, hlw, hl]
  refine wpAny_bind (wpAny_holding (list_sort_data (s := { s with heap := h'.push (seqObj "list" (as.map Value.ref).toArray 0), toks := tk }) (A := X.A.in1) (enc := id) (R := fun u d => ∃ v, RelV v u ∧ Dq X.K (laysH S l) v d) hoL e1 e2
    (by rw [List.map_id]; exact alikeA_all ok.2.2.1) (by rw [List.map_id]; exact sortA_ok ok.2.2.2.1) (by rw [hlen2]; exact hz) (fun b hb => ?_) fun out h1 h2 => ?_))
  · have := of_decide_eq_true (List.all_eq_true.mp ok.2.2.2.2 b hb)
    show X.A.units + 1 + 1 + b.depth < cLine
    omega
  · obtain ⟨ys, rys, hys⟩ := each_back (H := H) h2
    obtain ⟨ep2, he2⟩ := PyProof.Rows.sortedHeap_at (vs := as.map Value.ref) (out := out.toArray) hoL
    have hf : laysH H l h'.objs.size = none := I1.hok.fresh (Nat.le_refl _)
    refine wpAny_pure ⟨_, rfl, .ref h'.objs.size, upd (laysH H l) h'.objs.size (.lst ys), I1.laid (t' := tk) (fun b o hb => ?_) (Nat.le_refl _) ⟨?_, out, ep2, rys, he2⟩, rfl,
      q (upd (laysH S l) h'.objs.size (.lst ys)) _ _ ⟨sH.trans (same_upd hf), fun b o e => ?_, sS.trans (same_updS (sSH.free hf)), fun b o e => ?_⟩ (.lst (.inl upd_same) (dps_mono (same_updS (sSH.free hf)) _ _ (paired_dqs hys)))⟩
    · have q := hb
      have hlt := Heap.lt_size q
      rw [PyProof.Rows.sortedHeap_old (Nat.ne_of_lt hlt) (by rw [size_push']; exact Nat.lt_succ_of_lt hlt)]
      exact Heap.get?_push_of_some _ q
    · rw [rys.length, h1, hlen2]
      exact hz
    · by_cases hb : b = h'.objs.size
      · subst hb; rw [upd_same] at e ⊢; exact e
      · rw [upd_ne hb] at e ⊢; exact sSH _ _ e
    · have hb : b ≠ h'.objs.size := ne_of_none (sH _ _ e) hf
      rw [upd_ne hb, laysH_out fun p hp z => by rw [← z, hHn p hp] at e; cases e]
end
/-- the view of a dict's items -/
def tItemsV (td : TE) : TE := fun σ H Q => td σ H fun x H1 => ∃ (d : Addr) (o : Obj) (kvs : List (Key × V)), x = .ref d ∧ H1 d = some (.frz o (.dK kvs)) ∧ ∀ a, H1 a = none → Q (.ref a) (upd H1 a (viewO a d))
section
variable {X : Cx} {e : Expr} {apos cpos : Pos} {td : TE}
theorem pe_itemsV (he : PE X e td) (hbase : attributeBase e "items" X.env (eval e X.env) = eval e X.env := by rfl) (hline : (apos.endLine == cpos.line) = true := by rfl) : PE X (.Call (.Attribute e "items" apos) [] [] cpos) (tItemsV td) := by
  refine ⟨fun pins s σ H Q I h => ?_⟩
  refine wpAny_Call_method (T := "dict") (id := "dict.items") hbase rfl hline F.plainAttrs_dict F.slot_dict_items F.type_dict_items (thn (he.run pins s σ H _ I h) fun u s1 ⟨x, H1, I1, rx, d, o, kvs, ex, hd, q⟩ => ?_)
  subst ex
  obtain rfl : u = Value.ref d := rx
  obtain ⟨hs, hgd, hx, es, ep, vs, hdt, hsz, kv, hm⟩ := I1.frzK hd
  refine ⟨hm.dictOf.typeIs, hm.dictOf.mapOf.noDict, ?_⟩
  show wpAny _ _ (callWith cpos (.builtin "dict.items") [.ref d] [] []) _ X.xe s1
  refine method_meetsIn F.slot_dict_items F.entry_dict_items rfl (PySem.evalArgs_none ⟨rfl, hm.dictOf.typeIs, F.args_dict_items_1 _, _, meets_dict_items (mixKind X.prog X.w) d hs, ⟨vs, hm.dictOf⟩, ?_⟩)
  exact ⟨.ref _, upd H1 s1.heap.objs.size (viewO s1.heap.objs.size d), I1.laid (t' := s1.toks) (fun b u q => Heap.get?_push_of_some _ q) (Nat.le_refl _) ⟨Heap.get?_push_size _ rfl, ⟨_, Heap.get?_push_size _ rfl⟩, fun h1 h2 a k => k _ a⟩, rfl,
    q _ (I1.hok.fresh (Nat.le_refl _))⟩
end
def sortDct : PyData → Rs PyData
  | .dict kvs => (ofO (unD kvs)).bind fun kd => if sortOk (itemsD kd) then .ok (.list (sortD (itemsD kd))) else .no
  | _ => .no
def eSortI (f : En → Rs PyData) : En → Rs PyData := fun ρ => (f ρ).bind sortDct
section
variable {X : Cx} {c : Ct} {e : Expr} {f : En → Rs PyData}
theorem de_sortI {p p2 pos pos2 : Pos} (hu : X.A.units + 65 < cLine) (hc : X.calm = true) (hg : Gl X "sorted") (hm : X.mg "sorted" = none) (hf : DE X c e f)
    (hb : bootBuiltins ("sorted" : Str) = some (.builtin "sorted") := by decide +kernel)
    (hbase : attributeBase e "items" X.env (eval e X.env) = eval e X.env := by rfl) (hline : (p2.endLine == pos2.line) = true := by rfl)
    (he : starEach [Expr.Call (.Attribute e "items" p2) [] [] pos2] X.env = (false, eval (.Call (.Attribute e "items" p2) [] [] pos2) X.env) :: starEach [] X.env := by rfl) (hpl : (backTo pos (starEach [] X.env)).any (·.1) = false := by rfl) :
    DE X c (.Call (.Name "sorted" p) [.Call (.Attribute e "items" p2) [] [] pos2] [] pos) (eSortI f) := by
  refine pe_imp (pe_callB (cr_sortV hu hc) hg hm hb (pa_cons (pe_itemsV hf hbase hline) pa_nil he) (by decide) (by decide) he hpl) fun σ H Q ⟨S, ρ, rp, q⟩ => ?_
  refine ⟨S, ρ, rp, Go.seq q fun S1 H1 x dx o1 hx q1 => ?_⟩
  unfold sortDct at q1
  split at q1
  · rename_i kvs
    cases eu : unD kvs with
    | none => rw [eu] at q1; exact q1.elim
    | some kd =>
      rw [eu] at q1
      simp only [ofO, bind_ok] at q1
      by_cases hk : sortOk (itemsD kd)
      · rw [if_pos hk] at q1
        obtain ⟨a, o, ws, rfl, h1, h4⟩ := dq_dct hx eu
        have hd := o1.sub _ _ h1
        refine ⟨a, o, ws, rfl, hd, fun v hv => ⟨v, a, o, ws, S1, kd, rfl, upd_same, (same_upd hv) _ _ hd, o1.sub.trans (same_upd hv), h4, hk, fun S' H' q old hq => ?_⟩⟩
        exact q1 S' H' (.ref q) ⟨(same_upd hv).trans old.ext, old.sub, old.s0, fun b u e => old.old b u (same_upd hv _ _ e)⟩ hq
      · rw [if_neg hk] at q1
        exact q1.elim
  · exact q1.elim
end
@[simp] theorem eSortI_ap (f : En → Rs PyData) (ρ : En) : eSortI f ρ = (f ρ).bind sortDct := Eq.trans rfl rfl
theorem sortDct_d {kvs : KD} (h : sortOk (itemsD kvs)) : sortDct (dD kvs) = .ok (.list (sortD (itemsD kvs))) := by
  show (ofO (unD _)).bind _ = _
  rw [unD_map]
  show (if sortOk (itemsD kvs) then Rs.ok _ else .no) = _
  rw [if_pos h]
/-! for x in a dict that is changed no more -/
def keysD : PyData → Rs (List PyData)
  | .dict kvs => (ofO (unD kvs)).bind fun kd => .ok (kd.map fun p => keyD p.1)
  | _ => .no
theorem walks_keysS {K : PySem.W.Frag} {H0 S : Hp} {d : Addr} {o : Obj} {ws : List (Key × V)} {kvs : KD} (h0 : S d = some (.frz o (.dK ws))) (kp : KP K S ws kvs) : Walks K (Itk d o ws) H0 S (kvs.map fun p => keyD p.1) := by
  have hl : ws.length = kvs.length := Paired.length kp
  refine ⟨fun i S1 H s1 s2 s3 hi => ⟨s2 _ _ (s1 _ _ h0), by rw [hl]; simpa using hi⟩, fun i S1 H x H' s1 s2 s3 y dd ed => ?_, fun S1 H s1 s2 s3 => ⟨s2 _ _ (s1 _ _ h0), by rw [hl]; simp⟩⟩
  obtain ⟨rfl, k, v, e1, rfl⟩ := y
  obtain ⟨q, e2, e3, _⟩ := paired_get kp e1
  rw [List.getElem?_map, e2] at ed
  cases ed
  refine ⟨S1, .refl s2, ?_⟩
  show Dq K S1 (kV k) (keyD q.1)
  rw [← e3]
  exact key_dq1 _
def iKeysE (f : En → Rs PyData) : En → Rs (List PyData) := fun ρ => (f ρ).bind keysD
section
variable {X : Cx} {c : Ct} {e tg : Expr} {f : En → Rs PyData}
theorem di_keysE (he : DE X c e f) : DI X c tg e (iKeysE f) := by
  refine pi_imp (pi_keys he) fun σ H R ⟨S, ρ, rp, q⟩ => ⟨S, ρ, rp, Go.seq q fun S1 H1 x dx o1 hx q1 => ?_⟩
  unfold keysD at q1
  split at q1
  · rename_i kvs
    cases eu : unD kvs with
    | none => rw [eu] at q1; exact q1.elim
    | some kd =>
      rw [eu] at q1
      obtain ⟨a, o, ws, rfl, h1, h4⟩ := dq_dct hx eu
      exact ⟨a, o, rfl, .inl ⟨ws, o1.sub _ _ h1, q1 S1 H1 _ (.refl o1.sub) (walks_keysS h1 h4)⟩⟩
  · exact q1.elim
end
@[simp] theorem iKeysE_ap (f : En → Rs PyData) (ρ : En) : iKeysE f ρ = (f ρ).bind keysD := Eq.trans rfl rfl
@[simp] theorem keysD_d (kvs : KD) : keysD (dD kvs) = .ok (kvs.map fun p => keyD p.1) := by
  show (ofO (unD _)).bind _ = _
  rw [unD_map]; rfl
/-! xs.index(x), xs a list of ints -/
def ixInt (z : Int) : List Int → Option Nat
  | [] => none
  | y :: r => if y = z then some 0 else (ixInt z r).map (· + 1)
theorem ixInt_ok {z : Int} : ∀ {l : List Int} {j : Nat}, ixInt z l = some j → l[j]? = some z ∧ ∀ m y, m < j → l[m]? = some y → y ≠ z
  | [], j, h => by cases h
  | y :: r, j, h => by
    unfold ixInt at h
    by_cases c : y = z
    · rw [if_pos c] at h
      cases h
      exact ⟨by rw [c]; rfl, fun m _ hm => absurd hm (by omega)⟩
    · rw [if_neg c] at h
      cases e : ixInt z r with
      | none => rw [e] at h; cases h
      | some k =>
        rw [e] at h
        cases h
        obtain ⟨h1, h2⟩ := ixInt_ok e
        refine ⟨h1, fun m w hm hw => ?_⟩
        cases m with
        | zero => cases hw; exact c
        | succ m => exact h2 m w (by have : m + 1 < k + 1 := hm; omega) hw
def opIdxI : PyData → PyData → Option PyData
  | .list ys, .int z => match intsD ys with
    | some zs => (ixInt z zs).map fun (j : Nat) => PyData.int (j : Int)
    | none => none
  | _, _ => none
def eIdxI (f g : En → Rs PyData) : En → Rs PyData := fun ρ => (f ρ).bind fun x => match x with
  | .list ys => (g ρ).bind fun y => ofO (opIdxI (.list ys) y)
  | _ => .no
theorem dps_intsV {K : PySem.W.Frag} {S : Hp} : ∀ (xs : List V) (ns : List Int), DqAll K S xs (ns.map PyData.int) → xs = ns.map V.int
  | _, [], .nil => rfl
  | _, n :: ns, .cons (.int _) t => by rw [dps_intsV _ _ t]; rfl
section
variable {X : Cx} {c : Ct} {f g : En → Rs PyData}
theorem de_idxI {o e : Expr} {pos apos : Pos} (ho : DE X c o f) (he : DE X c e g)
    (hbase : attributeBase o "index" X.env (eval o X.env) = eval o X.env := by rfl)
    (hfew : ((backTo pos (starEach [e] X.env)).all (fun x => !x.1) && (backToKw pos (keywordEach [] X.env)).all (fun x => x.1.isSome)
      && decide (([e] : List Expr).length + ([] : List Keyword).length + (if ([] : List Keyword).isEmpty then 0 else 1) < 30)) = true := by rfl)
    (hline : (apos.endLine == pos.line) = true := by rfl) (hst : starEach [e] X.env = (false, eval e X.env) :: starEach [] X.env := by rfl) (hplain : (backTo pos (starEach [] X.env)).any (·.1) = false := by rfl) :
    DE X c (.Call (.Attribute o "index" apos) [e] [] pos) (eIdxI f g) := by
  refine pe_imp (pe_bm PySem.F.plainAttrs_list PySem.F.slot_list_index PySem.F.type_list_index mt_index ho (pa_cons he pa_nil hst) hbase hfew hline hst hplain) fun σ H Q ⟨S, ρ, rp, q⟩ => ?_
  refine ⟨S, ρ, rp, Go.seq q fun S1 H1 x dx o1 hx q1 => ?_⟩
  cases dx with
  | list ys =>
    cases hx with
    | @lst a xs _ h1 h2 =>
      refine ⟨.inl ⟨rfl, xs, .inl (rd_mono o1.sub h1)⟩, S1, ρ, rp.step o1, Go.seq (r := g ρ) (k := fun y => ofO (opIdxI (.list ys) y)) q1 fun S2 H2 y dy o2 hy q2 => ?_⟩
      obtain ⟨d, e, q3⟩ := go_op q2
      cases dy with
      | int z =>
        cases hy
        simp only [opIdxI] at e
        cases es : intsD ys with
        | none => rw [es] at e; cases e
        | some zs =>
          rw [es] at e
          have ey := intsD_eq es
          subst ey
          have ex := dps_intsV _ _ h2
          subst ex
          cases ej : ixInt z zs with
          | none => simp only [ej] at e; cases e
          | some j =>
            simp only [ej, Option.map_some] at e
            cases e
            obtain ⟨j1, j2⟩ := ixInt_ok ej
            have sq : SqL X.K H2 a (zs.map V.int) := .inl (rd_mono (o1.sub.trans o2.ext) h1)
            have fl : (zs.map V.int).all flatV = true := by
              rw [List.all_map]
              exact List.all_eq_true.mpr fun _ _ => rfl
            refine ⟨a, zs.map V.int, .int z, j, .int z, rfl, rfl, sq, rfl, fl, by rw [List.getElem?_map, j1]; rfl, by simp [eqV], fun m z' hm hz => ?_, q3 S2 H2 _ (.refl o2.sub) (.int _)⟩
            rw [List.getElem?_map] at hz
            obtain ⟨w, hw, rfl⟩ := Option.map_eq_some_iff.mp hz
            have := j2 m w hm hw
            simp [eqV, this]
      | _ => exact (by cases e)
  | _ => exact False.elim q1
end
@[simp] theorem eIdxI_ap (f g : En → Rs PyData) (ρ : En) : eIdxI f g ρ = (f ρ).bind fun x => match x with
  | .list ys => (g ρ).bind fun y => ofO (opIdxI (.list ys) y)
  | _ => .no := Eq.trans rfl rfl
@[simp] theorem opIdxI_i (x : Int) (a : List Int) : opIdxI (.list (a.map PyData.int)) (.int x) = (ixInt x a).map fun (j : Nat) => PyData.int (j : Int) := by
  simp only [opIdxI, intsD_map]
end D2

namespace D2
open PySem PySem.Spec PyProof.Rows L2
/-! ### exceptions with a value -/
/-- `__init__` of an exception class: self.f = its argument -/
def spInit (K : PySem.W.Frag) (C : Addr) (f : Str) : Sp := fun vs H Q _ => ∃ (a : Addr) (y : V), vs = [.ref a, y] ∧ OexC K C ∧ PySem.W.findIn K (.ref C) f = some none ∧ H a = some (exo a C none) ∧
  ∀ dx, H dx = none → dx ≠ a → Q .non (upd (upd H dx (exd dx [(f, y)])) a (exo a C (some dx)))
theorem fnok_init {hot : List Str} {P : Program} {w : World} {K : PySem.W.Frag} {mg : Str → Option Value} {base : Heap} {k : Nat} {fI C : Addr} {fd : FuncData} {qual f p : Str} {st : Stmt} {q1 q2 q3 pos : Pos} (F : Fun K "__init__" qual st fI fd)
    (Sc : FnScope ["self", p] ["self", p] (defScope st)) (hb : defBody st = [.Assign [.Attribute (.Name "self" q1) f q2] (.Name p q3) pos])
    (hv1 : Vis (defScope st) "self" := by first | exact Or.inl rfl | exact Or.inr (Or.inl rfl) | exact Or.inr (Or.inr rfl)) (hv2 : Vis (defScope st) p := by first | exact Or.inl rfl | exact Or.inr (Or.inl rfl) | exact Or.inr (Or.inr rfl))
    (hd : (p == ("__debug__" : Str)) = false := by decide) (hcd : (p == ("__classdict__" : Str)) = false := by decide) :
    FnOk P w K mg base (CXh hot mg P w) (k + 1) fI fd ["self", p] (spInit K C f) := by
  refine okXH F Sc (fun vs H Q E h => ?_) (fun cdv A outer s H vs Q E hr h => ?_)
  · obtain ⟨a, y, rfl, _⟩ := h
    rfl
  · obtain ⟨a, y, rfl, T, hno, ha, q⟩ := h
    refine ⟨tOst K f (tVar 0) (tVar 1), ?_, ?_⟩
    · rw [hb]
      exact pss_one (ps_ost (pe_var (i := 0) rfl hv1 (by decide) (by decide)) (pe_var (i := 1) rfl hv2 hd hcd))
    · exact ⟨y, rfl, .ref a, rfl, a, C, rfl, T, hno, .inl ⟨ha, fun dx h1 h2 => q dx h1 h2⟩⟩
/-- raise C(e), C with such an `__init__` -/
def sRaiseV (c f : Str) (g : En → Rs PyData) : En → Out := fun ρ => match g ρ with
  | .ok d => .er (.wth c f d) ρ
  | .er x => .er x ρ
  | .no => .no
structure VTx (K : PySem.W.Frag) (mg : Str → Option Value) (x f : Str) (C fI : Addr) (fd : FuncData) (p : Str) : Prop where
  T : OexC K C
  iC : PySem.W.findIn K (.ref C) "__init__" = some (some (.ref fI))
  tI : PySem.W.typeIn K (.ref fI) = some (.type "function")
  no : PySem.W.findIn K (.ref C) f = some none
  B : Binds K fd ["self", p] []
  m : mg x = some (.ref C)
  xf : XfC K C
structure VExc (P : Program) (w : World) (K : PySem.W.Frag) (mg : Str → Option Value) (base : Heap) (hot : List Str) (x f : Str) (k : Nat) (C fI : Addr) (fd : FuncData) (p : Str) : Prop extends VTx K mg x f C fI fd p where
  F : FnOk P w K mg base (CXh hot mg P w) k fI fd ["self", p] (spInit K C f)
theorem passesH {hot : List Str} {X : Cx} {W : WX} (tk : TakesH hot X W) : Passes (CXh hot X.mg X.prog X.w) X (fun _ _ _ => False) := fun pins σ H s e s' I c => tk e s' (by
  rcases c with c | c
  · exact .inl (L2N.XE.of_call (W := W) I (fun _ _ _ h => h.elim) c)
  · exact .inr (L2.XE.of_call (W := fun cls d σ H => HotCls hot X.mg cls ∧ W cls d σ H) I (fun _ _ _ h => h.2.elim) c))
theorem ds_raiseV {X : Cx} {c : Ct} {hot : List Str} {x f p' : Str} {k : Nat} {C fI : Addr} {fd : FuncData} {e : Expr} {g : En → Rs PyData} {p p2 pos : Pos} (hc : X.calm = true) (tk : TakesH hot X c.W) (V : VExc X.prog X.w X.K X.mg X.base hot x f k C fI fd p') (hr : Room (k + 1) X.A) (hh : x ∈ hot) (hg : Gl X x) (he : DE X c e g)
    (hdb : (x == ("__debug__" : Str)) = false := by decide) (hst : starEach [e] X.env = (false, eval e X.env) :: starEach [] X.env := by rfl) (hpl : (backTo p2 (starEach [] X.env)).any (·.1) = false := by rfl) :
    DS X c (.Raise (some (.Call (.Name x p) [e] [] p2)) none pos) (sRaiseV x f g) := by
  refine ps_imp (L2.ps_raise hc (xe_hot tk) (pmk_oex (dvs := []) V.T V.iC V.tI V.F hr V.B .nil (passesH tk) hg V.m (pa_cons he pa_nil hst) hdb hst hpl)) fun D σ H ⟨S, ρ, rp, pp⟩ => ?_
  unfold sRaiseV at pp
  refine ⟨S, ρ, rp, ?_⟩
  cases eg : g ρ with
  | ok d =>
    rw [eg] at pp
    intro S1 H1 v o1 hv
    refine ⟨by show 1 ≤ 1000; decide, fun a ha => ⟨a, v, rfl, V.T, V.no, upd_same, fun dx hdx hne => ⟨rfl, dx, [(f, v)], upd_same, ?_, ?_, ?_⟩⟩⟩
    · rw [upd_ne hne, upd_same]
    · rw [upd_ne hne] at hdx; exact hdx
    · rw [upd_ne hne] at hdx
      have e1 : upd (del (upd (upd (upd H1 a (exo a C none)) dx (exd dx [(f, v)])) a (exo a C (some dx))) a) dx (.xd [(f, v)]) = upd H1 dx (.xd [(f, v)]) := by
        funext b
        by_cases hb : b = dx
        · subst hb; rw [upd_same, upd_same]
        · rw [upd_ne hb, upd_ne hb]
          by_cases ha' : b = a
          · subst ha'; rw [del_same, ha]
          · rw [del_ne ha', upd_ne ha', upd_ne hb, upd_ne ha']
      rw [e1]
      have o2 : Old H1 S1 S1 (upd H1 dx (.xd [(f, v)])) := ⟨same_upd hdx, o1.sub.trans (same_upd hdx), .refl _, fun _ _ _ => rfl⟩
      exact ⟨⟨x, hh, V.m⟩, pp S1 σ _ (.ref C) (some dx) o1.s0 (rp.step (o1.trans o2)) V.m ⟨dx, v, rfl, upd_same, hv⟩⟩
  | er y =>
    rw [eg] at pp
    exact fun S' H' C' d' o m ex => pp S' σ H' C' d' o.s0 (rp.step o) m ex
  | no => rw [eg] at pp; exact pp.elim
theorem relT_mem : ∀ {l : List (Str × Bool)} {n : Str} {b : Bool}, relT l n = some b → (n, b) ∈ l
  | [], n, b, h => by cases h
  | (k, v) :: r, n, b, h => by
    unfold relT at h
    by_cases e : n = k
    · subst e
      simp [List.lookup] at h
      subst h
      exact List.mem_cons_self
    · have e2 : (n == k) = false := by simpa using e
      rw [List.lookup, e2] at h
      exact List.mem_cons_of_mem _ (relT_mem (l := r) h)
theorem vx_as {K : PySem.W.Frag} {mg : Str → Option Value} {x f p : Str} {C fI : Addr} {fd : FuncData} (V : VTx K mg x f C fI fd p) {l : List (Str × Bool)} (hl : ∀ p ∈ l, p.2 = true → p.1 = x) : ∀ n' C', relT l n' = some true → mg n' = some C' → ∃ a, C' = .ref a ∧ XfC K a ∧ PySem.W.findIn K (.ref a) f = some none := fun n' C' h hm => by
  obtain rfl : n' = x := hl _ (relT_mem h) rfl
  rw [V.m] at hm
  cases hm
  exact ⟨C, rfl, V.xf, V.no⟩
/-! except C as e -/
def noEr1 : Out → Out
  | .er _ _ => .no
  | o => o
def pickX (x : Ex) (ρ : En) : List (Rel × (Ex → En → Out)) → Out
  | [] => .er x ρ
  | (r, G) :: l => match r x.cls with
    | some true => noEr1 (G x ρ)
    | some false => pickX x ρ l
    | none => .no
def sTryX (F : En → Out) (l : List (Rel × (Ex → En → Out))) : En → Out := fun ρ => match F ρ with
  | .er x ρ' => pickX x ρ' l
  | o => o
def DHX (X : Cx) (c : Ct) (hds : List ExceptHandler) (l : List (Rel × (Ex → En → Out))) : Prop := ∃ l', HdsOk' X hds l' ∧
  ∀ (D : Ends) (x : Ex) (ρ : En) (S S' : Hp) (σ' : St) (H' : Hp) (C : Value) (d : Option Addr), Post X.K X.mg c S D (pickX x ρ l) → Same S S' → Rep X.K c.wd c.H0 c.S0 S' ρ σ' H' → X.mg x.cls = some C → ExOk X.K S' H' x d → wMany' c.W D l' C d σ' H'
section
variable {X : Cx} {c : Ct} {pos : Pos} {F : En → Out}
theorem dhx_nil : DHX X c [] [] := ⟨[], .nil, fun D x ρ S S' σ' H' C d p s r m e => p S' σ' H' C d s r m e⟩
theorem dhx_cons {t : Expr} {m : Value → Option Bool} {r : Rel} {b₀ : Stmt} {suite : List Stmt} {pos' : Pos} {hds : List ExceptHandler} {l : List (Rel × (Ex → En → Out))} {G : En → Out} (hc : TestOk X t m) (hr : RelOf' X r m)
    (hs : ∀ (a : Addr) (oe : Obj) (cls : Value) (d : Option Addr) (pn : List (Addr × Obj)), Zc cls d oe → (∃ vs, oe.data = .fields vs) → DSs (X.suite a ((a, oe) :: pn)) c.in1 (b₀ :: suite) G) (h : DHX X c hds l) :
    DHX X c (.ExceptHandler (some t) none (b₀ :: suite) pos' :: hds) ((r, fun _ => G) :: l) := by
  obtain ⟨l', h1, h2⟩ := h
  refine ⟨(m, fun a cls d => tS X.K X.mg c.in1 G) :: l', .cons hc (fun a oe cls d pn hz hf => hs a oe cls d pn hz hf) h1, fun D y ρ S S' σ' H' C d p s rp mm e => ?_⟩
  cases q : r y.cls with
  | none => simp only [pickX, q] at p; exact p.elim
  | some b =>
    refine ⟨b, hr _ _ _ q mm, fun hb a _ => ?_, fun hb => ?_⟩
    · subst hb
      simp only [pickX, q] at p
      refine ⟨S', ρ, rp, ?_⟩
      have p := p.mono s
      cases z : G ρ with
      | nx ρ1 => rw [z] at p; exact p
      | rt v => rw [z] at p; exact p
      | bk ρ1 => rw [z] at p; exact p
      | ct ρ1 => rw [z] at p; exact p
      | er x ρ1 => rw [z] at p; exact p.elim
      | no => rw [z] at p; exact p.elim
    · subst hb
      simp only [pickX, q] at p
      exact h2 D y ρ S S' σ' H' C d p s rp mm e
/-- the state with the caught exception's name in it -/
theorem Rep.hide {K : PySem.W.Frag} {wd : World} {H0 S0 S H : Hp} {ρ : En} {σ : St} (r : Rep K wd H0 S0 S ρ σ H) (i : Nat) (w : Option V) : Rep K wd H0 S0 S (ρ.set i Option.none) (σ.set i w) H := by
  refine ⟨r.old, fun j b e => ?_, fun j l b c hn e1 e2 o1 o2 => ?_, by simpa using r.len⟩
  · rcases getE_set e with ⟨rfl, eb⟩ | ⟨hn, e⟩
    · cases eb
    · obtain ⟨w, e1, h1⟩ := r.slot j b e
      exact ⟨w, by rw [List.getElem?_set_ne hn]; exact e1, h1⟩
  · rcases getE_set e1 with ⟨rfl, eb⟩ | ⟨h1, e1⟩
    · cases eb
    · rcases getE_set e2 with ⟨rfl, eb⟩ | ⟨h2, e2⟩
      · cases eb
      · rw [List.getElem?_set_ne h1, List.getElem?_set_ne h2]
        exact r.apart j l b c hn e1 e2 o1 o2
/-- what the suite makes of the caught exception's field -/
def asG (i j : Nat) (f : Str) (g : PyData → PyData) : Ex → En → Out := fun x ρ => match x with
  | .wth _ f' d => if f' = f ∧ j < ρ.length then .nx (((ρ.set j none).set i (some (.d (g d)))).set j none) else .no
  | .plain _ => .no
theorem dhx_as {t : Expr} {m : Value → Option Bool} {r : Rel} {b₀ : Stmt} {pos' : Pos} {hds : List ExceptHandler} {l : List (Rel × (Ex → En → Out))} {n f : Str} {i j : Nat} {g : PyData → PyData} (hN : X.N.Nodup) (hj : X.N[j]? = some n) (hln : X.env.kindOf n = some .local) (hc : TestOk X t m) (hr : RelOf' X r m)
    (hs : ∀ (a : Addr) (oe : Obj) (cls : Value) (d : Option Addr) (pn : List (Addr × Obj)), Zc cls d oe → (∃ vs, oe.data = .fields vs) → PSs (X.suite a ((a, oe) :: pn)) [b₀] (fun D σ H => ∃ (C : Addr) (dd : Addr) (v : V) (x : PyData) (S : Hp), XfC X.K C ∧ PySem.W.findIn X.K (.ref C) f = some none ∧ σ[j]? = some (some (.ref a)) ∧ cls = .ref C ∧ d = some dd ∧ H dd = some (.xd [(f, v)]) ∧ Dq X.K S v x ∧ Same S H ∧
      ∀ S1 H1 u, Old H S S1 H1 → Dq X.K S1 u (g x) → D.nx (σ.set i (some u)) H1))
    (hX : ∀ n' C, r n' = some true → X.mg n' = some C → ∃ a, C = .ref a ∧ XfC X.K a ∧ PySem.W.findIn X.K (.ref a) f = some none) (h : DHX X c hds l) :
    DHX X c (.ExceptHandler (some t) (some n) [b₀] pos' :: hds) ((r, asG i j f g) :: l) := by
  obtain ⟨l', h1, h2⟩ := h
  refine ⟨_ :: l', .consAs hN hj hln hc (fun a oe cls d pn hz hf => hs a oe cls d pn hz hf) h1, fun D y ρ S S' σ' H' C d p s rp mm e => ?_⟩
  cases q : r y.cls with
  | none => simp only [pickX, q] at p; exact p.elim
  | some b =>
    refine ⟨b, hr _ _ _ q mm, fun hb a _ => ?_, fun hb => ?_⟩
    · subst hb
      simp only [pickX, q] at p
      cases y with
      | plain c1 => exact p.elim
      | wth c1 f' x =>
        unfold asG at p
        dsimp only at p
        by_cases hf : f' = f ∧ j < ρ.length
        · rw [if_pos hf] at p
          obtain ⟨rfl, hjl⟩ := hf
          obtain ⟨Ca, rfl, hxf, hno⟩ := hX _ _ q mm
          obtain ⟨dd, v, ed, hd, hv⟩ := e
          refine ⟨Ca, dd, v, x, S', hxf, hno, List.getElem?_set_self (by rw [← rp.len]; exact hjl), rfl, ed, hd, hv, rp.sub, fun S1 H1 u o1 hu => ?_⟩
          exact p S1 _ H1 (s.trans o1.s0) ((((rp.step o1).hide j (some (.ref a))).set i hu).none j)
        · rw [if_neg hf] at p
          exact p.elim
    · subst hb
      simp only [pickX, q] at p
      exact h2 D y ρ S S' σ' H' C d p s rp mm e
theorem ds_tryX {hot : List Str} {body : List Stmt} {h₀ : ExceptHandler} {hds : List ExceptHandler} {l : List (Rel × (Ex → En → Out))} (hs : X.stack = X.env :: X.outer) (hf : X.env.frame = some X.env.locals) (tk : TakesH hot X c.W)
    (hb : ∀ (W : WX) (pn : List (Addr × Obj)) (xe : Value → Shared → Prop), TakesH hot (X.tr pn xe) W → PassesOwn (model X.prog X.w) X.A X.env xe → DSs (X.tr pn xe) { c with W := W } body F)
    (hh : DHX X c (h₀ :: hds) l) : DS X c (.Try body (h₀ :: hds) [] [] pos) (sTryX F l) := by
  obtain ⟨l', h1, h2⟩ := hh
  refine ps_imp (ps_try_many' (tb := fun W => tS X.K X.mg { c with W := W } F) hs hf tk (fun W pn xe t p => hb W pn xe t p) h1) fun D σ H ⟨S, ρ, rp, p⟩ => ⟨S, ρ, rp, ?_⟩
  unfold sTryX at p
  cases z : F ρ with
  | nx ρ1 => rw [z] at p; exact p
  | rt v => rw [z] at p; exact p
  | bk ρ1 => rw [z] at p; exact p
  | ct ρ1 => rw [z] at p; exact p
  | er x ρ1 => rw [z] at p; exact fun S' σ' H' C d s r m e => h2 D x ρ1 S S' σ' H' C d p s r m e
  | no => rw [z] at p; exact p.elim
/-- the suite `x = e.f` -/
theorem as_field {a : Addr} {oe : Obj} {cls : Value} {d : Option Addr} {pn : List (Addr × Obj)} {x n f : Str} {i j : Nat} {p1 p2 p3 pos : Pos} (hN : X.N.Nodup) (hi : X.N[i]? = some x) (hj : X.N[j]? = some n) (hx : Loc X.env.scope x) (hv : Vis X.env.scope n) (hz : Zc cls d oe) (hf : ∃ vs, oe.data = .fields vs)
    (hfn : X.fn x = true ∨ X.env.scope.names.lookup x = some .local) (hd : (n == ("__debug__" : Str)) = false := by decide) (hcd : (n == ("__classdict__" : Str)) = false := by decide) :
    PSs (X.suite a ((a, oe) :: pn)) [.Assign [.Name x p1] (.Attribute (.Name n p2) f p3) pos] (fun D σ H => ∃ (C : Addr) (dd : Addr) (v : V) (y : PyData) (S : Hp), XfC X.K C ∧ PySem.W.findIn X.K (.ref C) f = some none ∧ σ[j]? = some (some (.ref a)) ∧ cls = .ref C ∧ d = some dd ∧ H dd = some (.xd [(f, v)]) ∧ Dq X.K S v y ∧ Same S H ∧
      ∀ S1 H1 u, Old H S S1 H1 → Dq X.K S1 u (id y) → D.nx (σ.set i (some u)) H1) := by
  refine ⟨fun pins s σ H D I h => ?_⟩
  obtain ⟨C, dd, v, y, S, T, hno, hσ, ec, ed, hH, hdq, hS, q⟩ := h
  exact (pss_one (ps_set (X := X.suite a ((a, oe) :: pn)) hN hi hx (pe_xf T hno hz hf (pe_var (X := X.suite a ((a, oe) :: pn)) hj hv hd hcd) rfl) rfl hfn)).run pins s σ H D I ⟨.ref a, hσ, rfl, ec, dd, [(f, v)], v, ed, hH, by simp [List.lookup], q S H v (.refl hS) hdq⟩
/-- the suite `x = (text, e.f)` -/
theorem as_pair {a : Addr} {oe : Obj} {cls : Value} {d : Option Addr} {pn : List (Addr × Obj)} {x n f z : Str} {i j kk : Nat} {jj : Nat} {p0 p1 p2 p3 p4 pos : Pos} (hN : X.N.Nodup) (hi : X.N[i]? = some x) (hj : X.N[j]? = some n) (hx : Loc X.env.scope x) (hv : Vis X.env.scope n) (hz : Zc cls d oe) (hf : ∃ vs, oe.data = .fields vs)
    (hfn : X.fn x = true ∨ X.env.scope.names.lookup x = some .local) (hd : (n == ("__debug__" : Str)) = false := by decide) (hcd : (n == ("__classdict__" : Str)) = false := by decide) :
    PSs (X.suite a ((a, oe) :: pn)) [.Assign [.Name x p1] (.Tuple [.Constant (.str z) jj p0, .Attribute (.Name n p2) f p3] kk p4) pos] (fun D σ H => ∃ (C : Addr) (dd : Addr) (v : V) (y : PyData) (S : Hp), XfC X.K C ∧ PySem.W.findIn X.K (.ref C) f = some none ∧ σ[j]? = some (some (.ref a)) ∧ cls = .ref C ∧ d = some dd ∧ H dd = some (.xd [(f, v)]) ∧ Dq X.K S v y ∧ Same S H ∧
      ∀ S1 H1 u, Old H S S1 H1 → Dq X.K S1 u ((fun y => PyData.tuple [.str z, y]) y) → D.nx (σ.set i (some u)) H1) := by
  refine ⟨fun pins s σ H D I h => ?_⟩
  obtain ⟨C, dd, v, y, S, T, hno, hσ, ec, ed, hH, hdq, hS, q⟩ := h
  refine (pss_one (ps_set (X := X.suite a ((a, oe) :: pn)) hN hi hx (pe_tup (pa_cons pe_str (pa_cons (pe_xf T hno hz hf (pe_var (X := X.suite a ((a, oe) :: pn)) hj hv hd hcd) rfl) pa_nil rfl) rfl)) rfl hfn)).run pins s σ H D I ⟨.ref a, hσ, rfl, ec, dd, [(f, v)], v, ed, hH, by simp [List.lookup], by show 2 ≤ sizeLine; decide, fun p hp => ?_⟩
  exact q _ _ _ (.new hS hp) (.tup (.of upd_same) (.cons (.str z) (.cons (dp_mono (same_upd (hS.free hp)) _ _ hdq) .nil)))
end
/-! tuple(range(n)) -/
def tupRg : PyData → Rs PyData
  | .int n => if 0 ≤ n ∧ n ≤ 1000000 then .ok (.tuple (rgD 0 n.toNat)) else .no
  | _ => .no
def eTupRg (f : En → Rs PyData) : En → Rs PyData := fun ρ => (f ρ).bind tupRg
theorem rgV_dq {K : PySem.W.Frag} {S : Hp} (a b : Int) : DqAll K S (rgV a b) (rgD a (b - a).toNat) := by
  unfold rgV rgD
  generalize (b - a).toNat = n
  generalize List.range n = l
  induction l with
  | nil => exact .nil
  | cons i r ih => exact .cons (.int _) ih
theorem de_tupRg {X : Cx} {c : Ct} {e : Expr} {f : En → Rs PyData} {p p' pos pos' : Pos} (hc : X.calm = true) (hg : Gl X "tuple") (hm : X.mg "tuple" = none) (hg' : Gl X "range") (hm' : X.mg "range" = none) (he : DE X c e f)
    (na : starEach [e] X.env = (false, eval e X.env) :: starEach [] X.env := by rfl)
    (na2 : starEach [Expr.Call (.Name "range" p') [e] [] pos'] X.env = (false, eval (.Call (.Name "range" p') [e] [] pos') X.env) :: starEach [] X.env := by rfl) :
    DE X c (.Call (.Name "tuple" p) [.Call (.Name "range" p') [e] [] pos'] [] pos) (eTupRg f) := by
  refine pe_imp (pe_tupRg hc hg hm (prg_1 hg' hm' he na) na2) fun σ H Q ⟨S, ρ, rp, q⟩ => ?_
  refine ⟨S, ρ, rp, Go.seq q fun S1 H1 x dx o1 hx q1 => ?_⟩
  unfold tupRg at q1
  split at q1
  · rename_i n
    split at q1
    · rename_i hn
      cases hx
      refine ⟨n, rfl, RgOk.of_le (by omega) (by omega) (by omega) (by omega), fun r hr => ?_⟩
      have := rgV_dq (K := X.K) (S := S1) 0 n
      rw [show (n - 0).toNat = n.toNat by omega] at this
      exact q1 _ _ _ (.new o1.sub hr) (.tup (.of upd_same) (dps_mono (same_upd (o1.sub.free hr)) _ _ this))
    · exact q1.elim
  · exact q1.elim
@[simp] theorem eTupRg_ap (f : En → Rs PyData) (ρ : En) : eTupRg f ρ = (f ρ).bind tupRg := Eq.trans rfl rfl
theorem tupRg_n (n : Nat) (h : n ≤ 1000000) : tupRg (.int (n : Int)) = .ok (.tuple (rgD 0 n)) := by
  show (if 0 ≤ (n : Int) ∧ (n : Int) ≤ 1000000 then Rs.ok (PyData.tuple (rgD 0 (n : Int).toNat)) else .no) = _
  rw [if_pos (by omega)]; rfl
section
variable {c f : Str} {g : En → Rs PyData} {ρ : En} {x : Ex} {d : PyData} {r : Rel} {F : En → Out} {G : Ex → En → Out} {l : List (Rel × (Ex → En → Out))}
@[simp] theorem sRaiseV_ap : sRaiseV c f g ρ = match g ρ with
  | .ok d => .er (.wth c f d) ρ
  | .er x => .er x ρ
  | .no => .no := Eq.trans rfl rfl
@[simp] theorem sTryX_ap : sTryX F l ρ = match F ρ with
  | .er x ρ' => pickX x ρ' l
  | o => o := Eq.trans rfl rfl
@[simp] theorem pickX_nil : pickX x ρ [] = .er x ρ := Eq.trans rfl rfl
@[simp] theorem pickX_cons : pickX x ρ ((r, G) :: l) = match r x.cls with
    | some true => noEr1 (G x ρ)
    | some false => pickX x ρ l
    | none => .no := Eq.trans rfl rfl
@[simp] theorem noEr1_nx (ρ : En) : noEr1 (.nx ρ) = .nx ρ := Eq.trans rfl rfl
@[simp] theorem noEr1_rt (d : PyData) : noEr1 (.rt d) = .rt d := Eq.trans rfl rfl
theorem asG_w {i j : Nat} {g : PyData → PyData} (h : j < ρ.length) : asG i j f g (.wth c f d) ρ = .nx (((ρ.set j none).set i (some (.d (g d)))).set j none) := by
  show (if f = f ∧ j < ρ.length then _ else _) = _
  rw [if_pos ⟨rfl, h⟩]
end
end D2

/-! printed by gen.py from the linked text -/
namespace G
open PySem PySem.Spec PyProof.Rows L2 D2
def top (i : Nat) : Stmt := PySem.Challenge.pw_filecrate_k33_whole_volumes_joined.main.body.getD i (.Pass ⟨0, 0, 0, 0⟩)
@[simp] theorem lit_0 : Str.ofString "lost" = S [108, 111, 115, 116] := by decide +kernel
@[simp] theorem sne_1 : (Str.ofString "BadForm" = Str.ofString "BadVolume") = False := eq_false (by decide +kernel)
@[simp] theorem sne_2 : (Str.ofString "BadForm" = Str.ofString "Cut") = False := eq_false (by decide +kernel)
@[simp] theorem sne_3 : (Str.ofString "BadForm" = Str.ofString "Missing") = False := eq_false (by decide +kernel)
@[simp] theorem sne_4 : (Str.ofString "BadForm" = Str.ofString "NotTogether") = False := eq_false (by decide +kernel)
@[simp] theorem sne_5 : (Str.ofString "BadVolume" = Str.ofString "BadForm") = False := eq_false (by decide +kernel)
@[simp] theorem sne_6 : (Str.ofString "BadVolume" = Str.ofString "Cut") = False := eq_false (by decide +kernel)
@[simp] theorem sne_7 : (Str.ofString "BadVolume" = Str.ofString "Missing") = False := eq_false (by decide +kernel)
@[simp] theorem sne_8 : (Str.ofString "BadVolume" = Str.ofString "NotTogether") = False := eq_false (by decide +kernel)
@[simp] theorem sne_9 : (Str.ofString "Cut" = Str.ofString "BadForm") = False := eq_false (by decide +kernel)
@[simp] theorem sne_10 : (Str.ofString "Cut" = Str.ofString "BadVolume") = False := eq_false (by decide +kernel)
@[simp] theorem sne_11 : (Str.ofString "Cut" = Str.ofString "Missing") = False := eq_false (by decide +kernel)
@[simp] theorem sne_12 : (Str.ofString "Cut" = Str.ofString "NotTogether") = False := eq_false (by decide +kernel)
@[simp] theorem sne_13 : (Str.ofString "Missing" = Str.ofString "BadForm") = False := eq_false (by decide +kernel)
@[simp] theorem sne_14 : (Str.ofString "Missing" = Str.ofString "BadVolume") = False := eq_false (by decide +kernel)
@[simp] theorem sne_15 : (Str.ofString "Missing" = Str.ofString "Cut") = False := eq_false (by decide +kernel)
@[simp] theorem sne_16 : (Str.ofString "Missing" = Str.ofString "NotTogether") = False := eq_false (by decide +kernel)
@[simp] theorem sne_17 : (Str.ofString "NotTogether" = Str.ofString "BadForm") = False := eq_false (by decide +kernel)
@[simp] theorem sne_18 : (Str.ofString "NotTogether" = Str.ofString "BadVolume") = False := eq_false (by decide +kernel)
@[simp] theorem sne_19 : (Str.ofString "NotTogether" = Str.ofString "Cut") = False := eq_false (by decide +kernel)
@[simp] theorem sne_20 : (Str.ofString "NotTogether" = Str.ofString "Missing") = False := eq_false (by decide +kernel)
def hotS : List Str := ["BadVolume", "Missing"]
def rel_BadForm : List (Str × Bool) := [("BadForm", true), ("BadVolume", false), ("Cut", false), ("Missing", false), ("NotTogether", false)]
def rel_Cut : List (Str × Bool) := [("BadForm", false), ("BadVolume", false), ("Cut", true), ("Missing", false), ("NotTogether", false)]
def rel_Missing : List (Str × Bool) := [("BadForm", false), ("BadVolume", false), ("Cut", false), ("Missing", true), ("NotTogether", false)]
def rel_NotTogether : List (Str × Bool) := [("BadForm", false), ("BadVolume", false), ("Cut", false), ("Missing", false), ("NotTogether", true)]
abbrev s_mixed : Stmt := top 22
abbrev nn_mixed : List Str := ["bodies", "size", "found", "body", "k", "one"]
theorem sc_mixed : FnScope nn_mixed ["bodies", "size"] (defScope s_mixed) := ⟨rfl, rfl, rfl, by decide +kernel, rfl, by decide +kernel, by decide +kernel⟩
def g_mixed_1 : PyData → En → Option En := (gTp 2 (gsCons (gNm 4) (gsCons (gNm 5) gsNil)))
theorem g_mixed_1_ap (x : PyData) (ρ : En) : g_mixed_1 x ρ = (gTp 2 (gsCons (gNm 4) (gsCons (gNm 5) gsNil))) x ρ := Eq.trans rfl rfl
def w_mixed_1 : En → Out := (sWp [4, 5] [] [0, 1, 2, 3, 4, 5]
  (sPut 2 (eVar 4) (eB 2 (eBin opXor (eBin opIx (eVar 2) (eVar 4)) (eVar 5)))))
theorem w_mixed_1_ap (ρ : En) : w_mixed_1 ρ = (sWp [4, 5] [] [0, 1, 2, 3, 4, 5]
  (sPut 2 (eVar 4) (eB 2 (eBin opXor (eBin opIx (eVar 2) (eVar 4)) (eVar 5))))) ρ := Eq.trans rfl rfl

def g_mixed_2 : PyData → En → Option En := (gNm 3)
theorem g_mixed_2_ap (x : PyData) (ρ : En) : g_mixed_2 x ρ = (gNm 3) x ρ := Eq.trans rfl rfl
def w_mixed_2 : En → Out := (sWp [3, 4, 5] [] [0, 1, 2, 3, 4, 5]
  (sForW [0, 1, 3, 4, 5] (iRg enumsA (aCons (eVar 3) aNil)) g_mixed_1
  w_mixed_1))
theorem w_mixed_2_ap (ρ : En) : w_mixed_2 ρ = (sWp [3, 4, 5] [] [0, 1, 2, 3, 4, 5]
  (sForW [0, 1, 3, 4, 5] (iRg enumsA (aCons (eVar 3) aNil)) g_mixed_1
  w_mixed_1)) ρ := Eq.trans rfl rfl

def b_mixed : En → Out := (sSeq (sOwn 2 (nRep (eLst (aCons (eC (.int 0)) aNil)) (eVar 1)))
  (sSeq (sForW [0, 1, 3, 4, 5] (iSq (eVar 0)) g_mixed_2
  w_mixed_2)
  (sFrz 2 (sRet (eCall (aCons (eVar 2) aNil) fun ds => ofO (fTuple ds))))))
theorem b_mixed_ap (ρ : En) : b_mixed ρ = (sSeq (sOwn 2 (nRep (eLst (aCons (eC (.int 0)) aNil)) (eVar 1)))
  (sSeq (sForW [0, 1, 3, 4, 5] (iSq (eVar 0)) g_mixed_2
  w_mixed_2)
  (sFrz 2 (sRet (eCall (aCons (eVar 2) aNil) fun ds => ofO (fTuple ds)))))) ρ := Eq.trans rfl rfl

def f_mixed : List PyData → Rs PyData := runB 2 6 b_mixed
theorem f_mixed_at (x0 x1 : PyData) : f_mixed [x0, x1] = (b_mixed [some (.d x0), some (.d x1), none, none, none, none]).val := by rw [f_mixed, runB_eq]; rfl
abbrev s_number_bytes : Stmt := top 14
abbrev nn_number_bytes : List Str := ["n", "found"]
theorem sc_number_bytes : FnScope nn_number_bytes ["n"] (defScope s_number_bytes) := ⟨rfl, rfl, rfl, by decide +kernel, rfl, by decide +kernel, by decide +kernel⟩
def t_number_bytes_1 : En → Rs Bool := (bOf (eBin opGt (eVar 0) (eC (.int 127))))
theorem t_number_bytes_1_ap (ρ : En) : t_number_bytes_1 ρ = (bOf (eBin opGt (eVar 0) (eC (.int 127)))) ρ := Eq.trans rfl rfl
def w_number_bytes_1 : En → Out := (sSeq (sSet 1 (eBin opAdd (eVar 1) (eTup (aCons (eBin opAdd (eBin opMod (eVar 0) (eC (.int 128))) (eC (.int 128))) aNil))))
  (sSet 0 (eBin opDiv (eVar 0) (eC (.int 128)))))
theorem w_number_bytes_1_ap (ρ : En) : w_number_bytes_1 ρ = (sSeq (sSet 1 (eBin opAdd (eVar 1) (eTup (aCons (eBin opAdd (eBin opMod (eVar 0) (eC (.int 128))) (eC (.int 128))) aNil))))
  (sSet 0 (eBin opDiv (eVar 0) (eC (.int 128))))) ρ := Eq.trans rfl rfl

def b_number_bytes : En → Out := (sSeq (sSet 1 (eTup aNil))
  (sSeq (sWhile (fun _ => bigF) t_number_bytes_1 w_number_bytes_1)
  (sRet (eBin opAdd (eVar 1) (eTup (aCons (eVar 0) aNil))))))
theorem b_number_bytes_ap (ρ : En) : b_number_bytes ρ = (sSeq (sSet 1 (eTup aNil))
  (sSeq (sWhile (fun _ => bigF) t_number_bytes_1 w_number_bytes_1)
  (sRet (eBin opAdd (eVar 1) (eTup (aCons (eVar 0) aNil)))))) ρ := Eq.trans rfl rfl

def f_number_bytes : List PyData → Rs PyData := runB 1 2 b_number_bytes
theorem f_number_bytes_at (x0 : PyData) : f_number_bytes [x0] = (b_number_bytes [some (.d x0), none]).val := by rw [f_number_bytes, runB_eq]; rfl
abbrev s_fixed_bytes : Stmt := top 16
abbrev nn_fixed_bytes : List Str := ["n", "many", "found"]
theorem sc_fixed_bytes : FnScope nn_fixed_bytes ["n", "many"] (defScope s_fixed_bytes) := ⟨rfl, rfl, rfl, by decide +kernel, rfl, by decide +kernel, by decide +kernel⟩
def t_fixed_bytes_1 : En → Rs Bool := (bOf (eBin opLt (eCall (aCons (eVar 2) aNil) fun ds => ofO (fLen ds)) (eVar 1)))
theorem t_fixed_bytes_1_ap (ρ : En) : t_fixed_bytes_1 ρ = (bOf (eBin opLt (eCall (aCons (eVar 2) aNil) fun ds => ofO (fLen ds)) (eVar 1))) ρ := Eq.trans rfl rfl
def w_fixed_bytes_1 : En → Out := (sSeq (sSet 2 (eBin opAdd (eTup (aCons (eBin opMod (eVar 0) (eC (.int 256))) aNil)) (eVar 2)))
  (sSet 0 (eBin opDiv (eVar 0) (eC (.int 256)))))
theorem w_fixed_bytes_1_ap (ρ : En) : w_fixed_bytes_1 ρ = (sSeq (sSet 2 (eBin opAdd (eTup (aCons (eBin opMod (eVar 0) (eC (.int 256))) aNil)) (eVar 2)))
  (sSet 0 (eBin opDiv (eVar 0) (eC (.int 256))))) ρ := Eq.trans rfl rfl

def b_fixed_bytes : En → Out := (sSeq (sSet 2 (eTup aNil))
  (sSeq (sWhile (fun _ => bigF) t_fixed_bytes_1 w_fixed_bytes_1)
  (sRet (eVar 2))))
theorem b_fixed_bytes_ap (ρ : En) : b_fixed_bytes ρ = (sSeq (sSet 2 (eTup aNil))
  (sSeq (sWhile (fun _ => bigF) t_fixed_bytes_1 w_fixed_bytes_1)
  (sRet (eVar 2)))) ρ := Eq.trans rfl rfl

def f_fixed_bytes : List PyData → Rs PyData := runB 2 3 b_fixed_bytes
theorem f_fixed_bytes_at (x0 x1 : PyData) : f_fixed_bytes [x0, x1] = (b_fixed_bytes [some (.d x0), some (.d x1), none]).val := by rw [f_fixed_bytes, runB_eq]; rfl
abbrev s_check_on : Stmt := top 3
abbrev nn_check_on : List Str := ["before", "body", "mark", "one", "k", "bit", "above"]
theorem sc_check_on : FnScope nn_check_on ["before", "body"] (defScope s_check_on) := ⟨rfl, rfl, rfl, by decide +kernel, rfl, by decide +kernel, by decide +kernel⟩
def g_check_on_1 : PyData → En → Option En := (gNm 4)
theorem g_check_on_1_ap (x : PyData) (ρ : En) : g_check_on_1 x ρ = (gNm 4) x ρ := Eq.trans rfl rfl
def w_check_on_1 : En → Out := (sSeq (sSet 5 (eBin opAnd (eBin opShr (eVar 3) (eVar 4)) (eC (.int 1))))
  (sSeq (sSet 6 (eBin opShr (eVar 2) (eC (.int 15))))
  (sSeq (sSet 2 (eBin opMod (eBin opMul (eVar 2) (eC (.int 2))) (eC (.int 65536))))
  (sIf (bOf (eBin opNe (eVar 5) (eVar 6))) (sSet 2 (eBin opXor (eVar 2) (eC (.int 4129)))) sNil))))
theorem w_check_on_1_ap (ρ : En) : w_check_on_1 ρ = (sSeq (sSet 5 (eBin opAnd (eBin opShr (eVar 3) (eVar 4)) (eC (.int 1))))
  (sSeq (sSet 6 (eBin opShr (eVar 2) (eC (.int 15))))
  (sSeq (sSet 2 (eBin opMod (eBin opMul (eVar 2) (eC (.int 2))) (eC (.int 65536))))
  (sIf (bOf (eBin opNe (eVar 5) (eVar 6))) (sSet 2 (eBin opXor (eVar 2) (eC (.int 4129)))) sNil)))) ρ := Eq.trans rfl rfl

def g_check_on_2 : PyData → En → Option En := (gNm 3)
theorem g_check_on_2_ap (x : PyData) (ρ : En) : g_check_on_2 x ρ = (gNm 3) x ρ := Eq.trans rfl rfl
def w_check_on_2 : En → Out := (sFor (iRg rng3 (aCons (eC (.int 7)) (aCons (eUn opNeg (eC (.int 1))) (aCons (eUn opNeg (eC (.int 1))) aNil)))) g_check_on_1
  w_check_on_1)
theorem w_check_on_2_ap (ρ : En) : w_check_on_2 ρ = (sFor (iRg rng3 (aCons (eC (.int 7)) (aCons (eUn opNeg (eC (.int 1))) (aCons (eUn opNeg (eC (.int 1))) aNil)))) g_check_on_1
  w_check_on_1) ρ := Eq.trans rfl rfl

def b_check_on : En → Out := (sSeq (sSet 2 (eVar 0))
  (sSeq (sFor (iSq (eVar 1)) g_check_on_2
  w_check_on_2)
  (sRet (eVar 2))))
theorem b_check_on_ap (ρ : En) : b_check_on ρ = (sSeq (sSet 2 (eVar 0))
  (sSeq (sFor (iSq (eVar 1)) g_check_on_2
  w_check_on_2)
  (sRet (eVar 2)))) ρ := Eq.trans rfl rfl

def f_check_on : List PyData → Rs PyData := runB 2 7 b_check_on
theorem f_check_on_at (x0 x1 : PyData) : f_check_on [x0, x1] = (b_check_on [some (.d x0), some (.d x1), none, none, none, none, none]).val := by rw [f_check_on, runB_eq]; rfl
abbrev s_check_of : Stmt := top 4
abbrev nn_check_of : List Str := ["body"]
theorem sc_check_of : FnScope nn_check_of ["body"] (defScope s_check_of) := ⟨rfl, rfl, rfl, by decide +kernel, rfl, by decide +kernel, by decide +kernel⟩
def b_check_of : En → Out := (sRet (eCall (aCons (eC (.int 65535)) (aCons (eVar 0) aNil)) f_check_on))
theorem b_check_of_ap (ρ : En) : b_check_of ρ = (sRet (eCall (aCons (eC (.int 65535)) (aCons (eVar 0) aNil)) f_check_on)) ρ := Eq.trans rfl rfl

def f_check_of : List PyData → Rs PyData := runB 1 1 b_check_of
theorem f_check_of_at (x0 : PyData) : f_check_of [x0] = (b_check_of [some (.d x0)]).val := by rw [f_check_of, runB_eq]; rfl
abbrev s_volume_of : Stmt := top 23
abbrev nn_volume_of : List Str := ["number", "most", "some", "body", "head"]
theorem sc_volume_of : FnScope nn_volume_of ["number", "most", "some", "body"] (defScope s_volume_of) := ⟨rfl, rfl, rfl, by decide +kernel, rfl, by decide +kernel, by decide +kernel⟩
def b_volume_of : En → Out := (sSeq (sSet 4 (eBin opAdd (eBin opAdd (eBin opAdd (eC (.tuple [.int 70, .int 86])) (eCall (aCons (eVar 0) aNil) f_number_bytes)) (eCall (aCons (eVar 1) aNil) f_number_bytes)) (eCall (aCons (eCall (aCons (eVar 2) aNil) fun ds => ofO (fLen ds)) aNil) f_number_bytes)))
  (sSeq (sSet 4 (eBin opAdd (eBin opAdd (eVar 4) (eCall (aCons (eCall (aCons (eVar 2) aNil) f_check_of) (aCons (eC (.int 2)) aNil)) f_fixed_bytes)) (eVar 3)))
  (sRet (eBin opAdd (eVar 4) (eCall (aCons (eCall (aCons (eVar 4) aNil) f_check_of) (aCons (eC (.int 2)) aNil)) f_fixed_bytes)))))
theorem b_volume_of_ap (ρ : En) : b_volume_of ρ = (sSeq (sSet 4 (eBin opAdd (eBin opAdd (eBin opAdd (eC (.tuple [.int 70, .int 86])) (eCall (aCons (eVar 0) aNil) f_number_bytes)) (eCall (aCons (eVar 1) aNil) f_number_bytes)) (eCall (aCons (eCall (aCons (eVar 2) aNil) fun ds => ofO (fLen ds)) aNil) f_number_bytes)))
  (sSeq (sSet 4 (eBin opAdd (eBin opAdd (eVar 4) (eCall (aCons (eCall (aCons (eVar 2) aNil) f_check_of) (aCons (eC (.int 2)) aNil)) f_fixed_bytes)) (eVar 3)))
  (sRet (eBin opAdd (eVar 4) (eCall (aCons (eCall (aCons (eVar 4) aNil) f_check_of) (aCons (eC (.int 2)) aNil)) f_fixed_bytes))))) ρ := Eq.trans rfl rfl

def f_volume_of : List PyData → Rs PyData := runB 4 5 b_volume_of
theorem f_volume_of_at (x0 x1 x2 x3 : PyData) : f_volume_of [x0, x1, x2, x3] = (b_volume_of [some (.d x0), some (.d x1), some (.d x2), some (.d x3), none]).val := by rw [f_volume_of, runB_eq]; rfl
abbrev s_shared : Stmt := top 24
abbrev nn_shared : List Str := ["some", "most", "bodies", "spare", "at", "k", "body"]
theorem sc_shared : FnScope nn_shared ["some", "most"] (defScope s_shared) := ⟨rfl, rfl, rfl, by decide +kernel, rfl, by decide +kernel, by decide +kernel⟩
def t_shared_1 : En → Rs Bool := bYes
theorem t_shared_1_ap (ρ : En) : t_shared_1 ρ = bYes ρ := Eq.trans rfl rfl
def e_shared_1 : En → Rs PyData := (eSl opSl (eVar 0) (pSome (eVar 4)) (pSome (eBin opAdd (eVar 4) (eVar 1))))
theorem e_shared_1_ap (ρ : En) : e_shared_1 ρ = (eSl opSl (eVar 0) (pSome (eVar 4)) (pSome (eBin opAdd (eVar 4) (eVar 1)))) ρ := Eq.trans rfl rfl

def t_shared_2 : En → Rs Bool := bYes
theorem t_shared_2_ap (ρ : En) : t_shared_2 ρ = bYes ρ := Eq.trans rfl rfl
def e_shared_2 : En → Rs PyData := (eCall (aCons (eVar 5) (aCons (eVar 1) (aCons (eVar 0) (aCons (eVar 6) aNil)))) f_volume_of)
theorem e_shared_2_ap (ρ : En) : e_shared_2 ρ = (eCall (aCons (eVar 5) (aCons (eVar 1) (aCons (eVar 0) (aCons (eVar 6) aNil)))) f_volume_of) ρ := Eq.trans rfl rfl

def b_shared : En → Out := (sSeq (sSet 2 (eLc [4] (iRg rng3 (aCons (eC (.int 0)) (aCons (eCall (aCons (eVar 0) aNil) fun ds => ofO (fLen ds)) (aCons (eVar 1) aNil)))) (gNm 4) t_shared_1 e_shared_1))
  (sSeq (sSet 3 (eCall (aCons (eVar 2) (aCons (eCall (aCons (eVar 1) (aCons (eCall (aCons (eVar 0) aNil) fun ds => ofO (fLen ds)) aNil)) fun ds => ofO (fMin ds)) aNil)) f_mixed))
  (sRet (eCall (aCons (eLc [5, 6] (iRg enumsA (aCons (eBin opAdd (eVar 2) (eLst (aCons (eVar 3) aNil))) aNil)) (gTp 2 (gsCons (gNm 5) (gsCons (gNm 6) gsNil))) t_shared_2 e_shared_2) aNil) fun ds => ofO (fTuple ds)))))
theorem b_shared_ap (ρ : En) : b_shared ρ = (sSeq (sSet 2 (eLc [4] (iRg rng3 (aCons (eC (.int 0)) (aCons (eCall (aCons (eVar 0) aNil) fun ds => ofO (fLen ds)) (aCons (eVar 1) aNil)))) (gNm 4) t_shared_1 e_shared_1))
  (sSeq (sSet 3 (eCall (aCons (eVar 2) (aCons (eCall (aCons (eVar 1) (aCons (eCall (aCons (eVar 0) aNil) fun ds => ofO (fLen ds)) aNil)) fun ds => ofO (fMin ds)) aNil)) f_mixed))
  (sRet (eCall (aCons (eLc [5, 6] (iRg enumsA (aCons (eBin opAdd (eVar 2) (eLst (aCons (eVar 3) aNil))) aNil)) (gTp 2 (gsCons (gNm 5) (gsCons (gNm 6) gsNil))) t_shared_2 e_shared_2) aNil) fun ds => ofO (fTuple ds))))) ρ := Eq.trans rfl rfl

def f_shared : List PyData → Rs PyData := runB 2 7 b_shared
theorem f_shared_at (x0 x1 : PyData) : f_shared [x0, x1] = (b_shared [some (.d x0), some (.d x1), none, none, none, none, none]).val := by rw [f_shared, runB_eq]; rfl
abbrev s_l_d : Stmt := top 30
abbrev nn_l_d : List Str := ["_law_cell_here", "_law_place", "_law_many", "_law_number"]
theorem sc_l_d : FnScope nn_l_d ["_law_cell_here", "_law_place", "_law_many"] (defScope s_l_d) := ⟨rfl, rfl, rfl, by decide +kernel, rfl, by decide +kernel, by decide +kernel⟩
def b_l_d : En → Out := (sSeq (sSet 3 (eBin opMod (eBin opAdd (eVar 0) (eBin opMul (eC (.int 104729)) (eVar 1))) (eC (.int 4294967291))))
  (sSeq (sSet 3 (eBin opMod (eBin opMul (eBin opMod (eBin opMul (eVar 3) (eVar 3)) (eC (.int 4294967279))) (eC (.int 48271))) (eC (.int 4294967291))))
  (sRet (eBin opMod (eBin opDiv (eVar 3) (eC (.int 64))) (eVar 2)))))
theorem b_l_d_ap (ρ : En) : b_l_d ρ = (sSeq (sSet 3 (eBin opMod (eBin opAdd (eVar 0) (eBin opMul (eC (.int 104729)) (eVar 1))) (eC (.int 4294967291))))
  (sSeq (sSet 3 (eBin opMod (eBin opMul (eBin opMod (eBin opMul (eVar 3) (eVar 3)) (eC (.int 4294967279))) (eC (.int 48271))) (eC (.int 4294967291))))
  (sRet (eBin opMod (eBin opDiv (eVar 3) (eC (.int 64))) (eVar 2))))) ρ := Eq.trans rfl rfl

def f_l_d : List PyData → Rs PyData := runB 3 4 b_l_d
theorem f_l_d_at (x0 x1 x2 : PyData) : f_l_d [x0, x1, x2] = (b_l_d [some (.d x0), some (.d x1), some (.d x2), none]).val := by rw [f_l_d, runB_eq]; rfl
abbrev s_l_few : Stmt := top 33
abbrev nn_l_few : List Str := ["_law_script", "_law_begin", "_law_end", "_law_cell_here", "_law_wide", "_law_one"]
theorem sc_l_few : FnScope nn_l_few ["_law_script", "_law_begin", "_law_end"] (defScope s_l_few) := ⟨rfl, rfl, rfl, by decide +kernel, rfl, by decide +kernel, by decide +kernel⟩
def t_l_few_1 : En → Rs Bool := bYes
theorem t_l_few_1_ap (ρ : En) : t_l_few_1 ρ = bYes ρ := Eq.trans rfl rfl
def e_l_few_1 : En → Rs PyData := (eBin opMod (eBin opAdd (eBin opMod (eVar 5) (eVar 4)) (eBin opDiv (eVar 3) (eC (.int 4)))) (eC (.int 256)))
theorem e_l_few_1_ap (ρ : En) : e_l_few_1 ρ = (eBin opMod (eBin opAdd (eBin opMod (eVar 5) (eVar 4)) (eBin opDiv (eVar 3) (eC (.int 4)))) (eC (.int 256))) ρ := Eq.trans rfl rfl

def b_l_few : En → Out := (sSeq (sSet 3 (eC (.int 0)))
  (sSeq (sIf (bTruth (eVar 0)) (sSet 3 (eBin opIx (eVar 0) (eC (.int 0)))) sNil)
  (sSeq (sSet 4 (eBin opIx (eLst (aCons (eC (.int 2)) (aCons (eC (.int 3)) (aCons (eC (.int 5)) (aCons (eC (.int 256)) aNil))))) (eCall (aCons (eVar 3) (aCons (eC (.int 1)) (aCons (eC (.int 4)) aNil))) f_l_d)))
  (sRet (eCall (aCons (eLc [5] (iSq (eSl opSl (eVar 0) (pSome (eVar 1)) (pSome (eVar 2)))) (gNm 5) t_l_few_1 e_l_few_1) aNil) fun ds => ofO (fTuple ds))))))
theorem b_l_few_ap (ρ : En) : b_l_few ρ = (sSeq (sSet 3 (eC (.int 0)))
  (sSeq (sIf (bTruth (eVar 0)) (sSet 3 (eBin opIx (eVar 0) (eC (.int 0)))) sNil)
  (sSeq (sSet 4 (eBin opIx (eLst (aCons (eC (.int 2)) (aCons (eC (.int 3)) (aCons (eC (.int 5)) (aCons (eC (.int 256)) aNil))))) (eCall (aCons (eVar 3) (aCons (eC (.int 1)) (aCons (eC (.int 4)) aNil))) f_l_d)))
  (sRet (eCall (aCons (eLc [5] (iSq (eSl opSl (eVar 0) (pSome (eVar 1)) (pSome (eVar 2)))) (gNm 5) t_l_few_1 e_l_few_1) aNil) fun ds => ofO (fTuple ds)))))) ρ := Eq.trans rfl rfl

def f_l_few : List PyData → Rs PyData := runB 3 6 b_l_few
theorem f_l_few_at (x0 x1 x2 : PyData) : f_l_few [x0, x1, x2] = (b_l_few [some (.d x0), some (.d x1), some (.d x2), none, none, none]).val := by rw [f_l_few, runB_eq]; rfl
abbrev s_l_same : Stmt := top 32
abbrev nn_l_same : List Str := ["_law_told_here", "_law_due", "_law_one", "_law_other"]
theorem sc_l_same : FnScope nn_l_same ["_law_told_here", "_law_due"] (defScope s_l_same) := ⟨rfl, rfl, rfl, by decide +kernel, rfl, by decide +kernel, by decide +kernel⟩
def t_l_same_1 (g : List PyData → Rs PyData) : En → Rs Bool := bYes
theorem t_l_same_1_ap (g : List PyData → Rs PyData) (ρ : En) : t_l_same_1 g ρ = bYes ρ := Eq.trans rfl rfl
def e_l_same_1 (g : List PyData → Rs PyData) : En → Rs PyData := (eCall (aCons (eVar 2) (aCons (eVar 3) aNil)) g)
theorem e_l_same_1_ap (g : List PyData → Rs PyData) (ρ : En) : e_l_same_1 g ρ = (eCall (aCons (eVar 2) (aCons (eVar 3) aNil)) g) ρ := Eq.trans rfl rfl

def b_l_same (g : List PyData → Rs PyData) : En → Out := (sSeq (sIf (bOf (eIsN (eVar 1))) (sRet (eIsN (eVar 0))) sNil)
  (sSeq (sIf (bTruth (eIsi "bool" (eVar 1))) (sRet (eAnd (eIsi "bool" (eVar 0)) (eBin opEq (eVar 0) (eVar 1)))) sNil)
  (sSeq (sIf (bTruth (eIsi "tuple" (eVar 1))) (sSeq (sIf (bOr (bNot (bTruth (eIsi "tuple" (eVar 0)))) (bOf (eBin opNe (eCall (aCons (eVar 0) aNil) fun ds => ofO (fLen ds)) (eCall (aCons (eVar 1) aNil) fun ds => ofO (fLen ds))))) (sRet (eC (.bool false))) sNil)
  (sRet (eCall (aCons (eLc [2, 3] (iRg zips (aCons (eVar 0) (aCons (eVar 1) aNil))) (gTp 2 (gsCons (gNm 2) (gsCons (gNm 3) gsNil))) (t_l_same_1 g) (e_l_same_1 g)) aNil) fun ds => ofO (fAll ds)))) sNil)
  (sSeq (sIf (bTruth (eIsi "str" (eVar 1))) (sRet (eAnd (eIsi "str" (eVar 0)) (eBin opEq (eVar 0) (eVar 1)))) sNil)
  (sRet (eAnd (eIsi "int" (eVar 0)) (eAnd (eNot (eIsi "bool" (eVar 0))) (eBin opEq (eVar 0) (eVar 1)))))))))
theorem b_l_same_ap (g : List PyData → Rs PyData) (ρ : En) : b_l_same g ρ = (sSeq (sIf (bOf (eIsN (eVar 1))) (sRet (eIsN (eVar 0))) sNil)
  (sSeq (sIf (bTruth (eIsi "bool" (eVar 1))) (sRet (eAnd (eIsi "bool" (eVar 0)) (eBin opEq (eVar 0) (eVar 1)))) sNil)
  (sSeq (sIf (bTruth (eIsi "tuple" (eVar 1))) (sSeq (sIf (bOr (bNot (bTruth (eIsi "tuple" (eVar 0)))) (bOf (eBin opNe (eCall (aCons (eVar 0) aNil) fun ds => ofO (fLen ds)) (eCall (aCons (eVar 1) aNil) fun ds => ofO (fLen ds))))) (sRet (eC (.bool false))) sNil)
  (sRet (eCall (aCons (eLc [2, 3] (iRg zips (aCons (eVar 0) (aCons (eVar 1) aNil))) (gTp 2 (gsCons (gNm 2) (gsCons (gNm 3) gsNil))) (t_l_same_1 g) (e_l_same_1 g)) aNil) fun ds => ofO (fAll ds)))) sNil)
  (sSeq (sIf (bTruth (eIsi "str" (eVar 1))) (sRet (eAnd (eIsi "str" (eVar 0)) (eBin opEq (eVar 0) (eVar 1)))) sNil)
  (sRet (eAnd (eIsi "int" (eVar 0)) (eAnd (eNot (eIsi "bool" (eVar 0))) (eBin opEq (eVar 0) (eVar 1))))))))) ρ := Eq.trans rfl rfl

def f_l_same : Nat → List PyData → Rs PyData
  | 0 => fun _ => .no
  | n + 1 => runB 2 4 (b_l_same (f_l_same n))
abbrev s_l_cell : Stmt := top 31
abbrev nn_l_cell : List Str := ["_law_script", "_law_k"]
theorem sc_l_cell : FnScope nn_l_cell ["_law_script", "_law_k"] (defScope s_l_cell) := ⟨rfl, rfl, rfl, by decide +kernel, rfl, by decide +kernel, by decide +kernel⟩
def b_l_cell : En → Out := (sSeq (sIf (bOf (eBin opLt (eVar 1) (eCall (aCons (eVar 0) aNil) fun ds => ofO (fLen ds)))) (sRet (eBin opIx (eVar 0) (eVar 1))) sNil)
  (sRet (eC (.int 0))))
theorem b_l_cell_ap (ρ : En) : b_l_cell ρ = (sSeq (sIf (bOf (eBin opLt (eVar 1) (eCall (aCons (eVar 0) aNil) fun ds => ofO (fLen ds)))) (sRet (eBin opIx (eVar 0) (eVar 1))) sNil)
  (sRet (eC (.int 0)))) ρ := Eq.trans rfl rfl

def f_l_cell : List PyData → Rs PyData := runB 2 2 b_l_cell
theorem f_l_cell_at (x0 x1 : PyData) : f_l_cell [x0, x1] = (b_l_cell [some (.d x0), some (.d x1)]).val := by rw [f_l_cell, runB_eq]; rfl
abbrev s_how_many : Stmt := top 25
abbrev nn_how_many : List Str := ["most", "size"]
theorem sc_how_many : FnScope nn_how_many ["most", "size"] (defScope s_how_many) := ⟨rfl, rfl, rfl, by decide +kernel, rfl, by decide +kernel, by decide +kernel⟩
def b_how_many : En → Out := (sRet (eBin opDiv (eBin opSub (eBin opAdd (eVar 1) (eVar 0)) (eC (.int 1))) (eVar 0)))
theorem b_how_many_ap (ρ : En) : b_how_many ρ = (sRet (eBin opDiv (eBin opSub (eBin opAdd (eVar 1) (eVar 0)) (eC (.int 1))) (eVar 0))) ρ := Eq.trans rfl rfl

def f_how_many : List PyData → Rs PyData := runB 2 2 b_how_many
theorem f_how_many_at (x0 x1 : PyData) : f_how_many [x0, x1] = (b_how_many [some (.d x0), some (.d x1)]).val := by rw [f_how_many, runB_eq]; rfl
abbrev s_read_number : Stmt := top 15
abbrev nn_read_number : List Str := ["some", "at", "n", "unit", "k", "one"]
theorem sc_read_number : FnScope nn_read_number ["some", "at"] (defScope s_read_number) := ⟨rfl, rfl, rfl, by decide +kernel, rfl, by decide +kernel, by decide +kernel⟩
def g_read_number_1 : PyData → En → Option En := (gNm 4)
theorem g_read_number_1_ap (x : PyData) (ρ : En) : g_read_number_1 x ρ = (gNm 4) x ρ := Eq.trans rfl rfl
def w_read_number_1 : En → Out := (sSeq (sIf (bOf (eBin opGeT (eBin opAdd (eVar 1) (eVar 4)) (eCall (aCons (eVar 0) aNil) fun ds => ofO (fLen ds)))) (sRaise "Cut") sNil)
  (sSeq (sSet 5 (eBin opIx (eVar 0) (eBin opAdd (eVar 1) (eVar 4))))
  (sSeq (sIf (bAnd (bOf (eBin opEq (eVar 5) (eC (.int 0)))) (bOf (eBin opGt (eVar 4) (eC (.int 0))))) (sRaise "BadForm") sNil)
  (sSeq (sSet 2 (eBin opAdd (eVar 2) (eBin opMul (eBin opMod (eVar 5) (eC (.int 128))) (eVar 3))))
  (sSeq (sIf (bOf (eBin opLt (eVar 5) (eC (.int 128)))) (sRet (eTup (aCons (eVar 2) (aCons (eBin opAdd (eBin opAdd (eVar 1) (eVar 4)) (eC (.int 1))) aNil)))) sNil)
  (sSet 3 (eBin opMul (eVar 3) (eC (.int 128)))))))))
theorem w_read_number_1_ap (ρ : En) : w_read_number_1 ρ = (sSeq (sIf (bOf (eBin opGeT (eBin opAdd (eVar 1) (eVar 4)) (eCall (aCons (eVar 0) aNil) fun ds => ofO (fLen ds)))) (sRaise "Cut") sNil)
  (sSeq (sSet 5 (eBin opIx (eVar 0) (eBin opAdd (eVar 1) (eVar 4))))
  (sSeq (sIf (bAnd (bOf (eBin opEq (eVar 5) (eC (.int 0)))) (bOf (eBin opGt (eVar 4) (eC (.int 0))))) (sRaise "BadForm") sNil)
  (sSeq (sSet 2 (eBin opAdd (eVar 2) (eBin opMul (eBin opMod (eVar 5) (eC (.int 128))) (eVar 3))))
  (sSeq (sIf (bOf (eBin opLt (eVar 5) (eC (.int 128)))) (sRet (eTup (aCons (eVar 2) (aCons (eBin opAdd (eBin opAdd (eVar 1) (eVar 4)) (eC (.int 1))) aNil)))) sNil)
  (sSet 3 (eBin opMul (eVar 3) (eC (.int 128))))))))) ρ := Eq.trans rfl rfl

def b_read_number : En → Out := (sSeq (sSet 2 (eC (.int 0)))
  (sSeq (sSet 3 (eC (.int 1)))
  (sSeq (sFor (iRg rng1 (aCons (eC (.int 6)) aNil)) g_read_number_1
  w_read_number_1)
  (sRaise "BadForm"))))
theorem b_read_number_ap (ρ : En) : b_read_number ρ = (sSeq (sSet 2 (eC (.int 0)))
  (sSeq (sSet 3 (eC (.int 1)))
  (sSeq (sFor (iRg rng1 (aCons (eC (.int 6)) aNil)) g_read_number_1
  w_read_number_1)
  (sRaise "BadForm")))) ρ := Eq.trans rfl rfl

def f_read_number : List PyData → Rs PyData := runB 2 6 b_read_number
theorem f_read_number_at (x0 x1 : PyData) : f_read_number [x0, x1] = (b_read_number [some (.d x0), some (.d x1), none, none, none, none]).val := by rw [f_read_number, runB_eq]; rfl
abbrev s_read_fixed : Stmt := top 17
abbrev nn_read_fixed : List Str := ["some", "at", "many", "n", "one"]
theorem sc_read_fixed : FnScope nn_read_fixed ["some", "at", "many"] (defScope s_read_fixed) := ⟨rfl, rfl, rfl, by decide +kernel, rfl, by decide +kernel, by decide +kernel⟩
def g_read_fixed_1 : PyData → En → Option En := (gNm 4)
theorem g_read_fixed_1_ap (x : PyData) (ρ : En) : g_read_fixed_1 x ρ = (gNm 4) x ρ := Eq.trans rfl rfl
def w_read_fixed_1 : En → Out := (sSet 3 (eBin opAdd (eBin opMul (eVar 3) (eC (.int 256))) (eVar 4)))
theorem w_read_fixed_1_ap (ρ : En) : w_read_fixed_1 ρ = (sSet 3 (eBin opAdd (eBin opMul (eVar 3) (eC (.int 256))) (eVar 4))) ρ := Eq.trans rfl rfl

def b_read_fixed : En → Out := (sSeq (sIf (bOf (eBin opGt (eBin opAdd (eVar 1) (eVar 2)) (eCall (aCons (eVar 0) aNil) fun ds => ofO (fLen ds)))) (sRaise "Cut") sNil)
  (sSeq (sSet 3 (eC (.int 0)))
  (sSeq (sFor (iSq (eSl opSl (eVar 0) (pSome (eVar 1)) (pSome (eBin opAdd (eVar 1) (eVar 2))))) g_read_fixed_1
  w_read_fixed_1)
  (sRet (eTup (aCons (eVar 3) (aCons (eBin opAdd (eVar 1) (eVar 2)) aNil)))))))
theorem b_read_fixed_ap (ρ : En) : b_read_fixed ρ = (sSeq (sIf (bOf (eBin opGt (eBin opAdd (eVar 1) (eVar 2)) (eCall (aCons (eVar 0) aNil) fun ds => ofO (fLen ds)))) (sRaise "Cut") sNil)
  (sSeq (sSet 3 (eC (.int 0)))
  (sSeq (sFor (iSq (eSl opSl (eVar 0) (pSome (eVar 1)) (pSome (eBin opAdd (eVar 1) (eVar 2))))) g_read_fixed_1
  w_read_fixed_1)
  (sRet (eTup (aCons (eVar 3) (aCons (eBin opAdd (eVar 1) (eVar 2)) aNil))))))) ρ := Eq.trans rfl rfl

def f_read_fixed : List PyData → Rs PyData := runB 3 5 b_read_fixed
theorem f_read_fixed_at (x0 x1 x2 : PyData) : f_read_fixed [x0, x1, x2] = (b_read_fixed [some (.d x0), some (.d x1), some (.d x2), none, none]).val := by rw [f_read_fixed, runB_eq]; rfl
abbrev s_body_long : Stmt := top 26
abbrev nn_body_long : List Str := ["number", "most", "size"]
theorem sc_body_long : FnScope nn_body_long ["number", "most", "size"] (defScope s_body_long) := ⟨rfl, rfl, rfl, by decide +kernel, rfl, by decide +kernel, by decide +kernel⟩
def b_body_long : En → Out := (sSeq (sIf (bOf (eBin opEq (eVar 0) (eCall (aCons (eVar 1) (aCons (eVar 2) aNil)) f_how_many))) (sRet (eCall (aCons (eVar 1) (aCons (eVar 2) aNil)) fun ds => ofO (fMin ds))) sNil)
  (sRet (eCall (aCons (eVar 1) (aCons (eBin opSub (eVar 2) (eBin opMul (eVar 0) (eVar 1))) aNil)) fun ds => ofO (fMin ds))))
theorem b_body_long_ap (ρ : En) : b_body_long ρ = (sSeq (sIf (bOf (eBin opEq (eVar 0) (eCall (aCons (eVar 1) (aCons (eVar 2) aNil)) f_how_many))) (sRet (eCall (aCons (eVar 1) (aCons (eVar 2) aNil)) fun ds => ofO (fMin ds))) sNil)
  (sRet (eCall (aCons (eVar 1) (aCons (eBin opSub (eVar 2) (eBin opMul (eVar 0) (eVar 1))) aNil)) fun ds => ofO (fMin ds)))) ρ := Eq.trans rfl rfl

def f_body_long : List PyData → Rs PyData := runB 3 3 b_body_long
theorem f_body_long_at (x0 x1 x2 : PyData) : f_body_long [x0, x1, x2] = (b_body_long [some (.d x0), some (.d x1), some (.d x2)]).val := by rw [f_body_long, runB_eq]; rfl
abbrev s_read_volume : Stmt := top 27
abbrev nn_read_volume : List Str := ["volume", "number", "at", "most", "size", "told", "last", "behind"]
theorem sc_read_volume : FnScope nn_read_volume ["volume"] (defScope s_read_volume) := ⟨rfl, rfl, rfl, by decide +kernel, rfl, by decide +kernel, by decide +kernel⟩
def b_read_volume : En → Out := (sSeq (sTryR (sSeq (sAsg (eCall (aCons (eVar 0) (aCons (eC (.int 2)) aNil)) f_read_number) (gTp 2 (gsCons (gNm 1) (gsCons (gNm 2) gsNil))))
  (sSeq (sAsg (eCall (aCons (eVar 0) (aCons (eVar 2) aNil)) f_read_number) (gTp 2 (gsCons (gNm 3) (gsCons (gNm 2) gsNil))))
  (sSeq (sAsg (eCall (aCons (eVar 0) (aCons (eVar 2) aNil)) f_read_number) (gTp 2 (gsCons (gNm 4) (gsCons (gNm 2) gsNil))))
  (sSeq (sAsg (eCall (aCons (eVar 0) (aCons (eVar 2) (aCons (eC (.int 2)) aNil))) f_read_fixed) (gTp 2 (gsCons (gNm 5) (gsCons (gNm 2) gsNil))))
  (sAsg (eCall (aCons (eVar 0) (aCons (eCall (aCons (eVar 2) (aCons (eBin opSub (eCall (aCons (eVar 0) aNil) fun ds => ofO (fLen ds)) (eC (.int 2))) aNil)) fun ds => ofO (fMaxA ds)) (aCons (eC (.int 2)) aNil))) f_read_fixed) (gTp 2 (gsCons (gNm 6) (gsCons (gNm 7) gsNil)))))))) (orR (relT rel_Cut) (orR (relT rel_BadForm) noR)) "BadVolume")
  (sSeq (sIf (bOr (bOf (eBin opNe (eSl opSl (eVar 0) pNone (pSome (eC (.int 2)))) (eC (.tuple [.int 70, .int 86])))) (bOr (bOf (eBin opNe (eVar 6) (eCall (aCons (eSl opSl (eVar 0) pNone (pSome (eUn opNeg (eC (.int 2))))) aNil) f_check_of))) (bNot (bOf (eChain opLe opLe (eC (.int 1)) (eVar 3) (eC (.int 1000))))))) (sRaise "BadVolume") sNil)
  (sSeq (sIf (bOr (bNot (bOf (eChain opLe opLe (eC (.int 1)) (eVar 4) (eC (.int 20000))))) (bOf (eBin opGt (eVar 1) (eCall (aCons (eVar 3) (aCons (eVar 4) aNil)) f_how_many)))) (sRaise "BadVolume") sNil)
  (sSeq (sIf (bOf (eBin opNe (eCall (aCons (eVar 1) (aCons (eVar 3) (aCons (eVar 4) aNil))) f_body_long) (eBin opSub (eBin opSub (eCall (aCons (eVar 0) aNil) fun ds => ofO (fLen ds)) (eC (.int 2))) (eVar 2)))) (sRaise "BadVolume") sNil)
  (sRet (eTup (aCons (eVar 1) (aCons (eTup (aCons (eVar 3) (aCons (eVar 4) (aCons (eVar 5) aNil)))) (aCons (eSl opSl (eVar 0) (pSome (eVar 2)) (pSome (eUn opNeg (eC (.int 2))))) aNil)))))))))
theorem b_read_volume_ap (ρ : En) : b_read_volume ρ = (sSeq (sTryR (sSeq (sAsg (eCall (aCons (eVar 0) (aCons (eC (.int 2)) aNil)) f_read_number) (gTp 2 (gsCons (gNm 1) (gsCons (gNm 2) gsNil))))
  (sSeq (sAsg (eCall (aCons (eVar 0) (aCons (eVar 2) aNil)) f_read_number) (gTp 2 (gsCons (gNm 3) (gsCons (gNm 2) gsNil))))
  (sSeq (sAsg (eCall (aCons (eVar 0) (aCons (eVar 2) aNil)) f_read_number) (gTp 2 (gsCons (gNm 4) (gsCons (gNm 2) gsNil))))
  (sSeq (sAsg (eCall (aCons (eVar 0) (aCons (eVar 2) (aCons (eC (.int 2)) aNil))) f_read_fixed) (gTp 2 (gsCons (gNm 5) (gsCons (gNm 2) gsNil))))
  (sAsg (eCall (aCons (eVar 0) (aCons (eCall (aCons (eVar 2) (aCons (eBin opSub (eCall (aCons (eVar 0) aNil) fun ds => ofO (fLen ds)) (eC (.int 2))) aNil)) fun ds => ofO (fMaxA ds)) (aCons (eC (.int 2)) aNil))) f_read_fixed) (gTp 2 (gsCons (gNm 6) (gsCons (gNm 7) gsNil)))))))) (orR (relT rel_Cut) (orR (relT rel_BadForm) noR)) "BadVolume")
  (sSeq (sIf (bOr (bOf (eBin opNe (eSl opSl (eVar 0) pNone (pSome (eC (.int 2)))) (eC (.tuple [.int 70, .int 86])))) (bOr (bOf (eBin opNe (eVar 6) (eCall (aCons (eSl opSl (eVar 0) pNone (pSome (eUn opNeg (eC (.int 2))))) aNil) f_check_of))) (bNot (bOf (eChain opLe opLe (eC (.int 1)) (eVar 3) (eC (.int 1000))))))) (sRaise "BadVolume") sNil)
  (sSeq (sIf (bOr (bNot (bOf (eChain opLe opLe (eC (.int 1)) (eVar 4) (eC (.int 20000))))) (bOf (eBin opGt (eVar 1) (eCall (aCons (eVar 3) (aCons (eVar 4) aNil)) f_how_many)))) (sRaise "BadVolume") sNil)
  (sSeq (sIf (bOf (eBin opNe (eCall (aCons (eVar 1) (aCons (eVar 3) (aCons (eVar 4) aNil))) f_body_long) (eBin opSub (eBin opSub (eCall (aCons (eVar 0) aNil) fun ds => ofO (fLen ds)) (eC (.int 2))) (eVar 2)))) (sRaise "BadVolume") sNil)
  (sRet (eTup (aCons (eVar 1) (aCons (eTup (aCons (eVar 3) (aCons (eVar 4) (aCons (eVar 5) aNil)))) (aCons (eSl opSl (eVar 0) (pSome (eVar 2)) (pSome (eUn opNeg (eC (.int 2))))) aNil))))))))) ρ := Eq.trans rfl rfl

def f_read_volume : List PyData → Rs PyData := runB 1 8 b_read_volume
theorem f_read_volume_at (x0 : PyData) : f_read_volume [x0] = (b_read_volume [some (.d x0), none, none, none, none, none, none, none]).val := by rw [f_read_volume, runB_eq]; rfl
abbrev s_joined : Stmt := top 28
abbrev nn_joined : List Str := ["volumes", "parts", "body_for", "many", "lost", "k", "found", "number", "what", "body", "most", "size", "told", "volume"]
theorem sc_joined : FnScope nn_joined ["volumes"] (defScope s_joined) := ⟨rfl, rfl, rfl, by decide +kernel, rfl, by decide +kernel, by decide +kernel⟩
def t_joined_1 : En → Rs Bool := bYes
theorem t_joined_1_ap (ρ : En) : t_joined_1 ρ = bYes ρ := Eq.trans rfl rfl
def e_joined_1 : En → Rs PyData := (eCall (aCons (eVar 13) aNil) f_read_volume)
theorem e_joined_1_ap (ρ : En) : e_joined_1 ρ = (eCall (aCons (eVar 13) aNil) f_read_volume) ρ := Eq.trans rfl rfl

def g_joined_2 : PyData → En → Option En := (gTp 3 (gsCons (gNm 7) (gsCons (gNm 8) (gsCons (gNm 9) gsNil))))
theorem g_joined_2_ap (x : PyData) (ρ : En) : g_joined_2 x ρ = (gTp 3 (gsCons (gNm 7) (gsCons (gNm 8) (gsCons (gNm 9) gsNil)))) x ρ := Eq.trans rfl rfl
def w_joined_2 : En → Out := (sWp [7, 8, 9] [] [0, 1, 2, 3, 4, 5, 6, 7, 8, 9, 10, 11, 12]
  (sIfx (xOr (xT (bOf (eBin opNe (eVar 8) (eBin opIx (eBin opIx (eVar 1) (eC (.int 0))) (eC (.int 1)))))) (xOf (xBin opNe (xSetd 2 (eVar 7) (eVar 9)) (eVar 9)))) (sRaise "NotTogether") sNil))
theorem w_joined_2_ap (ρ : En) : w_joined_2 ρ = (sWp [7, 8, 9] [] [0, 1, 2, 3, 4, 5, 6, 7, 8, 9, 10, 11, 12]
  (sIfx (xOr (xT (bOf (eBin opNe (eVar 8) (eBin opIx (eBin opIx (eVar 1) (eC (.int 0))) (eC (.int 1)))))) (xOf (xBin opNe (xSetd 2 (eVar 7) (eVar 9)) (eVar 9)))) (sRaise "NotTogether") sNil)) ρ := Eq.trans rfl rfl

def t_joined_3 : En → Rs Bool := (bOf (eDNin 2 (eVar 5)))
theorem t_joined_3_ap (ρ : En) : t_joined_3 ρ = (bOf (eDNin 2 (eVar 5))) ρ := Eq.trans rfl rfl
def e_joined_3 : En → Rs PyData := (eVar 5)
theorem e_joined_3_ap (ρ : En) : e_joined_3 ρ = (eVar 5) ρ := Eq.trans rfl rfl

def t_joined_4 : En → Rs Bool := bYes
theorem t_joined_4_ap (ρ : En) : t_joined_4 ρ = bYes ρ := Eq.trans rfl rfl
def e_joined_4 : En → Rs PyData := (eVar 9)
theorem e_joined_4_ap (ρ : En) : e_joined_4 ρ = (eVar 9) ρ := Eq.trans rfl rfl

def g_joined_5 : PyData → En → Option En := (gNm 5)
theorem g_joined_5_ap (x : PyData) (ρ : En) : g_joined_5 x ρ = (gNm 5) x ρ := Eq.trans rfl rfl
def w_joined_5 : En → Out := (sWp [5] [] [0, 1, 2, 3, 4, 5, 6, 7, 8, 9, 10, 11, 12]
  (sDPut' 2 (eVar 5) (eSl opSl (eCall (aCons (eLk 2 (eLc [7, 9] (iDItems 2) (gTp 2 (gsCons (gNm 7) (gsCons (gNm 9) gsNil))) t_joined_4 e_joined_4)) (aCons (eCall (aCons (eVar 10) (aCons (eVar 11) aNil)) fun ds => ofO (fMin ds)) aNil)) f_mixed) pNone (pSome (eCall (aCons (eVar 5) (aCons (eVar 10) (aCons (eVar 11) aNil))) f_body_long)))))
theorem w_joined_5_ap (ρ : En) : w_joined_5 ρ = (sWp [5] [] [0, 1, 2, 3, 4, 5, 6, 7, 8, 9, 10, 11, 12]
  (sDPut' 2 (eVar 5) (eSl opSl (eCall (aCons (eLk 2 (eLc [7, 9] (iDItems 2) (gTp 2 (gsCons (gNm 7) (gsCons (gNm 9) gsNil))) t_joined_4 e_joined_4)) (aCons (eCall (aCons (eVar 10) (aCons (eVar 11) aNil)) fun ds => ofO (fMin ds)) aNil)) f_mixed) pNone (pSome (eCall (aCons (eVar 5) (aCons (eVar 10) (aCons (eVar 11) aNil))) f_body_long))))) ρ := Eq.trans rfl rfl

def g_joined_6 : PyData → En → Option En := (gNm 5)
theorem g_joined_6_ap (x : PyData) (ρ : En) : g_joined_6 x ρ = (gNm 5) x ρ := Eq.trans rfl rfl
def w_joined_6 : En → Out := (sWp [5] [] [0, 1, 2, 3, 4, 5, 6, 7, 8, 9, 10, 11, 12]
  (sSet 6 (eBin opAdd (eVar 6) (eDGet 2 (eVar 5)))))
theorem w_joined_6_ap (ρ : En) : w_joined_6 ρ = (sWp [5] [] [0, 1, 2, 3, 4, 5, 6, 7, 8, 9, 10, 11, 12]
  (sSet 6 (eBin opAdd (eVar 6) (eDGet 2 (eVar 5))))) ρ := Eq.trans rfl rfl

def b_joined : En → Out := (sSeq (sSet 1 (eLc [13] (iSq (eVar 0)) (gNm 13) t_joined_1 e_joined_1))
  (sSeq (sDNew 2)
  (sSeq (sForW [0, 3, 4, 5, 6, 7, 8, 9, 10, 11, 12] (iSq (eVar 1)) g_joined_2
  w_joined_2)
  (sSeq (sIf (bNot (bTruth (eVar 1))) (sRaise "NotTogether") sNil)
  (sSeq (sAsg (eBin opIx (eBin opIx (eVar 1) (eC (.int 0))) (eC (.int 1))) (gTp 3 (gsCons (gNm 10) (gsCons (gNm 11) (gsCons (gNm 12) gsNil)))))
  (sSeq (sSet 3 (eCall (aCons (eVar 10) (aCons (eVar 11) aNil)) f_how_many))
  (sSeq (sSet 4 (eLc [5] (iRg rng1 (aCons (eVar 3) aNil)) (gNm 5) t_joined_3 e_joined_3))
  (sSeq (sIf (bOr (bOf (eBin opGt (eCall (aCons (eVar 4) aNil) fun ds => ofO (fLen ds)) (eC (.int 1)))) (bAnd (bTruth (eVar 4)) (bOf (eDNin 2 (eVar 3))))) (sRaiseV "Missing" "numbers" (eCall (aCons (eVar 4) aNil) fun ds => ofO (fTuple ds))) sNil)
  (sSeq (sForW [0, 1, 4, 5, 6, 7, 8, 9] (iSq (eVar 4)) g_joined_5
  w_joined_5)
  (sSeq (sSet 6 (eTup aNil))
  (sSeq (sForW [0, 1, 3, 4, 5, 7, 8, 9, 10, 11] (iRg rng1 (aCons (eVar 3) aNil)) g_joined_6
  w_joined_6)
  (sSeq (sIf (bOf (eBin opNe (eCall (aCons (eVar 6) aNil) f_check_of) (eVar 12))) (sRaise "NotTogether") sNil)
  (sRet (eVar 6))))))))))))))
theorem b_joined_ap (ρ : En) : b_joined ρ = (sSeq (sSet 1 (eLc [13] (iSq (eVar 0)) (gNm 13) t_joined_1 e_joined_1))
  (sSeq (sDNew 2)
  (sSeq (sForW [0, 3, 4, 5, 6, 7, 8, 9, 10, 11, 12] (iSq (eVar 1)) g_joined_2
  w_joined_2)
  (sSeq (sIf (bNot (bTruth (eVar 1))) (sRaise "NotTogether") sNil)
  (sSeq (sAsg (eBin opIx (eBin opIx (eVar 1) (eC (.int 0))) (eC (.int 1))) (gTp 3 (gsCons (gNm 10) (gsCons (gNm 11) (gsCons (gNm 12) gsNil)))))
  (sSeq (sSet 3 (eCall (aCons (eVar 10) (aCons (eVar 11) aNil)) f_how_many))
  (sSeq (sSet 4 (eLc [5] (iRg rng1 (aCons (eVar 3) aNil)) (gNm 5) t_joined_3 e_joined_3))
  (sSeq (sIf (bOr (bOf (eBin opGt (eCall (aCons (eVar 4) aNil) fun ds => ofO (fLen ds)) (eC (.int 1)))) (bAnd (bTruth (eVar 4)) (bOf (eDNin 2 (eVar 3))))) (sRaiseV "Missing" "numbers" (eCall (aCons (eVar 4) aNil) fun ds => ofO (fTuple ds))) sNil)
  (sSeq (sForW [0, 1, 4, 5, 6, 7, 8, 9] (iSq (eVar 4)) g_joined_5
  w_joined_5)
  (sSeq (sSet 6 (eTup aNil))
  (sSeq (sForW [0, 1, 3, 4, 5, 7, 8, 9, 10, 11] (iRg rng1 (aCons (eVar 3) aNil)) g_joined_6
  w_joined_6)
  (sSeq (sIf (bOf (eBin opNe (eCall (aCons (eVar 6) aNil) f_check_of) (eVar 12))) (sRaise "NotTogether") sNil)
  (sRet (eVar 6)))))))))))))) ρ := Eq.trans rfl rfl

def f_joined : List PyData → Rs PyData := runB 1 14 b_joined
theorem f_joined_at (x0 : PyData) : f_joined [x0] = (b_joined [some (.d x0), none, none, none, none, none, none, none, none, none, none, none, none, none]).val := by rw [f_joined, runB_eq]; rfl
abbrev s_l_told : Stmt := top 34
abbrev nn_l_told : List Str := ["_law_volumes", "_law_found", "e"]
theorem sc_l_told : FnScope nn_l_told ["_law_volumes"] (defScope s_l_told) := ⟨rfl, rfl, rfl, by decide +kernel, rfl, by decide +kernel, by decide +kernel⟩
def b_l_told : En → Out := (sSeq (sSet 1 (eC .none))
  (sSeq (sTryX (sSet 1 (eTup (aCons (eCall (aCons (eVar 0) aNil) f_joined) aNil))) ((relT rel_Missing, asG 1 2 "numbers" (fun y => .tuple [.str "lost", y])) :: ((relT rel_NotTogether, fun _ => (sSet 1 (eC (.str "NotTogether")))) :: [])))
  (sRet (eVar 1))))
theorem b_l_told_ap (ρ : En) : b_l_told ρ = (sSeq (sSet 1 (eC .none))
  (sSeq (sTryX (sSet 1 (eTup (aCons (eCall (aCons (eVar 0) aNil) f_joined) aNil))) ((relT rel_Missing, asG 1 2 "numbers" (fun y => .tuple [.str "lost", y])) :: ((relT rel_NotTogether, fun _ => (sSet 1 (eC (.str "NotTogether")))) :: [])))
  (sRet (eVar 1)))) ρ := Eq.trans rfl rfl

def f_l_told : List PyData → Rs PyData := runB 1 3 b_l_told
theorem f_l_told_at (x0 : PyData) : f_l_told [x0] = (b_l_told [some (.d x0), none, none]).val := by rw [f_l_told, runB_eq]; rfl
abbrev s_l_mixed_up : Stmt := top 35
abbrev nn_l_mixed_up : List Str := ["_law_volumes", "_law_cells", "_law_found", "_law_k", "_law_volume", "_law_at"]
theorem sc_l_mixed_up : FnScope nn_l_mixed_up ["_law_volumes", "_law_cells"] (defScope s_l_mixed_up) := ⟨rfl, rfl, rfl, by decide +kernel, rfl, by decide +kernel, by decide +kernel⟩
def g_l_mixed_up_1 : PyData → En → Option En := (gTp 2 (gsCons (gNm 3) (gsCons (gNm 4) gsNil)))
theorem g_l_mixed_up_1_ap (x : PyData) (ρ : En) : g_l_mixed_up_1 x ρ = (gTp 2 (gsCons (gNm 3) (gsCons (gNm 4) gsNil))) x ρ := Eq.trans rfl rfl
def w_l_mixed_up_1 : En → Out := (sWp [3, 4, 5] [] [0, 1, 2, 3, 4, 5]
  (sSeq (sSet 5 (eC (.int 0)))
  (sSeq (sIf (bTruth (eVar 1)) (sSet 5 (eBin opMod (eBin opDiv (eBin opIx (eVar 1) (eBin opMod (eVar 3) (eCall (aCons (eVar 1) aNil) fun ds => ofO (fLen ds)))) (eBin opAdd (eVar 3) (eC (.int 1)))) (eBin opAdd (eCall (aCons (eVar 2) aNil) fun ds => ofO (fLen ds)) (eC (.int 1))))) sNil)
  (sSeq (sSet 2 (eBin opAdd (eBin opAdd (eSl opSl (eVar 2) pNone (pSome (eVar 5))) (eTup (aCons (eVar 4) aNil))) (eSl opSl (eVar 2) (pSome (eVar 5)) pNone)))
  (sIf (bAnd (bOf (eBin opEq (eBin opMod (eVar 3) (eC (.int 3))) (eC (.int 1)))) (bOf (eBin opEq (eBin opMod (eVar 5) (eC (.int 2))) (eC (.int 0))))) (sSet 2 (eBin opAdd (eVar 2) (eTup (aCons (eVar 4) aNil)))) sNil)))))
theorem w_l_mixed_up_1_ap (ρ : En) : w_l_mixed_up_1 ρ = (sWp [3, 4, 5] [] [0, 1, 2, 3, 4, 5]
  (sSeq (sSet 5 (eC (.int 0)))
  (sSeq (sIf (bTruth (eVar 1)) (sSet 5 (eBin opMod (eBin opDiv (eBin opIx (eVar 1) (eBin opMod (eVar 3) (eCall (aCons (eVar 1) aNil) fun ds => ofO (fLen ds)))) (eBin opAdd (eVar 3) (eC (.int 1)))) (eBin opAdd (eCall (aCons (eVar 2) aNil) fun ds => ofO (fLen ds)) (eC (.int 1))))) sNil)
  (sSeq (sSet 2 (eBin opAdd (eBin opAdd (eSl opSl (eVar 2) pNone (pSome (eVar 5))) (eTup (aCons (eVar 4) aNil))) (eSl opSl (eVar 2) (pSome (eVar 5)) pNone)))
  (sIf (bAnd (bOf (eBin opEq (eBin opMod (eVar 3) (eC (.int 3))) (eC (.int 1)))) (bOf (eBin opEq (eBin opMod (eVar 5) (eC (.int 2))) (eC (.int 0))))) (sSet 2 (eBin opAdd (eVar 2) (eTup (aCons (eVar 4) aNil)))) sNil))))) ρ := Eq.trans rfl rfl

def b_l_mixed_up : En → Out := (sSeq (sSet 2 (eTup aNil))
  (sSeq (sForW [0, 3, 4, 5] (iRg enumsA (aCons (eVar 0) aNil)) g_l_mixed_up_1
  w_l_mixed_up_1)
  (sRet (eVar 2))))
theorem b_l_mixed_up_ap (ρ : En) : b_l_mixed_up ρ = (sSeq (sSet 2 (eTup aNil))
  (sSeq (sForW [0, 3, 4, 5] (iRg enumsA (aCons (eVar 0) aNil)) g_l_mixed_up_1
  w_l_mixed_up_1)
  (sRet (eVar 2)))) ρ := Eq.trans rfl rfl

def f_l_mixed_up : List PyData → Rs PyData := runB 2 6 b_l_mixed_up
theorem f_l_mixed_up_at (x0 x1 : PyData) : f_l_mixed_up [x0, x1] = (b_l_mixed_up [some (.d x0), some (.d x1), none, none, none, none]).val := by rw [f_l_mixed_up, runB_eq]; rfl
abbrev s_law : Stmt := top 36
abbrev nn_law : List Str := ["_law_script", "_law_some", "_law_most", "_law_volumes", "_law_many", "_law_ways", "_law_way", "_law_left", "_law_lost", "_law_due", "_law_k", "_law_cell_here", "_law_volume"]
theorem sc_law : FnScope nn_law ["_law_script"] (defScope s_law) := ⟨rfl, rfl, rfl, by decide +kernel, rfl, by decide +kernel, by decide +kernel⟩
def t_law_1 : En → Rs Bool := bYes
theorem t_law_1_ap (ρ : En) : t_law_1 ρ = bYes ρ := Eq.trans rfl rfl
def e_law_1 : En → Rs PyData := (eTup (aCons (eVar 10) aNil))
theorem e_law_1_ap (ρ : En) : e_law_1 ρ = (eTup (aCons (eVar 10) aNil)) ρ := Eq.trans rfl rfl

def t_law_2 : En → Rs Bool := bYes
theorem t_law_2_ap (ρ : En) : t_law_2 ρ = bYes ρ := Eq.trans rfl rfl
def e_law_2 : En → Rs PyData := (eTup (aCons (eVar 10) (aCons (eCall (aCons (eVar 11) (aCons (eC (.int 1)) (aCons (eCall (aCons (eVar 3) aNil) fun ds => ofO (fLen ds)) aNil))) f_l_d) aNil)))
theorem e_law_2_ap (ρ : En) : e_law_2 ρ = (eTup (aCons (eVar 10) (aCons (eCall (aCons (eVar 11) (aCons (eC (.int 1)) (aCons (eCall (aCons (eVar 3) aNil) fun ds => ofO (fLen ds)) aNil))) f_l_d) aNil))) ρ := Eq.trans rfl rfl

def t_law_3 : En → Rs Bool := bYes
theorem t_law_3_ap (ρ : En) : t_law_3 ρ = bYes ρ := Eq.trans rfl rfl
def e_law_3 : En → Rs PyData := (eSl opSl (eTupRg (eCall (aCons (eVar 3) aNil) fun ds => ofO (fLen ds))) (pSome (eCall (aCons (eVar 11) (aCons (eC (.int 1)) (aCons (eCall (aCons (eVar 3) aNil) fun ds => ofO (fLen ds)) aNil))) f_l_d)) pNone)
theorem e_law_3_ap (ρ : En) : e_law_3 ρ = (eSl opSl (eTupRg (eCall (aCons (eVar 3) aNil) fun ds => ofO (fLen ds))) (pSome (eCall (aCons (eVar 11) (aCons (eC (.int 1)) (aCons (eCall (aCons (eVar 3) aNil) fun ds => ofO (fLen ds)) aNil))) f_l_d)) pNone) ρ := Eq.trans rfl rfl

def t_law_4 : En → Rs Bool := (bOf (eBin opNotIn (eVar 10) (eVar 6)))
theorem t_law_4_ap (ρ : En) : t_law_4 ρ = (bOf (eBin opNotIn (eVar 10) (eVar 6))) ρ := Eq.trans rfl rfl
def e_law_4 : En → Rs PyData := (eVar 12)
theorem e_law_4_ap (ρ : En) : e_law_4 ρ = (eVar 12) ρ := Eq.trans rfl rfl

def t_law_5 : En → Rs Bool := (bOf (eBin opIn (eVar 10) (eVar 6)))
theorem t_law_5_ap (ρ : En) : t_law_5 ρ = (bOf (eBin opIn (eVar 10) (eVar 6))) ρ := Eq.trans rfl rfl
def e_law_5 : En → Rs PyData := (eVar 10)
theorem e_law_5_ap (ρ : En) : e_law_5 ρ = (eVar 10) ρ := Eq.trans rfl rfl

def g_law_6 : PyData → En → Option En := (gNm 6)
theorem g_law_6_ap (x : PyData) (ρ : En) : g_law_6 x ρ = (gNm 6) x ρ := Eq.trans rfl rfl
def w_law_6 : En → Out := (sWp [6, 7, 8, 9] [] [0, 1, 2, 3, 4, 5, 6, 7, 8, 9]
  (sSeq (sSet 7 (eLc [10, 12] (iRg enumsA (aCons (eVar 3) aNil)) (gTp 2 (gsCons (gNm 10) (gsCons (gNm 12) gsNil))) t_law_4 e_law_4))
  (sSeq (sSet 8 (eLc [10] (iRg rng1 (aCons (eVar 4) aNil)) (gNm 10) t_law_5 e_law_5))
  (sSeq (sSet 9 (eTup (aCons (eVar 1) aNil)))
  (sSeq (sIf (bOr (bOf (eBin opGt (eCall (aCons (eVar 8) aNil) fun ds => ofO (fLen ds)) (eC (.int 1)))) (bAnd (bTruth (eVar 8)) (bOf (eBin opIn (eVar 4) (eVar 6))))) (sSet 9 (eTup (aCons (eC (.str "lost")) (aCons (eCall (aCons (eVar 8) aNil) fun ds => ofO (fTuple ds)) aNil)))) sNil)
  (sIf (bAnd (bTruth (eVar 7)) (bNot (bTruth (eCall (aCons (eCall (aCons (eCall (aCons (eVar 7) (aCons (eSl opSl (eVar 0) (pSome (eC (.int 1))) (pSome (eC (.int 9)))) aNil)) f_l_mixed_up) aNil) f_l_told) (aCons (eVar 9) aNil)) (f_l_same 12))))) (sRet (eC (.bool false))) sNil))))))
theorem w_law_6_ap (ρ : En) : w_law_6 ρ = (sWp [6, 7, 8, 9] [] [0, 1, 2, 3, 4, 5, 6, 7, 8, 9]
  (sSeq (sSet 7 (eLc [10, 12] (iRg enumsA (aCons (eVar 3) aNil)) (gTp 2 (gsCons (gNm 10) (gsCons (gNm 12) gsNil))) t_law_4 e_law_4))
  (sSeq (sSet 8 (eLc [10] (iRg rng1 (aCons (eVar 4) aNil)) (gNm 10) t_law_5 e_law_5))
  (sSeq (sSet 9 (eTup (aCons (eVar 1) aNil)))
  (sSeq (sIf (bOr (bOf (eBin opGt (eCall (aCons (eVar 8) aNil) fun ds => ofO (fLen ds)) (eC (.int 1)))) (bAnd (bTruth (eVar 8)) (bOf (eBin opIn (eVar 4) (eVar 6))))) (sSet 9 (eTup (aCons (eC (.str "lost")) (aCons (eCall (aCons (eVar 8) aNil) fun ds => ofO (fTuple ds)) aNil)))) sNil)
  (sIf (bAnd (bTruth (eVar 7)) (bNot (bTruth (eCall (aCons (eCall (aCons (eCall (aCons (eVar 7) (aCons (eSl opSl (eVar 0) (pSome (eC (.int 1))) (pSome (eC (.int 9)))) aNil)) f_l_mixed_up) aNil) f_l_told) (aCons (eVar 9) aNil)) (f_l_same 12))))) (sRet (eC (.bool false))) sNil)))))) ρ := Eq.trans rfl rfl

def b_law : En → Out := (sSeq (sSet 1 (eBin opAdd (eCall (aCons (eVar 0) (aCons (eC (.int 1)) (aCons (eC (.int 40)) aNil))) f_l_few) (eTup (aCons (eBin opMod (eBin opDiv (eCall (aCons (eVar 0) (aCons (eC (.int 0)) aNil)) f_l_cell) (eC (.int 3))) (eC (.int 256))) aNil))))
  (sSeq (sSet 2 (eCall (aCons (eBin opDiv (eCall (aCons (eVar 1) aNil) fun ds => ofO (fLen ds)) (eBin opAdd (eBin opMod (eCall (aCons (eVar 0) (aCons (eC (.int 2)) aNil)) f_l_cell) (eC (.int 9))) (eC (.int 1)))) (aCons (eC (.int 1)) aNil)) fun ds => ofO (fMaxA ds)))
  (sSeq (sSet 3 (eCall (aCons (eVar 1) (aCons (eVar 2) aNil)) f_shared))
  (sSeq (sSet 4 (eBin opSub (eCall (aCons (eVar 3) aNil) fun ds => ofO (fLen ds)) (eC (.int 1))))
  (sSeq (sSet 5 (eBin opAdd (eLst (aCons (eTup aNil) aNil)) (eLc [10] (iRg rng1 (aCons (eCall (aCons (eVar 3) aNil) fun ds => ofO (fLen ds)) aNil)) (gNm 10) t_law_1 e_law_1)))
  (sSeq (sSet 5 (eBin opAdd (eVar 5) (eLc [10, 11] (iRg enumsA (aCons (eSl opSl (eVar 0) (pSome (eC (.int 3))) (pSome (eBin opAdd (eC (.int 3)) (eCall (aCons (eVar 3) aNil) fun ds => ofO (fLen ds))))) aNil)) (gTp 2 (gsCons (gNm 10) (gsCons (gNm 11) gsNil))) t_law_2 e_law_2)))
  (sSeq (sSet 5 (eBin opAdd (eVar 5) (eLc [11] (iSq (eSl opSl (eVar 0) (pSome (eC (.int 3))) (pSome (eC (.int 6))))) (gNm 11) t_law_3 e_law_3)))
  (sSeq (sForW [2, 5, 6, 7, 8, 9] (iSq (eVar 5)) g_law_6
  w_law_6)
  (sRet (eC (.bool true)))))))))))
theorem b_law_ap (ρ : En) : b_law ρ = (sSeq (sSet 1 (eBin opAdd (eCall (aCons (eVar 0) (aCons (eC (.int 1)) (aCons (eC (.int 40)) aNil))) f_l_few) (eTup (aCons (eBin opMod (eBin opDiv (eCall (aCons (eVar 0) (aCons (eC (.int 0)) aNil)) f_l_cell) (eC (.int 3))) (eC (.int 256))) aNil))))
  (sSeq (sSet 2 (eCall (aCons (eBin opDiv (eCall (aCons (eVar 1) aNil) fun ds => ofO (fLen ds)) (eBin opAdd (eBin opMod (eCall (aCons (eVar 0) (aCons (eC (.int 2)) aNil)) f_l_cell) (eC (.int 9))) (eC (.int 1)))) (aCons (eC (.int 1)) aNil)) fun ds => ofO (fMaxA ds)))
  (sSeq (sSet 3 (eCall (aCons (eVar 1) (aCons (eVar 2) aNil)) f_shared))
  (sSeq (sSet 4 (eBin opSub (eCall (aCons (eVar 3) aNil) fun ds => ofO (fLen ds)) (eC (.int 1))))
  (sSeq (sSet 5 (eBin opAdd (eLst (aCons (eTup aNil) aNil)) (eLc [10] (iRg rng1 (aCons (eCall (aCons (eVar 3) aNil) fun ds => ofO (fLen ds)) aNil)) (gNm 10) t_law_1 e_law_1)))
  (sSeq (sSet 5 (eBin opAdd (eVar 5) (eLc [10, 11] (iRg enumsA (aCons (eSl opSl (eVar 0) (pSome (eC (.int 3))) (pSome (eBin opAdd (eC (.int 3)) (eCall (aCons (eVar 3) aNil) fun ds => ofO (fLen ds))))) aNil)) (gTp 2 (gsCons (gNm 10) (gsCons (gNm 11) gsNil))) t_law_2 e_law_2)))
  (sSeq (sSet 5 (eBin opAdd (eVar 5) (eLc [11] (iSq (eSl opSl (eVar 0) (pSome (eC (.int 3))) (pSome (eC (.int 6))))) (gNm 11) t_law_3 e_law_3)))
  (sSeq (sForW [2, 5, 6, 7, 8, 9] (iSq (eVar 5)) g_law_6
  w_law_6)
  (sRet (eC (.bool true))))))))))) ρ := Eq.trans rfl rfl

def f_law : List PyData → Rs PyData := runB 1 13 b_law
theorem f_law_at (x0 : PyData) : f_law [x0] = (b_law [some (.d x0), none, none, none, none, none, none, none, none, none, none, none, none]).val := by rw [f_law, runB_eq]; rfl
abbrev sI_Missing : Stmt := match top 11 with
  | .ClassDef _ _ _ body _ _ _ _ _ _ _ => body.getD 0 (.Pass ⟨0, 0, 0, 0⟩)
  | x => x
/-- what the top has left -/
structure Txt (K : PySem.W.Frag) (mg : Str → Option Value) (a_mixed : Addr) (d_mixed : FuncData) (a_number_bytes : Addr) (d_number_bytes : FuncData) (a_fixed_bytes : Addr) (d_fixed_bytes : FuncData) (a_check_on : Addr) (d_check_on : FuncData) (a_check_of : Addr) (d_check_of : FuncData) (a_volume_of : Addr) (d_volume_of : FuncData) (a_shared : Addr) (d_shared : FuncData) (a_l_d : Addr) (d_l_d : FuncData) (a_l_few : Addr) (d_l_few : FuncData) (a_l_same : Addr) (d_l_same : FuncData) (a_l_cell : Addr) (d_l_cell : FuncData) (a_how_many : Addr) (d_how_many : FuncData) (a_read_number : Addr) (d_read_number : FuncData) (a_read_fixed : Addr) (d_read_fixed : FuncData) (a_body_long : Addr) (d_body_long : FuncData) (a_read_volume : Addr) (d_read_volume : FuncData) (a_joined : Addr) (d_joined : FuncData) (a_l_told : Addr) (d_l_told : FuncData) (a_l_mixed_up : Addr) (d_l_mixed_up : FuncData) (a_law : Addr) (d_law : FuncData) (C_Missing aI_Missing : Addr) (dI_Missing : FuncData) : Prop where
  v_Missing : VTx K mg "Missing" "numbers" C_Missing aI_Missing dI_Missing "numbers"
  FI_Missing : Fun K "__init__" "Missing.__init__" sI_Missing aI_Missing dI_Missing
  n_all : mg "all" = none
  n_bool : mg "bool" = none
  n_enumerate : mg "enumerate" = none
  n_int : mg "int" = none
  n_isinstance : mg "isinstance" = none
  n_len : mg "len" = none
  n_max : mg "max" = none
  n_min : mg "min" = none
  n_range : mg "range" = none
  n_str : mg "str" = none
  n_tuple : mg "tuple" = none
  n_zip : mg "zip" = none
  c_FIRST : ∃ u, mg "FIRST" = some u ∧ RelV (.int 65535) u
  c_LONGEST : ∃ u, mg "LONGEST" = some u ∧ RelV (.int 6) u
  c_MARK : ∃ a, mg "MARK" = some (.ref a) ∧ ∀ S, Dq K S (.ref a) (.tuple [.int 70, .int 86])
  c_MOST_MOST : ∃ u, mg "MOST_MOST" = some u ∧ RelV (.int 1000) u
  c_SIZE_MOST : ∃ u, mg "SIZE_MOST" = some u ∧ RelV (.int 20000) u
  c_TURNS : ∃ u, mg "TURNS" = some u ∧ RelV (.int 4129) u
  F_mixed : Fun K "mixed" "mixed" s_mixed a_mixed d_mixed
  m_mixed : mg "mixed" = some (.ref a_mixed)
  k_mixed : PySem.W.keepIn K (.ref a_mixed) = true
  b_mixed : Binds K d_mixed ["bodies", "size"] []
  F_number_bytes : Fun K "number_bytes" "number_bytes" s_number_bytes a_number_bytes d_number_bytes
  m_number_bytes : mg "number_bytes" = some (.ref a_number_bytes)
  k_number_bytes : PySem.W.keepIn K (.ref a_number_bytes) = true
  b_number_bytes : Binds K d_number_bytes ["n"] []
  F_fixed_bytes : Fun K "fixed_bytes" "fixed_bytes" s_fixed_bytes a_fixed_bytes d_fixed_bytes
  m_fixed_bytes : mg "fixed_bytes" = some (.ref a_fixed_bytes)
  k_fixed_bytes : PySem.W.keepIn K (.ref a_fixed_bytes) = true
  b_fixed_bytes : Binds K d_fixed_bytes ["n", "many"] []
  F_check_on : Fun K "check_on" "check_on" s_check_on a_check_on d_check_on
  m_check_on : mg "check_on" = some (.ref a_check_on)
  k_check_on : PySem.W.keepIn K (.ref a_check_on) = true
  b_check_on : Binds K d_check_on ["before", "body"] []
  F_check_of : Fun K "check_of" "check_of" s_check_of a_check_of d_check_of
  m_check_of : mg "check_of" = some (.ref a_check_of)
  k_check_of : PySem.W.keepIn K (.ref a_check_of) = true
  b_check_of : Binds K d_check_of ["body"] []
  F_volume_of : Fun K "volume_of" "volume_of" s_volume_of a_volume_of d_volume_of
  m_volume_of : mg "volume_of" = some (.ref a_volume_of)
  k_volume_of : PySem.W.keepIn K (.ref a_volume_of) = true
  b_volume_of : Binds K d_volume_of ["number", "most", "some", "body"] []
  F_shared : Fun K "shared" "shared" s_shared a_shared d_shared
  m_shared : mg "shared" = some (.ref a_shared)
  k_shared : PySem.W.keepIn K (.ref a_shared) = true
  b_shared : Binds K d_shared ["some", "most"] []
  F_l_d : Fun K "_law_d" "_law_d" s_l_d a_l_d d_l_d
  m_l_d : mg "_law_d" = some (.ref a_l_d)
  k_l_d : PySem.W.keepIn K (.ref a_l_d) = true
  b_l_d : Binds K d_l_d ["_law_cell_here", "_law_place", "_law_many"] []
  F_l_few : Fun K "_law_few" "_law_few" s_l_few a_l_few d_l_few
  m_l_few : mg "_law_few" = some (.ref a_l_few)
  k_l_few : PySem.W.keepIn K (.ref a_l_few) = true
  b_l_few : Binds K d_l_few ["_law_script", "_law_begin", "_law_end"] []
  F_l_same : Fun K "_law_same" "_law_same" s_l_same a_l_same d_l_same
  m_l_same : mg "_law_same" = some (.ref a_l_same)
  k_l_same : PySem.W.keepIn K (.ref a_l_same) = true
  b_l_same : Binds K d_l_same ["_law_told_here", "_law_due"] []
  F_l_cell : Fun K "_law_cell" "_law_cell" s_l_cell a_l_cell d_l_cell
  m_l_cell : mg "_law_cell" = some (.ref a_l_cell)
  k_l_cell : PySem.W.keepIn K (.ref a_l_cell) = true
  b_l_cell : Binds K d_l_cell ["_law_script", "_law_k"] []
  F_how_many : Fun K "how_many" "how_many" s_how_many a_how_many d_how_many
  m_how_many : mg "how_many" = some (.ref a_how_many)
  k_how_many : PySem.W.keepIn K (.ref a_how_many) = true
  b_how_many : Binds K d_how_many ["most", "size"] []
  F_read_number : Fun K "read_number" "read_number" s_read_number a_read_number d_read_number
  m_read_number : mg "read_number" = some (.ref a_read_number)
  k_read_number : PySem.W.keepIn K (.ref a_read_number) = true
  b_read_number : Binds K d_read_number ["some", "at"] []
  F_read_fixed : Fun K "read_fixed" "read_fixed" s_read_fixed a_read_fixed d_read_fixed
  m_read_fixed : mg "read_fixed" = some (.ref a_read_fixed)
  k_read_fixed : PySem.W.keepIn K (.ref a_read_fixed) = true
  b_read_fixed : Binds K d_read_fixed ["some", "at", "many"] []
  F_body_long : Fun K "body_long" "body_long" s_body_long a_body_long d_body_long
  m_body_long : mg "body_long" = some (.ref a_body_long)
  k_body_long : PySem.W.keepIn K (.ref a_body_long) = true
  b_body_long : Binds K d_body_long ["number", "most", "size"] []
  F_read_volume : Fun K "read_volume" "read_volume" s_read_volume a_read_volume d_read_volume
  m_read_volume : mg "read_volume" = some (.ref a_read_volume)
  k_read_volume : PySem.W.keepIn K (.ref a_read_volume) = true
  b_read_volume : Binds K d_read_volume ["volume"] []
  F_joined : Fun K "joined" "joined" s_joined a_joined d_joined
  m_joined : mg "joined" = some (.ref a_joined)
  k_joined : PySem.W.keepIn K (.ref a_joined) = true
  b_joined : Binds K d_joined ["volumes"] []
  F_l_told : Fun K "_law_told" "_law_told" s_l_told a_l_told d_l_told
  m_l_told : mg "_law_told" = some (.ref a_l_told)
  k_l_told : PySem.W.keepIn K (.ref a_l_told) = true
  b_l_told : Binds K d_l_told ["_law_volumes"] []
  F_l_mixed_up : Fun K "_law_mixed_up" "_law_mixed_up" s_l_mixed_up a_l_mixed_up d_l_mixed_up
  m_l_mixed_up : mg "_law_mixed_up" = some (.ref a_l_mixed_up)
  k_l_mixed_up : PySem.W.keepIn K (.ref a_l_mixed_up) = true
  b_l_mixed_up : Binds K d_l_mixed_up ["_law_volumes", "_law_cells"] []
  F_law : Fun K "law" "law" s_law a_law d_law
  m_law : mg "law" = some (.ref a_law)
  k_law : PySem.W.keepIn K (.ref a_law) = true
  b_law : Binds K d_law ["_law_script"] []
  x_BadForm : ∃ C, ExT K mg "BadForm" C
  x_BadVolume : ∃ C, ExT K mg "BadVolume" C
  x_Cut : ∃ C, ExT K mg "Cut" C
  x_NotTogether : ∃ C, ExT K mg "NotTogether" C
  r_BadForm : ∀ C, mg "BadForm" = some C → ∀ p ∈ rel_BadForm, ∀ C2, mg p.1 = some C2 → PySem.W.exmOne K C2 C = some p.2
  r_Cut : ∀ C, mg "Cut" = some C → ∀ p ∈ rel_Cut, ∀ C2, mg p.1 = some C2 → PySem.W.exmOne K C2 C = some p.2
  r_Missing : ∀ C, mg "Missing" = some C → ∀ p ∈ rel_Missing, ∀ C2, mg p.1 = some C2 → PySem.W.exmOne K C2 C = some p.2
  r_NotTogether : ∀ C, mg "NotTogether" = some C → ∀ p ∈ rel_NotTogether, ∀ C2, mg p.1 = some C2 → PySem.W.exmOne K C2 C = some p.2
section
variable {P : Program} {w : World} {K : PySem.W.Frag} {mg : Str → Option Value} {base : Heap} {a_mixed : Addr} {d_mixed : FuncData} {a_number_bytes : Addr} {d_number_bytes : FuncData} {a_fixed_bytes : Addr} {d_fixed_bytes : FuncData} {a_check_on : Addr} {d_check_on : FuncData} {a_check_of : Addr} {d_check_of : FuncData} {a_volume_of : Addr} {d_volume_of : FuncData} {a_shared : Addr} {d_shared : FuncData} {a_l_d : Addr} {d_l_d : FuncData} {a_l_few : Addr} {d_l_few : FuncData} {a_l_same : Addr} {d_l_same : FuncData} {a_l_cell : Addr} {d_l_cell : FuncData} {a_how_many : Addr} {d_how_many : FuncData} {a_read_number : Addr} {d_read_number : FuncData} {a_read_fixed : Addr} {d_read_fixed : FuncData} {a_body_long : Addr} {d_body_long : FuncData} {a_read_volume : Addr} {d_read_volume : FuncData} {a_joined : Addr} {d_joined : FuncData} {a_l_told : Addr} {d_l_told : FuncData} {a_l_mixed_up : Addr} {d_l_mixed_up : FuncData} {a_law : Addr} {d_law : FuncData} {C_Missing aI_Missing : Addr} {dI_Missing : FuncData}
theorem okI_Missing (F : Fun K "__init__" "Missing.__init__" sI_Missing aI_Missing dI_Missing) : FnOk P w K mg base (CXh hotS mg P w) 1 aI_Missing dI_Missing ["self", "numbers"] (spInit K C_Missing "numbers") := fnok_init F ⟨rfl, rfl, rfl, by decide +kernel, rfl, by decide +kernel, by decide +kernel⟩ rfl
theorem ok_mixed (T : Txt K mg a_mixed d_mixed a_number_bytes d_number_bytes a_fixed_bytes d_fixed_bytes a_check_on d_check_on a_check_of d_check_of a_volume_of d_volume_of a_shared d_shared a_l_d d_l_d a_l_few d_l_few a_l_same d_l_same a_l_cell d_l_cell a_how_many d_how_many a_read_number d_read_number a_read_fixed d_read_fixed a_body_long d_body_long a_read_volume d_read_volume a_joined d_joined a_l_told d_l_told a_l_mixed_up d_l_mixed_up a_law d_law C_Missing aI_Missing dI_Missing) : FnOk P w K mg base (CXh hotS mg P w) 1 a_mixed d_mixed ["bodies", "size"] (spD K mg f_mixed) := by
  exact dfn T.F_mixed sc_mixed (fun cdv A outer s H E c hr tk hp hw => (have nd := sc_mixed.nd; (dss_cons (ds_own (i := 2) nd rfl (by first | exact Or.inl rfl | exact Or.inr rfl) (dn_rep (de_lst (da_cons de_int da_nil)) (de_var 1)))
  (dss_cons (ds_forW [0, 1, 3, 4, 5] hp rfl (di_seq (de_var 0)) (dg_name nd (i := 3) rfl (by first | exact Or.inl rfl | exact Or.inr rfl)) (dss_wp [3, 4, 5] [] [0, 1, 2, 3, 4, 5] (dss_one (ds_forW [0, 1, 3, 4, 5] hp rfl (di_enumA rfl T.n_enumerate (da_cons (de_var 3) da_nil)) (dg_tup rfl (dgs_cons (dg_name nd (i := 4) rfl (by first | exact Or.inl rfl | exact Or.inr rfl)) (dgs_cons (dg_name nd (i := 5) rfl (by first | exact Or.inl rfl | exact Or.inr rfl)) dgs_nil))) (dss_wp [4, 5] [] [0, 1, 2, 3, 4, 5] (dss_one (ds_put 2 (de_bor 2 (de_op op_xor os_xor (de_ix ix_seq os_ix (de_var 2) (de_var 4)) (de_var 5))) (de_var 4))))))))
  (dss_one (ds_frz 2 (ds_ret (de_callTy call_tuple_of cs_tuple rfl T.n_tuple (by decide +kernel) (da_cons (de_var 2) da_nil)))))))))
theorem ok_number_bytes (T : Txt K mg a_mixed d_mixed a_number_bytes d_number_bytes a_fixed_bytes d_fixed_bytes a_check_on d_check_on a_check_of d_check_of a_volume_of d_volume_of a_shared d_shared a_l_d d_l_d a_l_few d_l_few a_l_same d_l_same a_l_cell d_l_cell a_how_many d_how_many a_read_number d_read_number a_read_fixed d_read_fixed a_body_long d_body_long a_read_volume d_read_volume a_joined d_joined a_l_told d_l_told a_l_mixed_up d_l_mixed_up a_law d_law C_Missing aI_Missing dI_Missing) : FnOk P w K mg base (CXh hotS mg P w) 1 a_number_bytes d_number_bytes ["n"] (spD K mg f_number_bytes) := by
  exact dfn T.F_number_bytes sc_number_bytes (fun cdv A outer s H E c hr tk hp hw => (have nd := sc_number_bytes.nd; (dss_cons (ds_set (i := 1) nd rfl (by first | exact Or.inl rfl | exact Or.inr rfl) (de_tup da_nil))
  (dss_cons (ds_while (fuel := fun _ => bigF) hp (dt_cmp op_gt os_gt (de_var 0) de_int) (dss_cons (ds_set (i := 1) nd rfl (by first | exact Or.inl rfl | exact Or.inr rfl) (de_op or_add os_add (de_var 1) (de_tup (da_cons (de_op or_add os_add (de_op op_mod os_mod (de_var 0) de_int) de_int) da_nil))))
  (dss_one (ds_set (i := 0) nd rfl (by first | exact Or.inl rfl | exact Or.inr rfl) (de_op op_fdiv os_div (de_var 0) de_int)))))
  (dss_one (ds_ret (de_op or_add os_add (de_var 1) (de_tup (da_cons (de_var 0) da_nil)))))))))
theorem ok_fixed_bytes (T : Txt K mg a_mixed d_mixed a_number_bytes d_number_bytes a_fixed_bytes d_fixed_bytes a_check_on d_check_on a_check_of d_check_of a_volume_of d_volume_of a_shared d_shared a_l_d d_l_d a_l_few d_l_few a_l_same d_l_same a_l_cell d_l_cell a_how_many d_how_many a_read_number d_read_number a_read_fixed d_read_fixed a_body_long d_body_long a_read_volume d_read_volume a_joined d_joined a_l_told d_l_told a_l_mixed_up d_l_mixed_up a_law d_law C_Missing aI_Missing dI_Missing) : FnOk P w K mg base (CXh hotS mg P w) 1 a_fixed_bytes d_fixed_bytes ["n", "many"] (spD K mg f_fixed_bytes) := by
  exact dfn T.F_fixed_bytes sc_fixed_bytes (fun cdv A outer s H E c hr tk hp hw => (have nd := sc_fixed_bytes.nd; (dss_cons (ds_set (i := 2) nd rfl (by first | exact Or.inl rfl | exact Or.inr rfl) (de_tup da_nil))
  (dss_cons (ds_while (fuel := fun _ => bigF) hp (dt_cmp or_lt os_lt (de_callB call_len cs_len rfl T.n_len (by decide +kernel) (da_cons (de_var 2) da_nil)) (de_var 1)) (dss_cons (ds_set (i := 2) nd rfl (by first | exact Or.inl rfl | exact Or.inr rfl) (de_op or_add os_add (de_tup (da_cons (de_op op_mod os_mod (de_var 0) de_int) da_nil)) (de_var 2)))
  (dss_one (ds_set (i := 0) nd rfl (by first | exact Or.inl rfl | exact Or.inr rfl) (de_op op_fdiv os_div (de_var 0) de_int)))))
  (dss_one (ds_ret (de_var 2)))))))
theorem ok_check_on (T : Txt K mg a_mixed d_mixed a_number_bytes d_number_bytes a_fixed_bytes d_fixed_bytes a_check_on d_check_on a_check_of d_check_of a_volume_of d_volume_of a_shared d_shared a_l_d d_l_d a_l_few d_l_few a_l_same d_l_same a_l_cell d_l_cell a_how_many d_how_many a_read_number d_read_number a_read_fixed d_read_fixed a_body_long d_body_long a_read_volume d_read_volume a_joined d_joined a_l_told d_l_told a_l_mixed_up d_l_mixed_up a_law d_law C_Missing aI_Missing dI_Missing) : FnOk P w K mg base (CXh hotS mg P w) 1 a_check_on d_check_on ["before", "body"] (spD K mg f_check_on) := by
  exact dfn T.F_check_on sc_check_on (fun cdv A outer s H E c hr tk hp hw => (have nd := sc_check_on.nd; (dss_cons (ds_set (i := 2) nd rfl (by first | exact Or.inl rfl | exact Or.inr rfl) (de_var 0))
  (dss_cons (ds_for hp rfl (di_seq (de_var 1)) (dg_name nd (i := 3) rfl (by first | exact Or.inl rfl | exact Or.inr rfl)) (dss_one (ds_for hp rfl (di_range3 rfl T.n_range (da_cons de_int (da_cons (de_un un_neg us_neg de_int) (da_cons (de_un un_neg us_neg de_int) da_nil)))) (dg_name nd (i := 4) rfl (by first | exact Or.inl rfl | exact Or.inr rfl)) (dss_cons (ds_set (i := 5) nd rfl (by first | exact Or.inl rfl | exact Or.inr rfl) (de_op op_and os_and (de_op op_shr os_shr (de_var 3) (de_var 4)) de_int))
  (dss_cons (ds_set (i := 6) nd rfl (by first | exact Or.inl rfl | exact Or.inr rfl) (de_op op_shr os_shr (de_var 2) de_int))
  (dss_cons (ds_set (i := 2) nd rfl (by first | exact Or.inl rfl | exact Or.inr rfl) (de_op op_mod os_mod (de_op or_mul os_mul (de_var 2) de_int) de_int))
  (dss_one (ds_if (dt_cmp (or_ne hr.units) os_ne (de_var 5) (de_var 6)) (dss_one (ds_set (i := 2) nd rfl (by first | exact Or.inl rfl | exact Or.inr rfl) (de_op op_xor os_xor (de_var 2) (de_gI rfl T.c_TURNS)))) dss_nil))))))))
  (dss_one (ds_ret (de_var 2)))))))
theorem ok_check_of (T : Txt K mg a_mixed d_mixed a_number_bytes d_number_bytes a_fixed_bytes d_fixed_bytes a_check_on d_check_on a_check_of d_check_of a_volume_of d_volume_of a_shared d_shared a_l_d d_l_d a_l_few d_l_few a_l_same d_l_same a_l_cell d_l_cell a_how_many d_how_many a_read_number d_read_number a_read_fixed d_read_fixed a_body_long d_body_long a_read_volume d_read_volume a_joined d_joined a_l_told d_l_told a_l_mixed_up d_l_mixed_up a_law d_law C_Missing aI_Missing dI_Missing) (G_check_on : FnOk P w K mg base (CXh hotS mg P w) 1 a_check_on d_check_on ["before", "body"] (spD K mg f_check_on)) : FnOk P w K mg base (CXh hotS mg P w) 2 a_check_of d_check_of ["body"] (spD K mg f_check_of) := by
  exact dfn T.F_check_of sc_check_of (fun cdv A outer s H E c hr tk hp hw => (have nd := sc_check_of.nd; (dss_one (ds_ret (de_call G_check_on (hr.mono (by decide)) rfl T.m_check_on T.k_check_on T.b_check_on tk (da_cons (de_gI rfl T.c_FIRST) (da_cons (de_var 0) da_nil)))))))
theorem ok_volume_of (T : Txt K mg a_mixed d_mixed a_number_bytes d_number_bytes a_fixed_bytes d_fixed_bytes a_check_on d_check_on a_check_of d_check_of a_volume_of d_volume_of a_shared d_shared a_l_d d_l_d a_l_few d_l_few a_l_same d_l_same a_l_cell d_l_cell a_how_many d_how_many a_read_number d_read_number a_read_fixed d_read_fixed a_body_long d_body_long a_read_volume d_read_volume a_joined d_joined a_l_told d_l_told a_l_mixed_up d_l_mixed_up a_law d_law C_Missing aI_Missing dI_Missing) (G_number_bytes : FnOk P w K mg base (CXh hotS mg P w) 1 a_number_bytes d_number_bytes ["n"] (spD K mg f_number_bytes)) (G_check_of : FnOk P w K mg base (CXh hotS mg P w) 2 a_check_of d_check_of ["body"] (spD K mg f_check_of)) (G_fixed_bytes : FnOk P w K mg base (CXh hotS mg P w) 1 a_fixed_bytes d_fixed_bytes ["n", "many"] (spD K mg f_fixed_bytes)) : FnOk P w K mg base (CXh hotS mg P w) 3 a_volume_of d_volume_of ["number", "most", "some", "body"] (spD K mg f_volume_of) := by
  exact dfn T.F_volume_of sc_volume_of (fun cdv A outer s H E c hr tk hp hw => (have nd := sc_volume_of.nd; (dss_cons (ds_set (i := 4) nd rfl (by first | exact Or.inl rfl | exact Or.inr rfl) (de_op or_add os_add (de_op or_add os_add (de_op or_add os_add (de_gT rfl T.c_MARK) (de_call G_number_bytes (hr.mono (by decide)) rfl T.m_number_bytes T.k_number_bytes T.b_number_bytes tk (da_cons (de_var 0) da_nil))) (de_call G_number_bytes (hr.mono (by decide)) rfl T.m_number_bytes T.k_number_bytes T.b_number_bytes tk (da_cons (de_var 1) da_nil))) (de_call G_number_bytes (hr.mono (by decide)) rfl T.m_number_bytes T.k_number_bytes T.b_number_bytes tk (da_cons (de_callB call_len cs_len rfl T.n_len (by decide +kernel) (da_cons (de_var 2) da_nil)) da_nil))))
  (dss_cons (ds_set (i := 4) nd rfl (by first | exact Or.inl rfl | exact Or.inr rfl) (de_op or_add os_add (de_op or_add os_add (de_var 4) (de_call G_fixed_bytes (hr.mono (by decide)) rfl T.m_fixed_bytes T.k_fixed_bytes T.b_fixed_bytes tk (da_cons (de_call G_check_of (hr.mono (by decide)) rfl T.m_check_of T.k_check_of T.b_check_of tk (da_cons (de_var 2) da_nil)) (da_cons de_int da_nil)))) (de_var 3)))
  (dss_one (ds_ret (de_op or_add os_add (de_var 4) (de_call G_fixed_bytes (hr.mono (by decide)) rfl T.m_fixed_bytes T.k_fixed_bytes T.b_fixed_bytes tk (da_cons (de_call G_check_of (hr.mono (by decide)) rfl T.m_check_of T.k_check_of T.b_check_of tk (da_cons (de_var 4) da_nil)) (da_cons de_int da_nil))))))))))
theorem ok_shared (T : Txt K mg a_mixed d_mixed a_number_bytes d_number_bytes a_fixed_bytes d_fixed_bytes a_check_on d_check_on a_check_of d_check_of a_volume_of d_volume_of a_shared d_shared a_l_d d_l_d a_l_few d_l_few a_l_same d_l_same a_l_cell d_l_cell a_how_many d_how_many a_read_number d_read_number a_read_fixed d_read_fixed a_body_long d_body_long a_read_volume d_read_volume a_joined d_joined a_l_told d_l_told a_l_mixed_up d_l_mixed_up a_law d_law C_Missing aI_Missing dI_Missing) (G_mixed : FnOk P w K mg base (CXh hotS mg P w) 1 a_mixed d_mixed ["bodies", "size"] (spD K mg f_mixed)) (G_volume_of : FnOk P w K mg base (CXh hotS mg P w) 3 a_volume_of d_volume_of ["number", "most", "some", "body"] (spD K mg f_volume_of)) : FnOk P w K mg base (CXh hotS mg P w) 4 a_shared d_shared ["some", "most"] (spD K mg f_shared) := by
  exact dfn T.F_shared sc_shared (fun cdv A outer s H E c hr tk hp hw => (have nd := sc_shared.nd; (dss_cons (ds_setLc (i := 2) rfl nd rfl rfl (sw_true rfl rfl rfl (by decide +kernel)) (di_range3 rfl T.n_range (da_cons de_int (da_cons (de_callB call_len cs_len rfl T.n_len (by decide +kernel) (da_cons (de_var 0) da_nil)) (da_cons (de_var 1) da_nil)))) (blkOk_by (own := [("at", 4)]) (N := nn_shared) (sc := defScope s_shared) (by decide +kernel)) (by decide) (fun _ _ _ _ _ => (dg_name nd (i := 4) rfl (by first | exact Or.inl rfl | exact Or.inr rfl))) (fun _ _ _ _ _ => dts_nil) (fun _ _ _ _ _ => (de_slice or_sl os_sl (de_var 0) (dp_some (de_var 4)) (dp_some (de_op or_add os_add (de_var 4) (de_var 1))))))
  (dss_cons (ds_set (i := 3) nd rfl (by first | exact Or.inl rfl | exact Or.inr rfl) (de_call G_mixed (hr.mono (by decide)) rfl T.m_mixed T.k_mixed T.b_mixed tk (da_cons (de_var 2) (da_cons (de_callB (call_min2 rfl) cs_min rfl T.n_min (by decide +kernel) (da_cons (de_var 1) (da_cons (de_callB call_len cs_len rfl T.n_len (by decide +kernel) (da_cons (de_var 0) da_nil)) da_nil))) da_nil))))
  (dss_one (ds_ret (de_callTy call_tuple_of cs_tuple rfl T.n_tuple (by decide +kernel) (da_cons (de_lc rfl nd (di_enumA rfl T.n_enumerate (da_cons (de_op or_add os_add (de_var 2) (de_lst (da_cons (de_var 3) da_nil))) da_nil)) (blkOk_by (own := [("k", 5), ("body", 6)]) (N := nn_shared) (sc := defScope s_shared) (by decide +kernel)) (by decide) (fun _ _ _ _ _ => (dg_tup rfl (dgs_cons (dg_name nd (i := 5) rfl (by first | exact Or.inl rfl | exact Or.inr rfl)) (dgs_cons (dg_name nd (i := 6) rfl (by first | exact Or.inl rfl | exact Or.inr rfl)) dgs_nil)))) (fun _ _ _ _ _ => dts_nil) (fun _ _ _ _ _ => (de_call G_volume_of (hr.mono (by decide)) rfl T.m_volume_of T.k_volume_of T.b_volume_of takesH_none (da_cons (de_var 5) (da_cons (de_var 1) (da_cons (de_var 0) (da_cons (de_var 6) da_nil))))))) da_nil))))))))
theorem ok_l_d (T : Txt K mg a_mixed d_mixed a_number_bytes d_number_bytes a_fixed_bytes d_fixed_bytes a_check_on d_check_on a_check_of d_check_of a_volume_of d_volume_of a_shared d_shared a_l_d d_l_d a_l_few d_l_few a_l_same d_l_same a_l_cell d_l_cell a_how_many d_how_many a_read_number d_read_number a_read_fixed d_read_fixed a_body_long d_body_long a_read_volume d_read_volume a_joined d_joined a_l_told d_l_told a_l_mixed_up d_l_mixed_up a_law d_law C_Missing aI_Missing dI_Missing) : FnOk P w K mg base (CXh hotS mg P w) 1 a_l_d d_l_d ["_law_cell_here", "_law_place", "_law_many"] (spD K mg f_l_d) := by
  exact dfn T.F_l_d sc_l_d (fun cdv A outer s H E c hr tk hp hw => (have nd := sc_l_d.nd; (dss_cons (ds_set (i := 3) nd rfl (by first | exact Or.inl rfl | exact Or.inr rfl) (de_op op_mod os_mod (de_op or_add os_add (de_var 0) (de_op or_mul os_mul de_int (de_var 1))) de_int))
  (dss_cons (ds_set (i := 3) nd rfl (by first | exact Or.inl rfl | exact Or.inr rfl) (de_op op_mod os_mod (de_op or_mul os_mul (de_op op_mod os_mod (de_op or_mul os_mul (de_var 3) (de_var 3)) de_int) de_int) de_int))
  (dss_one (ds_ret (de_op op_mod os_mod (de_op op_fdiv os_div (de_var 3) de_int) (de_var 2))))))))
theorem ok_l_few (T : Txt K mg a_mixed d_mixed a_number_bytes d_number_bytes a_fixed_bytes d_fixed_bytes a_check_on d_check_on a_check_of d_check_of a_volume_of d_volume_of a_shared d_shared a_l_d d_l_d a_l_few d_l_few a_l_same d_l_same a_l_cell d_l_cell a_how_many d_how_many a_read_number d_read_number a_read_fixed d_read_fixed a_body_long d_body_long a_read_volume d_read_volume a_joined d_joined a_l_told d_l_told a_l_mixed_up d_l_mixed_up a_law d_law C_Missing aI_Missing dI_Missing) (G_l_d : FnOk P w K mg base (CXh hotS mg P w) 1 a_l_d d_l_d ["_law_cell_here", "_law_place", "_law_many"] (spD K mg f_l_d)) : FnOk P w K mg base (CXh hotS mg P w) 2 a_l_few d_l_few ["_law_script", "_law_begin", "_law_end"] (spD K mg f_l_few) := by
  exact dfn T.F_l_few sc_l_few (fun cdv A outer s H E c hr tk hp hw => (have nd := sc_l_few.nd; (dss_cons (ds_set (i := 3) nd rfl (by first | exact Or.inl rfl | exact Or.inr rfl) de_int)
  (dss_cons (ds_if (dt_truth (de_var 0)) (dss_one (ds_set (i := 3) nd rfl (by first | exact Or.inl rfl | exact Or.inr rfl) (de_ix ix_seq os_ix (de_var 0) de_int))) dss_nil)
  (dss_cons (ds_set (i := 4) nd rfl (by first | exact Or.inl rfl | exact Or.inr rfl) (de_ix ix_seq os_ix (de_lst (da_cons de_int (da_cons de_int (da_cons de_int (da_cons de_int da_nil))))) (de_call G_l_d (hr.mono (by decide)) rfl T.m_l_d T.k_l_d T.b_l_d tk (da_cons (de_var 3) (da_cons de_int (da_cons de_int da_nil))))))
  (dss_one (ds_ret (de_callTy call_tuple_of cs_tuple rfl T.n_tuple (by decide +kernel) (da_cons (de_lc rfl nd (di_seq (de_slice or_sl os_sl (de_var 0) (dp_some (de_var 1)) (dp_some (de_var 2)))) (blkOk_by (own := [("_law_one", 5)]) (N := nn_l_few) (sc := defScope s_l_few) (by decide +kernel)) (by decide) (fun _ _ _ _ _ => (dg_name nd (i := 5) rfl (by first | exact Or.inl rfl | exact Or.inr rfl))) (fun _ _ _ _ _ => dts_nil) (fun _ _ _ _ _ => (de_op op_mod os_mod (de_op or_add os_add (de_op op_mod os_mod (de_var 5) (de_var 4)) (de_op op_fdiv os_div (de_var 3) de_int)) de_int))) da_nil)))))))))
theorem ok_l_same (T : Txt K mg a_mixed d_mixed a_number_bytes d_number_bytes a_fixed_bytes d_fixed_bytes a_check_on d_check_on a_check_of d_check_of a_volume_of d_volume_of a_shared d_shared a_l_d d_l_d a_l_few d_l_few a_l_same d_l_same a_l_cell d_l_cell a_how_many d_how_many a_read_number d_read_number a_read_fixed d_read_fixed a_body_long d_body_long a_read_volume d_read_volume a_joined d_joined a_l_told d_l_told a_l_mixed_up d_l_mixed_up a_law d_law C_Missing aI_Missing dI_Missing) : ∀ n : Nat, FnOk P w K mg base (CXh hotS mg P w) (0 + n) a_l_same d_l_same ["_law_told_here", "_law_due"] (spD K mg (f_l_same n))
  | 0 => FnOk.mono dfn0 (Nat.zero_le _)
  | n + 1 => by
    have G := ok_l_same T n
    exact dfn T.F_l_same sc_l_same (fun cdv A outer s H E c hr tk hp hw => (have nd := sc_l_same.nd; (dss_cons (ds_if (dt_isN (de_var 1)) (dss_one (ds_ret (de_isN (de_var 0)))) dss_nil)
  (dss_cons (ds_if (dt_truth (de_isi rfl T.n_isinstance rfl T.n_bool (by decide +kernel) kB_bool (de_var 1))) (dss_one (ds_ret (de_and (de_isi rfl T.n_isinstance rfl T.n_bool (by decide +kernel) kB_bool (de_var 0)) (de_one (de_cmp (or_eq hr.units) os_eq (de_var 0) (de_var 1)))))) dss_nil)
  (dss_cons (ds_if (dt_truth (de_isi rfl T.n_isinstance rfl T.n_tuple (by decide +kernel) kB_tuple (de_var 1))) (dss_cons (ds_if (dt_w (dw_or (dt_not (dt_truth (de_isi rfl T.n_isinstance rfl T.n_tuple (by decide +kernel) kB_tuple (de_var 0)))) (dw_or1 (dt_cmp (or_ne hr.units) os_ne (de_callB call_len cs_len rfl T.n_len (by decide +kernel) (da_cons (de_var 0) da_nil)) (de_callB call_len cs_len rfl T.n_len (by decide +kernel) (da_cons (de_var 1) da_nil)))))) (dss_one (ds_ret de_bl)) dss_nil)
  (dss_one (ds_ret (de_callB (cr_all rfl) cs_all rfl T.n_all (by decide +kernel) (da_cons (de_lc rfl nd (di_zip rfl T.n_zip (da_cons (de_var 0) (da_cons (de_var 1) da_nil))) (blkOk_by (own := [("_law_one", 2), ("_law_other", 3)]) (N := nn_l_same) (sc := defScope s_l_same) (by decide +kernel)) (by decide) (fun _ _ _ _ _ => (dg_tup rfl (dgs_cons (dg_name nd (i := 2) rfl (by first | exact Or.inl rfl | exact Or.inr rfl)) (dgs_cons (dg_name nd (i := 3) rfl (by first | exact Or.inl rfl | exact Or.inr rfl)) dgs_nil)))) (fun _ _ _ _ _ => dts_nil) (fun _ _ _ _ _ => (de_call G (hr.mono (Nat.le_refl _)) rfl T.m_l_same T.k_l_same T.b_l_same takesH_none (da_cons (de_var 2) (da_cons (de_var 3) da_nil))))) da_nil))))) dss_nil)
  (dss_cons (ds_if (dt_truth (de_isi rfl T.n_isinstance rfl T.n_str (by decide +kernel) kB_str (de_var 1))) (dss_one (ds_ret (de_and (de_isi rfl T.n_isinstance rfl T.n_str (by decide +kernel) kB_str (de_var 0)) (de_one (de_cmp (or_eq hr.units) os_eq (de_var 0) (de_var 1)))))) dss_nil)
  (dss_one (ds_ret (de_and (de_isi rfl T.n_isinstance rfl T.n_int (by decide +kernel) kB_int (de_var 0)) (de_and (de_not (de_isi rfl T.n_isinstance rfl T.n_bool (by decide +kernel) kB_bool (de_var 0))) (de_one (de_cmp (or_eq hr.units) os_eq (de_var 0) (de_var 1)))))))))))))
theorem ok_l_cell (T : Txt K mg a_mixed d_mixed a_number_bytes d_number_bytes a_fixed_bytes d_fixed_bytes a_check_on d_check_on a_check_of d_check_of a_volume_of d_volume_of a_shared d_shared a_l_d d_l_d a_l_few d_l_few a_l_same d_l_same a_l_cell d_l_cell a_how_many d_how_many a_read_number d_read_number a_read_fixed d_read_fixed a_body_long d_body_long a_read_volume d_read_volume a_joined d_joined a_l_told d_l_told a_l_mixed_up d_l_mixed_up a_law d_law C_Missing aI_Missing dI_Missing) : FnOk P w K mg base (CXh hotS mg P w) 1 a_l_cell d_l_cell ["_law_script", "_law_k"] (spD K mg f_l_cell) := by
  exact dfn T.F_l_cell sc_l_cell (fun cdv A outer s H E c hr tk hp hw => (have nd := sc_l_cell.nd; (dss_cons (ds_if (dt_cmp or_lt os_lt (de_var 1) (de_callB call_len cs_len rfl T.n_len (by decide +kernel) (da_cons (de_var 0) da_nil))) (dss_one (ds_ret (de_ix ix_seq os_ix (de_var 0) (de_var 1)))) dss_nil)
  (dss_one (ds_ret de_int)))))
theorem ok_how_many (T : Txt K mg a_mixed d_mixed a_number_bytes d_number_bytes a_fixed_bytes d_fixed_bytes a_check_on d_check_on a_check_of d_check_of a_volume_of d_volume_of a_shared d_shared a_l_d d_l_d a_l_few d_l_few a_l_same d_l_same a_l_cell d_l_cell a_how_many d_how_many a_read_number d_read_number a_read_fixed d_read_fixed a_body_long d_body_long a_read_volume d_read_volume a_joined d_joined a_l_told d_l_told a_l_mixed_up d_l_mixed_up a_law d_law C_Missing aI_Missing dI_Missing) : FnOk P w K mg base (CXh hotS mg P w) 1 a_how_many d_how_many ["most", "size"] (spD K mg f_how_many) := by
  exact dfn T.F_how_many sc_how_many (fun cdv A outer s H E c hr tk hp hw => (have nd := sc_how_many.nd; (dss_one (ds_ret (de_op op_fdiv os_div (de_op op_sub os_sub (de_op or_add os_add (de_var 1) (de_var 0)) de_int) (de_var 0))))))
theorem ok_read_number (T : Txt K mg a_mixed d_mixed a_number_bytes d_number_bytes a_fixed_bytes d_fixed_bytes a_check_on d_check_on a_check_of d_check_of a_volume_of d_volume_of a_shared d_shared a_l_d d_l_d a_l_few d_l_few a_l_same d_l_same a_l_cell d_l_cell a_how_many d_how_many a_read_number d_read_number a_read_fixed d_read_fixed a_body_long d_body_long a_read_volume d_read_volume a_joined d_joined a_l_told d_l_told a_l_mixed_up d_l_mixed_up a_law d_law C_Missing aI_Missing dI_Missing) : FnOk P w K mg base (CXh hotS mg P w) 1 a_read_number d_read_number ["some", "at"] (spD K mg f_read_number) := by
  obtain ⟨C_BadForm, e_BadForm⟩ := T.x_BadForm
  obtain ⟨C_Cut, e_Cut⟩ := T.x_Cut
  exact dfn T.F_read_number sc_read_number (fun cdv A outer s H E c hr tk hp hw => (have nd := sc_read_number.nd; (dss_cons (ds_set (i := 2) nd rfl (by first | exact Or.inl rfl | exact Or.inr rfl) de_int)
  (dss_cons (ds_set (i := 3) nd rfl (by first | exact Or.inl rfl | exact Or.inr rfl) de_int)
  (dss_cons (ds_for hp rfl (di_range1 rfl T.n_range (da_cons (de_gI rfl T.c_LONGEST) da_nil)) (dg_name nd (i := 4) rfl (by first | exact Or.inl rfl | exact Or.inr rfl)) (dss_cons (ds_if (dt_cmp (or_geT (u65 hr)) os_geT (de_op or_add os_add (de_var 1) (de_var 4)) (de_callB call_len cs_len rfl T.n_len (by decide +kernel) (da_cons (de_var 0) da_nil))) (dss_one (ds_raise rfl tk PySem.F.excBase_ValueError e_Cut.q e_Cut.g e_Cut.k (raises_own e_Cut.b e_Cut.t) rfl)) dss_nil)
  (dss_cons (ds_set (i := 5) nd rfl (by first | exact Or.inl rfl | exact Or.inr rfl) (de_ix ix_seq os_ix (de_var 0) (de_op or_add os_add (de_var 1) (de_var 4))))
  (dss_cons (ds_if (dt_w (dw_and (dt_cmp (or_eq hr.units) os_eq (de_var 5) de_int) (dw_and1 (dt_cmp op_gt os_gt (de_var 4) de_int)))) (dss_one (ds_raise rfl tk PySem.F.excBase_ValueError e_BadForm.q e_BadForm.g e_BadForm.k (raises_own e_BadForm.b e_BadForm.t) rfl)) dss_nil)
  (dss_cons (ds_set (i := 2) nd rfl (by first | exact Or.inl rfl | exact Or.inr rfl) (de_op or_add os_add (de_var 2) (de_op or_mul os_mul (de_op op_mod os_mod (de_var 5) de_int) (de_var 3))))
  (dss_cons (ds_if (dt_cmp or_lt os_lt (de_var 5) de_int) (dss_one (ds_ret (de_tup (da_cons (de_var 2) (da_cons (de_op or_add os_add (de_op or_add os_add (de_var 1) (de_var 4)) de_int) da_nil))))) dss_nil)
  (dss_one (ds_set (i := 3) nd rfl (by first | exact Or.inl rfl | exact Or.inr rfl) (de_op or_mul os_mul (de_var 3) de_int)))))))))
  (dss_one (ds_raise rfl tk PySem.F.excBase_ValueError e_BadForm.q e_BadForm.g e_BadForm.k (raises_own e_BadForm.b e_BadForm.t) rfl)))))))
theorem ok_read_fixed (T : Txt K mg a_mixed d_mixed a_number_bytes d_number_bytes a_fixed_bytes d_fixed_bytes a_check_on d_check_on a_check_of d_check_of a_volume_of d_volume_of a_shared d_shared a_l_d d_l_d a_l_few d_l_few a_l_same d_l_same a_l_cell d_l_cell a_how_many d_how_many a_read_number d_read_number a_read_fixed d_read_fixed a_body_long d_body_long a_read_volume d_read_volume a_joined d_joined a_l_told d_l_told a_l_mixed_up d_l_mixed_up a_law d_law C_Missing aI_Missing dI_Missing) : FnOk P w K mg base (CXh hotS mg P w) 1 a_read_fixed d_read_fixed ["some", "at", "many"] (spD K mg f_read_fixed) := by
  obtain ⟨C_Cut, e_Cut⟩ := T.x_Cut
  exact dfn T.F_read_fixed sc_read_fixed (fun cdv A outer s H E c hr tk hp hw => (have nd := sc_read_fixed.nd; (dss_cons (ds_if (dt_cmp op_gt os_gt (de_op or_add os_add (de_var 1) (de_var 2)) (de_callB call_len cs_len rfl T.n_len (by decide +kernel) (da_cons (de_var 0) da_nil))) (dss_one (ds_raise rfl tk PySem.F.excBase_ValueError e_Cut.q e_Cut.g e_Cut.k (raises_own e_Cut.b e_Cut.t) rfl)) dss_nil)
  (dss_cons (ds_set (i := 3) nd rfl (by first | exact Or.inl rfl | exact Or.inr rfl) de_int)
  (dss_cons (ds_for hp rfl (di_seq (de_slice or_sl os_sl (de_var 0) (dp_some (de_var 1)) (dp_some (de_op or_add os_add (de_var 1) (de_var 2))))) (dg_name nd (i := 4) rfl (by first | exact Or.inl rfl | exact Or.inr rfl)) (dss_one (ds_set (i := 3) nd rfl (by first | exact Or.inl rfl | exact Or.inr rfl) (de_op or_add os_add (de_op or_mul os_mul (de_var 3) de_int) (de_var 4)))))
  (dss_one (ds_ret (de_tup (da_cons (de_var 3) (da_cons (de_op or_add os_add (de_var 1) (de_var 2)) da_nil))))))))))
theorem ok_body_long (T : Txt K mg a_mixed d_mixed a_number_bytes d_number_bytes a_fixed_bytes d_fixed_bytes a_check_on d_check_on a_check_of d_check_of a_volume_of d_volume_of a_shared d_shared a_l_d d_l_d a_l_few d_l_few a_l_same d_l_same a_l_cell d_l_cell a_how_many d_how_many a_read_number d_read_number a_read_fixed d_read_fixed a_body_long d_body_long a_read_volume d_read_volume a_joined d_joined a_l_told d_l_told a_l_mixed_up d_l_mixed_up a_law d_law C_Missing aI_Missing dI_Missing) (G_how_many : FnOk P w K mg base (CXh hotS mg P w) 1 a_how_many d_how_many ["most", "size"] (spD K mg f_how_many)) : FnOk P w K mg base (CXh hotS mg P w) 2 a_body_long d_body_long ["number", "most", "size"] (spD K mg f_body_long) := by
  exact dfn T.F_body_long sc_body_long (fun cdv A outer s H E c hr tk hp hw => (have nd := sc_body_long.nd; (dss_cons (ds_if (dt_cmp (or_eq hr.units) os_eq (de_var 0) (de_call G_how_many (hr.mono (by decide)) rfl T.m_how_many T.k_how_many T.b_how_many tk (da_cons (de_var 1) (da_cons (de_var 2) da_nil)))) (dss_one (ds_ret (de_callB (call_min2 rfl) cs_min rfl T.n_min (by decide +kernel) (da_cons (de_var 1) (da_cons (de_var 2) da_nil))))) dss_nil)
  (dss_one (ds_ret (de_callB (call_min2 rfl) cs_min rfl T.n_min (by decide +kernel) (da_cons (de_var 1) (da_cons (de_op op_sub os_sub (de_var 2) (de_op or_mul os_mul (de_var 0) (de_var 1))) da_nil))))))))
theorem ok_read_volume (T : Txt K mg a_mixed d_mixed a_number_bytes d_number_bytes a_fixed_bytes d_fixed_bytes a_check_on d_check_on a_check_of d_check_of a_volume_of d_volume_of a_shared d_shared a_l_d d_l_d a_l_few d_l_few a_l_same d_l_same a_l_cell d_l_cell a_how_many d_how_many a_read_number d_read_number a_read_fixed d_read_fixed a_body_long d_body_long a_read_volume d_read_volume a_joined d_joined a_l_told d_l_told a_l_mixed_up d_l_mixed_up a_law d_law C_Missing aI_Missing dI_Missing) (G_read_number : FnOk P w K mg base (CXh hotS mg P w) 1 a_read_number d_read_number ["some", "at"] (spD K mg f_read_number)) (G_read_fixed : FnOk P w K mg base (CXh hotS mg P w) 1 a_read_fixed d_read_fixed ["some", "at", "many"] (spD K mg f_read_fixed)) (G_check_of : FnOk P w K mg base (CXh hotS mg P w) 2 a_check_of d_check_of ["body"] (spD K mg f_check_of)) (G_how_many : FnOk P w K mg base (CXh hotS mg P w) 1 a_how_many d_how_many ["most", "size"] (spD K mg f_how_many)) (G_body_long : FnOk P w K mg base (CXh hotS mg P w) 2 a_body_long d_body_long ["number", "most", "size"] (spD K mg f_body_long)) : FnOk P w K mg base (CXh hotS mg P w) 3 a_read_volume d_read_volume ["volume"] (spD K mg f_read_volume) := by
  obtain ⟨C_BadForm, e_BadForm⟩ := T.x_BadForm
  obtain ⟨C_BadVolume, e_BadVolume⟩ := T.x_BadVolume
  obtain ⟨C_Cut, e_Cut⟩ := T.x_Cut
  exact dfn T.F_read_volume sc_read_volume (fun cdv A outer s H E c hr tk hp hw => (have nd := sc_read_volume.nd; (dss_cons (ds_tryR (y := "BadVolume") rfl rfl (fun hd => L2H.passesAt_of rfl hd) tk (test_two ⟨rfl, by decide, .inl e_Cut.g⟩ ⟨rfl, by decide, .inl e_BadForm.g⟩) (rel_cons' (rel_of (T.r_Cut _ e_Cut.g)) (rel_cons' (rel_of (T.r_BadForm _ e_BadForm.g)) rel_nil')) (by decide +kernel) (by decide +kernel) e_BadVolume.g (fun _ _ => pmk_own0 PySem.F.excBase_ValueError e_BadVolume.q e_BadVolume.g e_BadVolume.k (raises_own e_BadVolume.b e_BadVolume.t) rfl) (fun W pn xe tk hp => (dss_cons (ds_asg (de_call G_read_number (hr.mono (by decide)) rfl T.m_read_number T.k_read_number T.b_read_number tk (da_cons (de_var 0) (da_cons de_int da_nil))) (dg_tup rfl (dgs_cons (dg_name nd (i := 1) rfl (by first | exact Or.inl rfl | exact Or.inr rfl)) (dgs_cons (dg_name nd (i := 2) rfl (by first | exact Or.inl rfl | exact Or.inr rfl)) dgs_nil))))
  (dss_cons (ds_asg (de_call G_read_number (hr.mono (by decide)) rfl T.m_read_number T.k_read_number T.b_read_number tk (da_cons (de_var 0) (da_cons (de_var 2) da_nil))) (dg_tup rfl (dgs_cons (dg_name nd (i := 3) rfl (by first | exact Or.inl rfl | exact Or.inr rfl)) (dgs_cons (dg_name nd (i := 2) rfl (by first | exact Or.inl rfl | exact Or.inr rfl)) dgs_nil))))
  (dss_cons (ds_asg (de_call G_read_number (hr.mono (by decide)) rfl T.m_read_number T.k_read_number T.b_read_number tk (da_cons (de_var 0) (da_cons (de_var 2) da_nil))) (dg_tup rfl (dgs_cons (dg_name nd (i := 4) rfl (by first | exact Or.inl rfl | exact Or.inr rfl)) (dgs_cons (dg_name nd (i := 2) rfl (by first | exact Or.inl rfl | exact Or.inr rfl)) dgs_nil))))
  (dss_cons (ds_asg (de_call G_read_fixed (hr.mono (by decide)) rfl T.m_read_fixed T.k_read_fixed T.b_read_fixed tk (da_cons (de_var 0) (da_cons (de_var 2) (da_cons de_int da_nil)))) (dg_tup rfl (dgs_cons (dg_name nd (i := 5) rfl (by first | exact Or.inl rfl | exact Or.inr rfl)) (dgs_cons (dg_name nd (i := 2) rfl (by first | exact Or.inl rfl | exact Or.inr rfl)) dgs_nil))))
  (dss_one (ds_asg (de_call G_read_fixed (hr.mono (by decide)) rfl T.m_read_fixed T.k_read_fixed T.b_read_fixed tk (da_cons (de_var 0) (da_cons (de_callB (cr_maxA rfl) cs_maxA rfl T.n_max (by decide +kernel) (da_cons (de_var 2) (da_cons (de_op op_sub os_sub (de_callB call_len cs_len rfl T.n_len (by decide +kernel) (da_cons (de_var 0) da_nil)) de_int) da_nil))) (da_cons de_int da_nil)))) (dg_tup rfl (dgs_cons (dg_name nd (i := 6) rfl (by first | exact Or.inl rfl | exact Or.inr rfl)) (dgs_cons (dg_name nd (i := 7) rfl (by first | exact Or.inl rfl | exact Or.inr rfl)) dgs_nil)))))))))))
  (dss_cons (ds_if (dt_w (dw_or (dt_cmp (or_ne hr.units) os_ne (de_slice or_sl os_sl (de_var 0) dp_none (dp_some de_int)) (de_gT rfl T.c_MARK)) (dw_or (dt_cmp (or_ne hr.units) os_ne (de_var 6) (de_call G_check_of (hr.mono (by decide)) rfl T.m_check_of T.k_check_of T.b_check_of tk (da_cons (de_slice or_sl os_sl (de_var 0) dp_none (dp_some (de_un un_neg us_neg de_int))) da_nil))) (dw_or1 (dt_not (dt_chain or_le or_le os_le os_le de_int (de_var 3) (de_gI rfl T.c_MOST_MOST))))))) (dss_one (ds_raise rfl tk PySem.F.excBase_ValueError e_BadVolume.q e_BadVolume.g e_BadVolume.k (raises_own e_BadVolume.b e_BadVolume.t) rfl)) dss_nil)
  (dss_cons (ds_if (dt_w (dw_or (dt_not (dt_chain or_le or_le os_le os_le de_int (de_var 4) (de_gI rfl T.c_SIZE_MOST))) (dw_or1 (dt_cmp op_gt os_gt (de_var 1) (de_call G_how_many (hr.mono (by decide)) rfl T.m_how_many T.k_how_many T.b_how_many tk (da_cons (de_var 3) (da_cons (de_var 4) da_nil))))))) (dss_one (ds_raise rfl tk PySem.F.excBase_ValueError e_BadVolume.q e_BadVolume.g e_BadVolume.k (raises_own e_BadVolume.b e_BadVolume.t) rfl)) dss_nil)
  (dss_cons (ds_if (dt_cmp (or_ne hr.units) os_ne (de_call G_body_long (hr.mono (by decide)) rfl T.m_body_long T.k_body_long T.b_body_long tk (da_cons (de_var 1) (da_cons (de_var 3) (da_cons (de_var 4) da_nil)))) (de_op op_sub os_sub (de_op op_sub os_sub (de_callB call_len cs_len rfl T.n_len (by decide +kernel) (da_cons (de_var 0) da_nil)) de_int) (de_var 2))) (dss_one (ds_raise rfl tk PySem.F.excBase_ValueError e_BadVolume.q e_BadVolume.g e_BadVolume.k (raises_own e_BadVolume.b e_BadVolume.t) rfl)) dss_nil)
  (dss_one (ds_ret (de_tup (da_cons (de_var 1) (da_cons (de_tup (da_cons (de_var 3) (da_cons (de_var 4) (da_cons (de_var 5) da_nil)))) (da_cons (de_slice or_sl os_sl (de_var 0) (dp_some (de_var 2)) (dp_some (de_un un_neg us_neg de_int))) da_nil))))))))))))
theorem ok_joined (T : Txt K mg a_mixed d_mixed a_number_bytes d_number_bytes a_fixed_bytes d_fixed_bytes a_check_on d_check_on a_check_of d_check_of a_volume_of d_volume_of a_shared d_shared a_l_d d_l_d a_l_few d_l_few a_l_same d_l_same a_l_cell d_l_cell a_how_many d_how_many a_read_number d_read_number a_read_fixed d_read_fixed a_body_long d_body_long a_read_volume d_read_volume a_joined d_joined a_l_told d_l_told a_l_mixed_up d_l_mixed_up a_law d_law C_Missing aI_Missing dI_Missing) (G_read_volume : FnOk P w K mg base (CXh hotS mg P w) 3 a_read_volume d_read_volume ["volume"] (spD K mg f_read_volume)) (G_how_many : FnOk P w K mg base (CXh hotS mg P w) 1 a_how_many d_how_many ["most", "size"] (spD K mg f_how_many)) (G_mixed : FnOk P w K mg base (CXh hotS mg P w) 1 a_mixed d_mixed ["bodies", "size"] (spD K mg f_mixed)) (G_body_long : FnOk P w K mg base (CXh hotS mg P w) 2 a_body_long d_body_long ["number", "most", "size"] (spD K mg f_body_long)) (G_check_of : FnOk P w K mg base (CXh hotS mg P w) 2 a_check_of d_check_of ["body"] (spD K mg f_check_of)) : FnOk P w K mg base (CXh hotS mg P w) 4 a_joined d_joined ["volumes"] (spD K mg f_joined) := by
  obtain ⟨C_NotTogether, e_NotTogether⟩ := T.x_NotTogether
  have V_Missing : VExc P w K mg base hotS "Missing" "numbers" 1 C_Missing aI_Missing dI_Missing "numbers" := ⟨T.v_Missing, okI_Missing T.FI_Missing⟩
  exact dfn T.F_joined sc_joined (fun cdv A outer s H E c hr tk hp hw => (have nd := sc_joined.nd; (dss_cons (ds_setLc (i := 1) rfl nd rfl rfl (sw_true rfl rfl rfl (by decide +kernel)) (di_seq (de_var 0)) (blkOk_by (own := [("volume", 13)]) (N := nn_joined) (sc := defScope s_joined) (by decide +kernel)) (by decide) (fun _ _ _ _ _ => (dg_name nd (i := 13) rfl (by first | exact Or.inl rfl | exact Or.inr rfl))) (fun _ _ _ _ _ => dts_nil) (fun _ _ _ _ _ => (de_call G_read_volume (hr.mono (by decide)) rfl T.m_read_volume T.k_read_volume T.b_read_volume takesH_none (da_cons (de_var 13) da_nil))))
  (dss_cons (ds_dnew (i := 2) nd rfl (by first | exact Or.inl rfl | exact Or.inr rfl))
  (dss_cons (ds_forW [0, 3, 4, 5, 6, 7, 8, 9, 10, 11, 12] hp rfl (di_seq (de_var 1)) (dg_tup rfl (dgs_cons (dg_name nd (i := 7) rfl (by first | exact Or.inl rfl | exact Or.inr rfl)) (dgs_cons (dg_name nd (i := 8) rfl (by first | exact Or.inl rfl | exact Or.inr rfl)) (dgs_cons (dg_name nd (i := 9) rfl (by first | exact Or.inl rfl | exact Or.inr rfl)) dgs_nil)))) (dss_wp [7, 8, 9] [] [0, 1, 2, 3, 4, 5, 6, 7, 8, 9, 10, 11, 12] (dss_one (ds_ifx (dtx_w (dwx_or (dtx_t (dt_cmp (or_ne hr.units) os_ne (de_var 8) (de_ix ix_seq os_ix (de_ix ix_seq os_ix (de_var 1) de_int) de_int))) (dwx_or1 (dtx_cmp (or_ne hr.units) os_ne (dex_setd 2 (de_var 7) (de_var 9)) (de_var 9))))) (dss_one (ds_raise rfl tk PySem.F.excBase_ValueError e_NotTogether.q e_NotTogether.g e_NotTogether.k (raises_own e_NotTogether.b e_NotTogether.t) rfl)) dss_nil))))
  (dss_cons (ds_if (dt_not (dt_truth (de_var 1))) (dss_one (ds_raise rfl tk PySem.F.excBase_ValueError e_NotTogether.q e_NotTogether.g e_NotTogether.k (raises_own e_NotTogether.b e_NotTogether.t) rfl)) dss_nil)
  (dss_cons (ds_asg (de_ix ix_seq os_ix (de_ix ix_seq os_ix (de_var 1) de_int) de_int) (dg_tup rfl (dgs_cons (dg_name nd (i := 10) rfl (by first | exact Or.inl rfl | exact Or.inr rfl)) (dgs_cons (dg_name nd (i := 11) rfl (by first | exact Or.inl rfl | exact Or.inr rfl)) (dgs_cons (dg_name nd (i := 12) rfl (by first | exact Or.inl rfl | exact Or.inr rfl)) dgs_nil)))))
  (dss_cons (ds_set (i := 3) nd rfl (by first | exact Or.inl rfl | exact Or.inr rfl) (de_call G_how_many (hr.mono (by decide)) rfl T.m_how_many T.k_how_many T.b_how_many tk (da_cons (de_var 10) (da_cons (de_var 11) da_nil))))
  (dss_cons (ds_setLc (i := 4) rfl nd rfl rfl (sw_true rfl rfl rfl (by decide +kernel)) (di_range1 rfl T.n_range (da_cons (de_var 3) da_nil)) (blkOk_by (own := [("k", 5)]) (N := nn_joined) (sc := defScope s_joined) (by decide +kernel)) (by decide) (fun _ _ _ _ _ => (dg_name nd (i := 5) rfl (by first | exact Or.inl rfl | exact Or.inr rfl))) (fun _ _ _ _ _ => (dts_one (dt_dnin 2 (u65 hr) (de_var 5)))) (fun _ _ _ _ _ => (de_var 5)))
  (dss_cons (ds_if (dt_w (dw_or (dt_cmp op_gt os_gt (de_callB call_len cs_len rfl T.n_len (by decide +kernel) (da_cons (de_var 4) da_nil)) de_int) (dw_or1 (dt_w (dw_and (dt_truth (de_var 4)) (dw_and1 (dt_dnin 2 (u65 hr) (de_var 3)))))))) (dss_one (ds_raiseV rfl tk V_Missing (hr.mono (by decide)) (by decide +kernel) rfl (de_callTy call_tuple_of cs_tuple rfl T.n_tuple (by decide +kernel) (da_cons (de_var 4) da_nil)))) dss_nil)
  (dss_cons (ds_forW [0, 1, 4, 5, 6, 7, 8, 9] hp rfl (di_seq (de_var 4)) (dg_name nd (i := 5) rfl (by first | exact Or.inl rfl | exact Or.inr rfl)) (dss_wp [5] [] [0, 1, 2, 3, 4, 5, 6, 7, 8, 9, 10, 11, 12] (dss_one (ds_dput 2 (u65 hr) (de_slice or_sl os_sl (de_call G_mixed (hr.mono (by decide)) rfl T.m_mixed T.k_mixed T.b_mixed tk (da_cons (de_lock 2 (fun c hw hW => (de_lc rfl nd (di_items 2) (blkOk_by (own := [("number", 7), ("body", 9)]) (N := nn_joined) (sc := defScope s_joined) (by decide +kernel)) (by decide) (fun _ _ _ _ _ => (dg_tup rfl (dgs_cons (dg_name nd (i := 7) rfl (by first | exact Or.inl rfl | exact Or.inr rfl)) (dgs_cons (dg_name nd (i := 9) rfl (by first | exact Or.inl rfl | exact Or.inr rfl)) dgs_nil)))) (fun _ _ _ _ _ => dts_nil) (fun _ _ _ _ _ => (de_var 9))))) (da_cons (de_callB (call_min2 rfl) cs_min rfl T.n_min (by decide +kernel) (da_cons (de_var 10) (da_cons (de_var 11) da_nil))) da_nil))) dp_none (dp_some (de_call G_body_long (hr.mono (by decide)) rfl T.m_body_long T.k_body_long T.b_body_long tk (da_cons (de_var 5) (da_cons (de_var 10) (da_cons (de_var 11) da_nil)))))) (de_var 5)))))
  (dss_cons (ds_set (i := 6) nd rfl (by first | exact Or.inl rfl | exact Or.inr rfl) (de_tup da_nil))
  (dss_cons (ds_forW [0, 1, 3, 4, 5, 7, 8, 9, 10, 11] hp rfl (di_range1 rfl T.n_range (da_cons (de_var 3) da_nil)) (dg_name nd (i := 5) rfl (by first | exact Or.inl rfl | exact Or.inr rfl)) (dss_wp [5] [] [0, 1, 2, 3, 4, 5, 6, 7, 8, 9, 10, 11, 12] (dss_one (ds_set (i := 6) nd rfl (by first | exact Or.inl rfl | exact Or.inr rfl) (de_op or_add os_add (de_var 6) (de_dget 2 (u65 hr) (de_var 5)))))))
  (dss_cons (ds_if (dt_cmp (or_ne hr.units) os_ne (de_call G_check_of (hr.mono (by decide)) rfl T.m_check_of T.k_check_of T.b_check_of tk (da_cons (de_var 6) da_nil)) (de_var 12)) (dss_one (ds_raise rfl tk PySem.F.excBase_ValueError e_NotTogether.q e_NotTogether.g e_NotTogether.k (raises_own e_NotTogether.b e_NotTogether.t) rfl)) dss_nil)
  (dss_one (ds_ret (de_var 6)))))))))))))))))
theorem ok_l_told (T : Txt K mg a_mixed d_mixed a_number_bytes d_number_bytes a_fixed_bytes d_fixed_bytes a_check_on d_check_on a_check_of d_check_of a_volume_of d_volume_of a_shared d_shared a_l_d d_l_d a_l_few d_l_few a_l_same d_l_same a_l_cell d_l_cell a_how_many d_how_many a_read_number d_read_number a_read_fixed d_read_fixed a_body_long d_body_long a_read_volume d_read_volume a_joined d_joined a_l_told d_l_told a_l_mixed_up d_l_mixed_up a_law d_law C_Missing aI_Missing dI_Missing) (G_joined : FnOk P w K mg base (CXh hotS mg P w) 4 a_joined d_joined ["volumes"] (spD K mg f_joined)) : FnOk P w K mg base (CXh hotS mg P w) 5 a_l_told d_l_told ["_law_volumes"] (spD K mg f_l_told) := by
  obtain ⟨C_NotTogether, e_NotTogether⟩ := T.x_NotTogether
  exact dfn T.F_l_told sc_l_told (fun cdv A outer s H E c hr tk hp hw => (have nd := sc_l_told.nd; (dss_cons (ds_set (i := 1) nd rfl (by first | exact Or.inl rfl | exact Or.inr rfl) de_non)
  (dss_cons (ds_tryX rfl rfl tk (fun W pn xe tk hp => (dss_one (ds_set (i := 1) nd rfl (by first | exact Or.inl rfl | exact Or.inr rfl) (de_tup (da_cons (de_call G_joined (hr.mono (by decide)) rfl T.m_joined T.k_joined T.b_joined tk (da_cons (de_var 0) da_nil)) da_nil))))) (dhx_as nd (j := 2) rfl rfl (test_one ⟨rfl, by decide, .inl T.v_Missing.m⟩) (rel_one' (rel_of (T.r_Missing _ T.v_Missing.m))) (fun a oe cls d pn hz hf => as_pair nd (i := 1) (j := 2) rfl rfl (by first | exact Or.inl rfl | exact Or.inr rfl) (by first | exact Or.inl rfl | exact Or.inr (Or.inl rfl) | exact Or.inr (Or.inr rfl)) hz hf (by first | exact .inl rfl | exact .inr rfl)) (vx_as T.v_Missing (by decide +kernel)) (dhx_cons (test_one ⟨rfl, by decide, .inl e_NotTogether.g⟩) (rel_one' (rel_of (T.r_NotTogether _ e_NotTogether.g))) (fun _ _ _ _ _ _ _ => (dss_one (ds_set (i := 1) nd rfl (by first | exact Or.inl rfl | exact Or.inr rfl) de_str))) dhx_nil)))
  (dss_one (ds_ret (de_var 1)))))))
theorem ok_l_mixed_up (T : Txt K mg a_mixed d_mixed a_number_bytes d_number_bytes a_fixed_bytes d_fixed_bytes a_check_on d_check_on a_check_of d_check_of a_volume_of d_volume_of a_shared d_shared a_l_d d_l_d a_l_few d_l_few a_l_same d_l_same a_l_cell d_l_cell a_how_many d_how_many a_read_number d_read_number a_read_fixed d_read_fixed a_body_long d_body_long a_read_volume d_read_volume a_joined d_joined a_l_told d_l_told a_l_mixed_up d_l_mixed_up a_law d_law C_Missing aI_Missing dI_Missing) : FnOk P w K mg base (CXh hotS mg P w) 1 a_l_mixed_up d_l_mixed_up ["_law_volumes", "_law_cells"] (spD K mg f_l_mixed_up) := by
  exact dfn T.F_l_mixed_up sc_l_mixed_up (fun cdv A outer s H E c hr tk hp hw => (have nd := sc_l_mixed_up.nd; (dss_cons (ds_set (i := 2) nd rfl (by first | exact Or.inl rfl | exact Or.inr rfl) (de_tup da_nil))
  (dss_cons (ds_forW [0, 3, 4, 5] hp rfl (di_enumA rfl T.n_enumerate (da_cons (de_var 0) da_nil)) (dg_tup rfl (dgs_cons (dg_name nd (i := 3) rfl (by first | exact Or.inl rfl | exact Or.inr rfl)) (dgs_cons (dg_name nd (i := 4) rfl (by first | exact Or.inl rfl | exact Or.inr rfl)) dgs_nil))) (dss_wp [3, 4, 5] [] [0, 1, 2, 3, 4, 5] (dss_cons (ds_set (i := 5) nd rfl (by first | exact Or.inl rfl | exact Or.inr rfl) de_int)
  (dss_cons (ds_if (dt_truth (de_var 1)) (dss_one (ds_set (i := 5) nd rfl (by first | exact Or.inl rfl | exact Or.inr rfl) (de_op op_mod os_mod (de_op op_fdiv os_div (de_ix ix_seq os_ix (de_var 1) (de_op op_mod os_mod (de_var 3) (de_callB call_len cs_len rfl T.n_len (by decide +kernel) (da_cons (de_var 1) da_nil)))) (de_op or_add os_add (de_var 3) de_int)) (de_op or_add os_add (de_callB call_len cs_len rfl T.n_len (by decide +kernel) (da_cons (de_var 2) da_nil)) de_int)))) dss_nil)
  (dss_cons (ds_set (i := 2) nd rfl (by first | exact Or.inl rfl | exact Or.inr rfl) (de_op or_add os_add (de_op or_add os_add (de_slice or_sl os_sl (de_var 2) dp_none (dp_some (de_var 5))) (de_tup (da_cons (de_var 4) da_nil))) (de_slice or_sl os_sl (de_var 2) (dp_some (de_var 5)) dp_none)))
  (dss_one (ds_if (dt_w (dw_and (dt_cmp (or_eq hr.units) os_eq (de_op op_mod os_mod (de_var 3) de_int) de_int) (dw_and1 (dt_cmp (or_eq hr.units) os_eq (de_op op_mod os_mod (de_var 5) de_int) de_int)))) (dss_one (ds_set (i := 2) nd rfl (by first | exact Or.inl rfl | exact Or.inr rfl) (de_op or_add os_add (de_var 2) (de_tup (da_cons (de_var 4) da_nil))))) dss_nil)))))))
  (dss_one (ds_ret (de_var 2)))))))
theorem ok_law (T : Txt K mg a_mixed d_mixed a_number_bytes d_number_bytes a_fixed_bytes d_fixed_bytes a_check_on d_check_on a_check_of d_check_of a_volume_of d_volume_of a_shared d_shared a_l_d d_l_d a_l_few d_l_few a_l_same d_l_same a_l_cell d_l_cell a_how_many d_how_many a_read_number d_read_number a_read_fixed d_read_fixed a_body_long d_body_long a_read_volume d_read_volume a_joined d_joined a_l_told d_l_told a_l_mixed_up d_l_mixed_up a_law d_law C_Missing aI_Missing dI_Missing) (G_l_few : FnOk P w K mg base (CXh hotS mg P w) 2 a_l_few d_l_few ["_law_script", "_law_begin", "_law_end"] (spD K mg f_l_few)) (G_l_cell : FnOk P w K mg base (CXh hotS mg P w) 1 a_l_cell d_l_cell ["_law_script", "_law_k"] (spD K mg f_l_cell)) (G_shared : FnOk P w K mg base (CXh hotS mg P w) 4 a_shared d_shared ["some", "most"] (spD K mg f_shared)) (G_l_d : FnOk P w K mg base (CXh hotS mg P w) 1 a_l_d d_l_d ["_law_cell_here", "_law_place", "_law_many"] (spD K mg f_l_d)) (G_l_mixed_up : FnOk P w K mg base (CXh hotS mg P w) 1 a_l_mixed_up d_l_mixed_up ["_law_volumes", "_law_cells"] (spD K mg f_l_mixed_up)) (G_l_told : FnOk P w K mg base (CXh hotS mg P w) 5 a_l_told d_l_told ["_law_volumes"] (spD K mg f_l_told)) (G_l_same : FnOk P w K mg base (CXh hotS mg P w) 12 a_l_same d_l_same ["_law_told_here", "_law_due"] (spD K mg (f_l_same 12))) : FnOk P w K mg base (CXh hotS mg P w) 13 a_law d_law ["_law_script"] (spD K mg f_law) := by
  exact dfn T.F_law sc_law (fun cdv A outer s H E c hr tk hp hw => (have nd := sc_law.nd; (dss_cons (ds_set (i := 1) nd rfl (by first | exact Or.inl rfl | exact Or.inr rfl) (de_op or_add os_add (de_call G_l_few (hr.mono (by decide)) rfl T.m_l_few T.k_l_few T.b_l_few tk (da_cons (de_var 0) (da_cons de_int (da_cons de_int da_nil)))) (de_tup (da_cons (de_op op_mod os_mod (de_op op_fdiv os_div (de_call G_l_cell (hr.mono (by decide)) rfl T.m_l_cell T.k_l_cell T.b_l_cell tk (da_cons (de_var 0) (da_cons de_int da_nil))) de_int) de_int) da_nil))))
  (dss_cons (ds_set (i := 2) nd rfl (by first | exact Or.inl rfl | exact Or.inr rfl) (de_callB (cr_maxA rfl) cs_maxA rfl T.n_max (by decide +kernel) (da_cons (de_op op_fdiv os_div (de_callB call_len cs_len rfl T.n_len (by decide +kernel) (da_cons (de_var 1) da_nil)) (de_op or_add os_add (de_op op_mod os_mod (de_call G_l_cell (hr.mono (by decide)) rfl T.m_l_cell T.k_l_cell T.b_l_cell tk (da_cons (de_var 0) (da_cons de_int da_nil))) de_int) de_int)) (da_cons de_int da_nil))))
  (dss_cons (ds_set (i := 3) nd rfl (by first | exact Or.inl rfl | exact Or.inr rfl) (de_call G_shared (hr.mono (by decide)) rfl T.m_shared T.k_shared T.b_shared tk (da_cons (de_var 1) (da_cons (de_var 2) da_nil))))
  (dss_cons (ds_set (i := 4) nd rfl (by first | exact Or.inl rfl | exact Or.inr rfl) (de_op op_sub os_sub (de_callB call_len cs_len rfl T.n_len (by decide +kernel) (da_cons (de_var 3) da_nil)) de_int))
  (dss_cons (ds_set (i := 5) nd rfl (by first | exact Or.inl rfl | exact Or.inr rfl) (de_op or_add os_add (de_lst (da_cons (de_tup da_nil) da_nil)) (de_lc rfl nd (di_range1 rfl T.n_range (da_cons (de_callB call_len cs_len rfl T.n_len (by decide +kernel) (da_cons (de_var 3) da_nil)) da_nil)) (blkOk_by (own := [("_law_k", 10)]) (N := nn_law) (sc := defScope s_law) (by decide +kernel)) (by decide) (fun _ _ _ _ _ => (dg_name nd (i := 10) rfl (by first | exact Or.inl rfl | exact Or.inr rfl))) (fun _ _ _ _ _ => dts_nil) (fun _ _ _ _ _ => (de_tup (da_cons (de_var 10) da_nil))))))
  (dss_cons (ds_set (i := 5) nd rfl (by first | exact Or.inl rfl | exact Or.inr rfl) (de_op or_add os_add (de_var 5) (de_lc rfl nd (di_enumA rfl T.n_enumerate (da_cons (de_slice or_sl os_sl (de_var 0) (dp_some de_int) (dp_some (de_op or_add os_add de_int (de_callB call_len cs_len rfl T.n_len (by decide +kernel) (da_cons (de_var 3) da_nil))))) da_nil)) (blkOk_by (own := [("_law_k", 10), ("_law_cell_here", 11)]) (N := nn_law) (sc := defScope s_law) (by decide +kernel)) (by decide) (fun _ _ _ _ _ => (dg_tup rfl (dgs_cons (dg_name nd (i := 10) rfl (by first | exact Or.inl rfl | exact Or.inr rfl)) (dgs_cons (dg_name nd (i := 11) rfl (by first | exact Or.inl rfl | exact Or.inr rfl)) dgs_nil)))) (fun _ _ _ _ _ => dts_nil) (fun _ _ _ _ _ => (de_tup (da_cons (de_var 10) (da_cons (de_call G_l_d (hr.mono (by decide)) rfl T.m_l_d T.k_l_d T.b_l_d takesH_none (da_cons (de_var 11) (da_cons de_int (da_cons (de_callB call_len cs_len rfl T.n_len (by decide +kernel) (da_cons (de_var 3) da_nil)) da_nil)))) da_nil)))))))
  (dss_cons (ds_set (i := 5) nd rfl (by first | exact Or.inl rfl | exact Or.inr rfl) (de_op or_add os_add (de_var 5) (de_lc rfl nd (di_seq (de_slice or_sl os_sl (de_var 0) (dp_some de_int) (dp_some de_int))) (blkOk_by (own := [("_law_cell_here", 11)]) (N := nn_law) (sc := defScope s_law) (by decide +kernel)) (by decide) (fun _ _ _ _ _ => (dg_name nd (i := 11) rfl (by first | exact Or.inl rfl | exact Or.inr rfl))) (fun _ _ _ _ _ => dts_nil) (fun _ _ _ _ _ => (de_slice or_sl os_sl (de_tupRg rfl rfl T.n_tuple rfl T.n_range (de_callB call_len cs_len rfl T.n_len (by decide +kernel) (da_cons (de_var 3) da_nil))) (dp_some (de_call G_l_d (hr.mono (by decide)) rfl T.m_l_d T.k_l_d T.b_l_d takesH_none (da_cons (de_var 11) (da_cons de_int (da_cons (de_callB call_len cs_len rfl T.n_len (by decide +kernel) (da_cons (de_var 3) da_nil)) da_nil))))) dp_none)))))
  (dss_cons (ds_forW [2, 5, 6, 7, 8, 9] hp rfl (di_seq (de_var 5)) (dg_name nd (i := 6) rfl (by first | exact Or.inl rfl | exact Or.inr rfl)) (dss_wp [6, 7, 8, 9] [] [0, 1, 2, 3, 4, 5, 6, 7, 8, 9] (dss_cons (ds_setLc (i := 7) rfl nd rfl rfl (sw_true rfl rfl rfl (by decide +kernel)) (di_enumA rfl T.n_enumerate (da_cons (de_var 3) da_nil)) (blkOk_by (own := [("_law_k", 10), ("_law_volume", 12)]) (N := nn_law) (sc := defScope s_law) (by decide +kernel)) (by decide) (fun _ _ _ _ _ => (dg_tup rfl (dgs_cons (dg_name nd (i := 10) rfl (by first | exact Or.inl rfl | exact Or.inr rfl)) (dgs_cons (dg_name nd (i := 12) rfl (by first | exact Or.inl rfl | exact Or.inr rfl)) dgs_nil)))) (fun _ _ _ _ _ => (dts_one (dt_cmp (or_notin (u65 hr)) os_notin (de_var 10) (de_var 6)))) (fun _ _ _ _ _ => (de_var 12)))
  (dss_cons (ds_setLc (i := 8) rfl nd rfl rfl (sw_true rfl rfl rfl (by decide +kernel)) (di_range1 rfl T.n_range (da_cons (de_var 4) da_nil)) (blkOk_by (own := [("_law_k", 10)]) (N := nn_law) (sc := defScope s_law) (by decide +kernel)) (by decide) (fun _ _ _ _ _ => (dg_name nd (i := 10) rfl (by first | exact Or.inl rfl | exact Or.inr rfl))) (fun _ _ _ _ _ => (dts_one (dt_cmp (or_in (u65 hr)) os_in (de_var 10) (de_var 6)))) (fun _ _ _ _ _ => (de_var 10)))
  (dss_cons (ds_set (i := 9) nd rfl (by first | exact Or.inl rfl | exact Or.inr rfl) (de_tup (da_cons (de_var 1) da_nil)))
  (dss_cons (ds_if (dt_w (dw_or (dt_cmp op_gt os_gt (de_callB call_len cs_len rfl T.n_len (by decide +kernel) (da_cons (de_var 8) da_nil)) de_int) (dw_or1 (dt_w (dw_and (dt_truth (de_var 8)) (dw_and1 (dt_cmp (or_in (u65 hr)) os_in (de_var 4) (de_var 6)))))))) (dss_one (ds_set (i := 9) nd rfl (by first | exact Or.inl rfl | exact Or.inr rfl) (de_tup (da_cons de_str (da_cons (de_callTy call_tuple_of cs_tuple rfl T.n_tuple (by decide +kernel) (da_cons (de_var 8) da_nil)) da_nil))))) dss_nil)
  (dss_one (ds_if (dt_w (dw_and (dt_truth (de_var 7)) (dw_and1 (dt_not (dt_truth (de_call G_l_same (hr.mono (by decide)) rfl T.m_l_same T.k_l_same T.b_l_same tk (da_cons (de_call G_l_told (hr.mono (by decide)) rfl T.m_l_told T.k_l_told T.b_l_told tk (da_cons (de_call G_l_mixed_up (hr.mono (by decide)) rfl T.m_l_mixed_up T.k_l_mixed_up T.b_l_mixed_up tk (da_cons (de_var 7) (da_cons (de_slice or_sl os_sl (de_var 0) (dp_some de_int) (dp_some de_int)) da_nil))) da_nil)) (da_cons (de_var 9) da_nil)))))))) (dss_one (ds_ret de_bl)) dss_nil))))))))
  (dss_one (ds_ret de_bl))))))))))))
theorem ok_all (T : Txt K mg a_mixed d_mixed a_number_bytes d_number_bytes a_fixed_bytes d_fixed_bytes a_check_on d_check_on a_check_of d_check_of a_volume_of d_volume_of a_shared d_shared a_l_d d_l_d a_l_few d_l_few a_l_same d_l_same a_l_cell d_l_cell a_how_many d_how_many a_read_number d_read_number a_read_fixed d_read_fixed a_body_long d_body_long a_read_volume d_read_volume a_joined d_joined a_l_told d_l_told a_l_mixed_up d_l_mixed_up a_law d_law C_Missing aI_Missing dI_Missing) : FnOk P w K mg base (CXh hotS mg P w) 13 a_law d_law ["_law_script"] (spD K mg f_law) := by
  have G_mixed := ok_mixed (P := P) (w := w) (base := base) T
  have G_number_bytes := ok_number_bytes (P := P) (w := w) (base := base) T
  have G_fixed_bytes := ok_fixed_bytes (P := P) (w := w) (base := base) T
  have G_check_on := ok_check_on (P := P) (w := w) (base := base) T
  have G_check_of := ok_check_of (P := P) (w := w) (base := base) T G_check_on
  have G_volume_of := ok_volume_of (P := P) (w := w) (base := base) T G_number_bytes G_check_of G_fixed_bytes
  have G_shared := ok_shared (P := P) (w := w) (base := base) T G_mixed G_volume_of
  have G_l_d := ok_l_d (P := P) (w := w) (base := base) T
  have G_l_few := ok_l_few (P := P) (w := w) (base := base) T G_l_d
  have G_l_same := ok_l_same (P := P) (w := w) (base := base) T 12
  have G_l_cell := ok_l_cell (P := P) (w := w) (base := base) T
  have G_how_many := ok_how_many (P := P) (w := w) (base := base) T
  have G_read_number := ok_read_number (P := P) (w := w) (base := base) T
  have G_read_fixed := ok_read_fixed (P := P) (w := w) (base := base) T
  have G_body_long := ok_body_long (P := P) (w := w) (base := base) T G_how_many
  have G_read_volume := ok_read_volume (P := P) (w := w) (base := base) T G_read_number G_read_fixed G_check_of G_how_many G_body_long
  have G_joined := ok_joined (P := P) (w := w) (base := base) T G_read_volume G_how_many G_mixed G_body_long G_check_of
  have G_l_told := ok_l_told (P := P) (w := w) (base := base) T G_joined
  have G_l_mixed_up := ok_l_mixed_up (P := P) (w := w) (base := base) T
  have G_law := ok_law (P := P) (w := w) (base := base) T G_l_few G_l_cell G_shared G_l_d G_l_mixed_up G_l_told G_l_same
  exact G_law
end
end G

namespace G
open PySem PySem.Spec PyProof.Rows L2 D2
theorem same_ok : ∀ (n : Nat) (d : PyData), okD n d = true → f_l_same n [d, d] = .ok (.bool true)
  | 0, _, h => by simp [okD] at h
  | n + 1, d, h => by
    cases d with
    | none => simp [f_l_same, runB_eq, b_l_same_ap, isNone]
    | bool b => simp [f_l_same, runB_eq, b_l_same_ap, isNone, isTy, tyN, opEq]
    | int i => simp [f_l_same, runB_eq, b_l_same_ap, isNone, isTy, tyN]
    | str z => simp [f_l_same, runB_eq, b_l_same_ap, isNone, isTy, tyN]
    | list xs => simp [okD] at h
    | dict xs => simp [okD] at h
    | tuple xs =>
      simp [okD] at h
      have e := cLoop_map (k := gTp 2 (gsCons (gNm 2) (gsCons (gNm 3) gsNil))) (t := t_l_same_1 (f_l_same n)) (f := e_l_same_1 (f_l_same n)) (ρ := [some (.d (.tuple xs)), some (.d (.tuple xs)), none, none]) (e := fun x => .tuple [x, x]) (r := fun _ => .bool true) (xs := xs) fun x hx =>
        ⟨_, rfl, rfl, by simp [e_l_same_1_ap, same_ok n x (h.2 x hx)]⟩
      rw [← zip_self] at e
      have hz : (zipD xs xs).length ≤ 16777216 := by simp [zipD, h.1]
      have e2 : xs.map (fun _ => PyData.bool true) = (xs.map fun _ => true).map PyData.bool := by simp
      rw [e2] at e
      simp [f_l_same, runB_eq, b_l_same_ap, isNone, isTy, tyN, zips, hz]
      simp at e
      simp [e]
      have := fAll_map (xs.map fun _ => true)
      simp at this
      simp [this]
/-- the draw -/
def dV (c p m : Int) : Int := ((c + 104729 * p) % 4294967291 * ((c + 104729 * p) % 4294967291) % 4294967279 * 48271 % 4294967291) / 64 % m
theorem dV_lt {c p m : Int} (h : 0 < m) : 0 ≤ dV c p m ∧ dV c p m < m := ⟨Int.emod_nonneg _ (by omega), Int.emod_lt_of_pos _ h⟩
theorem d_eq {c p m : Int} (hm : 0 < m) : f_l_d [.int c, .int p, .int m] = .ok (.int (dV c p m)) := by
  have h1 : mulOk 104729 p := mulOk_l (by omega) (by omega)
  have h2 : mulOk ((c + 104729 * p) % 4294967291) ((c + 104729 * p) % 4294967291) := mulOk_l (by omega) (by omega)
  have h3 : mulOk ((c + 104729 * p) % 4294967291 * ((c + 104729 * p) % 4294967291) % 4294967279) 48271 := mulOk_r (by omega) (by omega)
  simp [f_l_d, runB_eq, b_l_d_ap, h1, h2, h3, hm, dV]
/-! number_bytes -/
/-- parts by 128 -/
def nb (n : Nat) : List Int := if h : n > 127 then ((n % 128 + 128 : Nat) : Int) :: nb (n / 128) else [(n : Int)]
termination_by n
decreasing_by omega
theorem nb_big {n : Nat} (h : n > 127) : nb n = ((n % 128 + 128 : Nat) : Int) :: nb (n / 128) := by rw [nb, dif_pos h]
theorem nb_small {n : Nat} (h : ¬ n > 127) : nb n = [(n : Int)] := by rw [nb, dif_neg h]
theorem nb_len : ∀ (k n : Nat), n < 128 ^ (k + 1) → (nb n).length ≤ k + 1
  | 0, n, h => by rw [nb_small (by omega)]; exact Nat.le_refl _
  | k + 1, n, h => by
    by_cases c : n > 127
    · rw [nb_big c, List.length_cons]
      have := nb_len k (n / 128) (by rw [Nat.div_lt_iff_lt_mul (by decide)]; rw [Nat.pow_succ] at h; exact h)
      omega
    · rw [nb_small c]; simp
theorem run_number : ∀ (n : Nat) (fuel : Nat) (found : List Int), (nb n).length ≤ fuel → found.length + (nb n).length ≤ 16777216 →
    ∃ i l, nb n = i ++ [(l : Int)] ∧ wLoop t_number_bytes_1 w_number_bytes_1 fuel [some (.d (.int n)), some (.d (tN found))] = .nx [some (.d (.int l)), some (.d (tN (found ++ i)))] := by
  intro n
  induction n using Nat.strongRecOn with
  | ind n ih =>
    intro fuel found hf hl
    cases fuel with
    | zero => exfalso; by_cases c : n > 127 <;> simp [nb_big, nb_small, c] at hf
    | succ fuel =>
      rw [wLoop_succ]
      by_cases c : n > 127
      · have c' : (127 : Int) < (n : Int) := by omega
        rw [nb_big c] at hf hl ⊢
        simp only [List.length_cons] at hf hl
        obtain ⟨i, l, e, r⟩ := ih (n / 128) (by omega) fuel (found ++ [((n % 128 + 128 : Nat) : Int)]) (by omega) (by simp; omega)
        refine ⟨((n % 128 + 128 : Nat) : Int) :: i, l, by rw [e]; rfl, ?_⟩
        have h1 : found.length + 1 ≤ 16777216 := by omega
        simp [c', h1, t_number_bytes_1_ap, w_number_bytes_1_ap]
        simp [tN, t_number_bytes_1_ap, w_number_bytes_1_ap] at r
        rw [r]
        simp [tN]
      · have c' : ¬ (127 : Int) < (n : Int) := by omega
        refine ⟨[], n, by rw [nb_small c]; rfl, ?_⟩
        simp [c', t_number_bytes_1_ap]
theorem number_bytes_eq {n : Nat} (h : n < 128 ^ 8) : f_number_bytes [.int n] = .ok (tN (nb n)) := by
  have hl := nb_len 7 n h
  obtain ⟨i, l, e, r⟩ := run_number n bigF [] (Nat.le_trans hl (by decide)) (by simp; omega)
  have hi : i.length ≤ 8 := by rw [e] at hl; simp at hl; omega
  have h2 : i.length + 1 ≤ 16777216 := by omega
  simp [tN] at r
  simp [f_number_bytes, runB_eq, b_number_bytes_ap, r, e, h2]
/-! read_number -/
def rdN (bs : List Int) (p : Nat) : Nat → Nat → Int → Int → Rs (Int × Nat)
  | 0, _, _, _ => .er (.plain "BadForm")
  | f + 1, k, n, u => match bs[p + k]? with
    | none => .er (.plain "Cut")
    | some one => if one = 0 ∧ 0 < k then .er (.plain "BadForm") else if one < 128 then .ok (n + one % 128 * u, p + k + 1) else rdN bs p f (k + 1) (n + one % 128 * u) (u * 128)
def rsP : Rs (Int × Nat) → Rs PyData
  | .ok (a, b) => .ok (.tuple [.int a, .int b])
  | .er x => .er x
  | .no => .no
theorem read_loop (bs : List Int) (p : Nat) : ∀ (f k : Nat) (n u : Int) (o4 o5 : Option B),
    ((fLoop g_read_number_1 w_read_number_1 (rgD k f) [some (.d (tN bs)), some (.d (.int p)), some (.d (.int n)), some (.d (.int u)), o4, o5]).thn (sRaise "BadForm")).val = rsP (rdN bs p f k n u)
  | 0, k, n, u, o4, o5 => by simp [rdN, rsP]
  | f + 1, k, n, u, o4, o5 => by
    rw [rgD_succ, fLoop_cons]
    have ih := read_loop bs p f (k + 1)
    simp only [Int.natCast_add, Int.cast_ofNat_Int] at ih
    by_cases hk : p + k < bs.length
    · have c1 : ¬ (bs.length : Int) ≤ (p : Int) + (k : Int) := by omega
      have e1 : atI (bs.map PyData.int) ((p : Int) + (k : Int)) = some (.int bs[p + k]) := by
        rw [atI_map, atI_of (j := p + k) (by omega) hk]
        rfl
      have e2 : bs[p + k]? = some bs[p + k] := List.getElem?_eq_getElem hk
      have m1 : mulOk (bs[p + k] % 128) u := mulOk_l (by omega) (by omega)
      have m2 : mulOk u 128 := mulOk_r (by omega) (by omega)
      by_cases c2 : bs[p + k] = 0 ∧ 0 < k
      · obtain ⟨c2, c3⟩ := c2
        have c3' : (0 : Int) < (k : Int) := by omega
        simp [g_read_number_1_ap, w_read_number_1_ap, c1, e1, rdN, e2, c2, c3, c3', rsP]
      · by_cases c4 : bs[p + k] < 128
        · have c5 : ((decide (bs[p + k] = 0)) && decide ((0 : Int) < (k : Int))) = false := by
            simp only [Bool.and_eq_false_iff, decide_eq_false_iff_not]
            omega
          by_cases c6 : bs[p + k] = 0
          · have c7 : k = 0 := by omega
            subst c7
            have k1 : ¬ bs.length ≤ p := by omega
            have k0 : p < bs.length := by omega
            have c8 : bs[p] = 0 := c6
            have k2 : atI (bs.map PyData.int) (p : Int) = some (.int 0) := by
              rw [atI_map, atI_of (j := p) rfl k0, c8]
              rfl
            have k3 : bs[p]? = some 0 := by rw [List.getElem?_eq_getElem k0, c8]
            simp [g_read_number_1_ap, w_read_number_1_ap, rdN, rsP, k1, k2, k3, mulOk]
          · simp [g_read_number_1_ap, w_read_number_1_ap, c1, e1, rdN, e2, c4, c6, m1, rsP]
        · have c6 : ¬ bs[p + k] = 0 := by omega
          have := ih (n + bs[p + k] % 128 * u) (u * 128) (some (.d (.int k))) (some (.d (.int bs[p + k])))
          simp [g_read_number_1_ap, w_read_number_1_ap, c1, e1, rdN, e2, c4, c6, m1, m2]
          exact this
    · have c1 : (bs.length : Int) ≤ (p : Int) + (k : Int) := by omega
      have e2 : bs[p + k]? = none := List.getElem?_eq_none (by omega)
      simp [g_read_number_1_ap, w_read_number_1_ap, c1, rdN, e2, rsP]
theorem read_number_eq (bs : List Int) (p : Nat) : f_read_number [tN bs, .int p] = rsP (rdN bs p 6 0 0 1) := by
  have := read_loop bs p 6 0 0 1 none none
  rw [← this]
  simp [f_read_number, runB_eq, b_read_number_ap]
theorem rdN_nb : ∀ (m : Nat) (a c : List Int) (p f k : Nat) (n u : Int), a.length = p + k → (nb m).length ≤ f → (0 < k → 0 < m) → rdN (a ++ nb m ++ c) p f k n u = .ok (n + m * u, p + k + (nb m).length) := by
  intro m
  induction m using Nat.strongRecOn with
  | ind m ih =>
    intro a c p f k n u ha hf hk
    cases f with
    | zero => exfalso; by_cases c : m > 127 <;> simp [nb_big, nb_small, c] at hf
    | succ f =>
      by_cases c1 : m > 127
      · rw [nb_big c1] at hf ⊢
        simp only [List.length_cons] at hf
        have e1 : (a ++ (((m % 128 + 128 : Nat) : Int) :: nb (m / 128)) ++ c)[p + k]? = some ((m % 128 + 128 : Nat) : Int) := by
          rw [List.append_assoc, List.getElem?_append_right (by omega), ha]
          simp
        unfold rdN
        rw [e1]
        have h0 : ¬ (((m % 128 + 128 : Nat) : Int) = 0 ∧ 0 < k) := by omega
        have h1 : ¬ ((m % 128 + 128 : Nat) : Int) < 128 := by omega
        dsimp only
        rw [if_neg h0, if_neg h1]
        have := ih (m / 128) (by omega) (a ++ [((m % 128 + 128 : Nat) : Int)]) c p f (k + 1) (n + ((m % 128 + 128 : Nat) : Int) % 128 * u) (u * 128) (by simp; omega) (by omega) (by omega)
        simp only [List.append_assoc, List.cons_append, List.nil_append] at this ⊢
        rw [this]
        congr 2
        · have e2 : ((m % 128 + 128 : Nat) : Int) % 128 = (m : Int) % 128 := by omega
          rw [e2]
          have e3 : (m : Int) * u = ((m : Int) % 128 + 128 * ((m : Int) / 128)) * u := by rw [Int.emod_add_mul_ediv]
          rw [e3, Int.add_mul, Int.mul_comm u 128, ← Int.mul_assoc, Int.natCast_ediv, Int.mul_comm 128 ((m : Int) / 128)]
          simp only [Int.cast_ofNat_Int]
          omega
        · simp only [List.length_cons]
          omega
      · rw [nb_small c1] at hf ⊢
        have e1 : (a ++ [(m : Int)] ++ c)[p + k]? = some (m : Int) := by
          rw [List.append_assoc, List.getElem?_append_right (by omega), ha]
          simp
        unfold rdN
        rw [e1]
        have h0 : ¬ ((m : Int) = 0 ∧ 0 < k) := by omega
        have h1 : (m : Int) < 128 := by omega
        dsimp only
        rw [if_neg h0, if_pos h1]
        have e2 : (m : Int) % 128 = m := by omega
        rw [e2]
        rfl
/-! fixed_bytes, read_fixed -/
def fx : Int → Nat → List Int → List Int
  | _, 0, acc => acc
  | n, k + 1, acc => fx (n / 256) k (n % 256 :: acc)
theorem fx_len : ∀ (k : Nat) (n : Int) (acc : List Int), (fx n k acc).length = k + acc.length
  | 0, _, _ => by simp [fx]
  | k + 1, n, acc => by rw [fx, fx_len k]; simp; omega
theorem fixed_loop : ∀ (k fuel : Nat) (n : Int) (acc : List Int) (many : Nat), k < fuel → acc.length + k = many → many ≤ 16777216 →
    ∃ n', wLoop t_fixed_bytes_1 w_fixed_bytes_1 fuel [some (.d (.int n)), some (.d (.int many)), some (.d (tN acc))] = .nx [some (.d (.int n')), some (.d (.int many)), some (.d (tN (fx n k acc)))]
  | 0, 0, _, _, _, h, _, _ => by omega
  | 0, fuel + 1, n, acc, many, _, h, _ => by
    refine ⟨n, ?_⟩
    have c : ¬ acc.length < many := by omega
    rw [wLoop_succ]
    simp [t_fixed_bytes_1_ap, c, fx]
  | k + 1, 0, _, _, _, h, _, _ => by omega
  | k + 1, fuel + 1, n, acc, many, hf, h, hm => by
    have c : acc.length < many := by omega
    have c2 : 1 + acc.length ≤ 16777216 := by omega
    obtain ⟨n', e⟩ := fixed_loop k fuel (n / 256) (n % 256 :: acc) many (by omega) (by simp; omega) hm
    refine ⟨n', ?_⟩
    rw [wLoop_succ]
    simp [t_fixed_bytes_1_ap, w_fixed_bytes_1_ap, c, fx, c2]
    exact e
theorem fixed_bytes_eq (n : Int) (many : Nat) (h : many ≤ 1000) : f_fixed_bytes [.int n, .int many] = .ok (tN (fx n many [])) := by
  obtain ⟨n', e⟩ := fixed_loop many bigF n [] many (by unfold bigF; omega) (by simp) (by omega)
  simp [tN] at e
  simp [f_fixed_bytes, runB_eq, b_fixed_bytes_ap, e]
/-- what bytes are worth, the highest first -/
def val (s : Int) (bs : List Int) : Int := bs.foldl (fun n one => n * 256 + one) s
theorem val_fx : ∀ (k : Nat) (s n : Int) (acc : List Int), 0 ≤ n → n < 256 ^ k → val s (fx n k acc) = val (s * 256 ^ k + n) acc
  | 0, s, n, acc, h0, h => by
    have : n = 0 := by simp at h; omega
    subst this
    simp [fx]
  | k + 1, s, n, acc, h0, h => by
    have h2 : n / 256 < 256 ^ k := Int.ediv_lt_of_lt_mul (by omega) (by rw [Int.pow_succ] at h; exact h)
    rw [fx, val_fx k s (n / 256) (n % 256 :: acc) (by omega) h2]
    show val ((s * 256 ^ k + n / 256) * 256 + n % 256) acc = _
    congr 1
    rw [Int.add_mul, Int.pow_succ, ← Int.mul_assoc]
    omega
theorem rfixed_loop : ∀ (bs : List Int) (n : Int) (o0 o1 o2 o4 : Option B), ∃ o4', fLoop g_read_fixed_1 w_read_fixed_1 (bs.map PyData.int) [o0, o1, o2, some (.d (.int n)), o4] = .nx [o0, o1, o2, some (.d (.int (val n bs))), o4']
  | [], n, o0, o1, o2, o4 => ⟨o4, by simp [val]⟩
  | b :: bs, n, o0, o1, o2, o4 => by
    obtain ⟨o4', e⟩ := rfixed_loop bs (n * 256 + b) o0 o1 o2 (some (.d (.int b)))
    have m : mulOk n 256 := mulOk_r (by omega) (by omega)
    refine ⟨o4', ?_⟩
    rw [List.map_cons, fLoop_cons]
    simp [g_read_fixed_1_ap, w_read_fixed_1_ap, m]
    exact e
theorem read_fixed_eq (bs : List Int) (p many : Nat) : f_read_fixed [tN bs, .int p, .int many] = if bs.length < p + many then .er (.plain "Cut") else .ok (.tuple [.int (val 0 ((bs.drop p).take many)), .int ((p + many : Nat) : Int)]) := by
  obtain ⟨o, e⟩ := rfixed_loop ((bs.drop p).take many) 0 (some (.d (tN bs))) (some (.d (.int p))) (some (.d (.int many))) none
  have e2 : cutD (bs.map PyData.int) (some (p : Int)) (some ((p : Int) + (many : Int))) = ((bs.drop p).take many).map PyData.int := by
    rw [cutD_map]
    have := cutD_nat bs p (p + many) (by omega)
    rw [Int.natCast_add] at this
    rw [this]
    congr 2
    omega
  by_cases c : bs.length < p + many
  · have c' : (bs.length : Int) < (p : Int) + (many : Int) := by omega
    simp [f_read_fixed, runB_eq, b_read_fixed_ap, c, c']
  · have c' : ¬ (bs.length : Int) < (p : Int) + (many : Int) := by omega
    simp [tN] at e
    simp [f_read_fixed, runB_eq, b_read_fixed_ap, c, c', e2, e]
/-! checks -/
/-- one bit -/
def stp (m : Nat) (b : Bool) : Nat := if b = decide (32768 ≤ m) then m * 2 % 65536 else (m * 2 % 65536) ^^^ 4129
def stps (m : Nat) (bs : List Bool) : Nat := bs.foldl stp m
theorem xor_lt16 {a b : Nat} (ha : a < 65536) (hb : b < 65536) : a ^^^ b < 65536 := Nat.xor_lt_two_pow (n := 16) ha hb
theorem stp_lt (m : Nat) (b : Bool) : stp m b < 65536 := by
  unfold stp
  split
  · omega
  · exact xor_lt16 (by omega) (by decide)
theorem stps_lt : ∀ (bs : List Bool) (m : Nat), m < 65536 → stps m bs < 65536
  | [], m, h => h
  | b :: bs, m, _ => stps_lt bs (stp m b) (stp_lt m b)
/-- whether the bits were turned -/
def tn (m : Nat) (b : Bool) : Bool := b != decide (32768 ≤ m)
theorem stp_tn (m : Nat) (b : Bool) : stp m b = (m * 2 % 65536) ^^^ (if tn m b = true then 4129 else 0) := by
  unfold stp tn
  cases b <;> cases decide (32768 ≤ m) <;> simp
theorem stp_odd (m : Nat) (b : Bool) : stp m b % 2 = if tn m b = true then 1 else 0 := by
  rw [stp_tn]
  have h := Nat.xor_mod_two_pow (a := m * 2 % 65536) (b := if tn m b = true then 4129 else 0) (n := 1)
  rw [Nat.pow_one] at h
  rw [h]
  have e : m * 2 % 65536 % 2 = 0 := by omega
  rw [e]
  cases tn m b <;> decide
/-- what the low bits behind tell of those ahead -/
theorem stp_back {m m' : Nat} {b b' : Bool} {k : Nat} (hk : k < 16) (h : stp m b % 2 ^ (k + 1) = stp m' b' % 2 ^ (k + 1)) : m % 2 ^ k = m' % 2 ^ k ∧ tn m b = tn m' b' := by
  have h1 : stp m b % 2 = stp m' b' % 2 := by
    have q := congrArg (· % 2) h
    rw [Nat.mod_mod_of_dvd _ (Nat.dvd_of_pow_dvd (Nat.le_add_left 1 k) (Nat.dvd_refl _)), Nat.mod_mod_of_dvd _ (Nat.dvd_of_pow_dvd (Nat.le_add_left 1 k) (Nat.dvd_refl _))] at q
    exact q
  have ht : tn m b = tn m' b' := by
    rw [stp_odd, stp_odd] at h1
    cases hx : tn m b <;> cases hy : tn m' b' <;> simp [hx, hy] at h1 ⊢
  refine ⟨?_, ht⟩
  rw [stp_tn, stp_tn, ht, Nat.xor_mod_two_pow, Nat.xor_mod_two_pow] at h
  have h2 := congrArg (· ^^^ ((if tn m' b' = true then 4129 else 0) % 2 ^ (k + 1))) h
  rw [Nat.xor_assoc, Nat.xor_self, Nat.xor_zero, Nat.xor_assoc, Nat.xor_self, Nat.xor_zero] at h2
  have d : 2 ^ (k + 1) ∣ 65536 := by
    rw [show (65536 : Nat) = 2 ^ 16 from rfl]
    exact Nat.pow_dvd_pow 2 (by omega)
  rw [Nat.mod_mod_of_dvd _ d, Nat.mod_mod_of_dvd _ d, Nat.pow_succ, Nat.mul_mod_mul_right, Nat.mul_mod_mul_right] at h2
  omega
def tns : Nat → List Bool → List Bool
  | _, [] => []
  | m, b :: bs => tn m b :: tns (stp m b) bs
theorem stps_back : ∀ (bs bs' : List Bool) (m m' j : Nat), bs.length = bs'.length → bs.length + j ≤ 16 → stps m bs % 2 ^ (bs.length + j) = stps m' bs' % 2 ^ (bs.length + j) → m % 2 ^ j = m' % 2 ^ j ∧ tns m bs = tns m' bs'
  | [], [], m, m', j, _, _, h => by
    simp [stps] at h
    exact ⟨h, rfl⟩
  | b :: bs, b' :: bs', m, m', j, hl, hj, h => by
    simp only [List.length_cons] at hl hj h
    have ih := stps_back bs bs' (stp m b) (stp m' b') (j + 1) (by omega) (by omega) (by
      rw [show bs.length + (j + 1) = bs.length + 1 + j by omega]
      exact h)
    have q := stp_back (by omega) ih.1
    exact ⟨q.1, by rw [tns, tns, q.2, ih.2]⟩
  | [], _ :: _, _, _, _, hl, _, _ => by simp at hl
  | _ :: _, [], _, _, _, hl, _, _ => by simp at hl
theorem tns_inj : ∀ (bs bs' : List Bool) (m : Nat), bs.length = bs'.length → tns m bs = tns m bs' → bs = bs'
  | [], [], _, _, _ => rfl
  | b :: bs, b' :: bs', m, hl, h => by
    simp only [tns, List.cons.injEq] at h
    have e : b = b' := by
      have q := h.1
      unfold tn at q
      cases b <;> cases b' <;> cases hd : decide (32768 ≤ m) <;> simp [hd] at q ⊢
    subst e
    rw [tns_inj bs bs' (stp m b) (by simpa using hl) h.2]
  | [], _ :: _, _, hl, _ => by simp at hl
  | _ :: _, [], _, hl, _ => by simp at hl
/-- sixteen bits at the most: others make another mark -/
theorem stps_inj {bs bs' : List Bool} {m : Nat} (hl : bs.length = bs'.length) (h16 : bs.length ≤ 16) (h : stps m bs = stps m bs') : bs = bs' := by
  refine tns_inj bs bs' m hl (stps_back bs bs' m m (16 - bs.length) hl (by omega) ?_).2
  rw [h]
/-- the same bits behind: another mark stays another -/
theorem stp_inj {m m' : Nat} {b : Bool} (hm : m < 65536) (hm' : m' < 65536) (h : stp m b = stp m' b) : m = m' := by
  have q := stp_back (m := m) (m' := m') (b := b) (b' := b) (k := 15) (by omega) (by rw [h])
  have q2 := q.2
  unfold tn at q2
  have e : decide (32768 ≤ m) = decide (32768 ≤ m') := by
    cases b <;> cases hd : decide (32768 ≤ m) <;> cases hd' : decide (32768 ≤ m') <;> simp [hd, hd'] at q2 ⊢
  have e2 : (32768 ≤ m) ↔ (32768 ≤ m') := by
    by_cases c : 32768 ≤ m <;> by_cases c' : 32768 ≤ m' <;> simp [c, c'] at e ⊢
  have q1 := q.1
  simp only [show (2 : Nat) ^ 15 = 32768 from rfl] at q1
  omega
theorem stps_tail : ∀ (bs : List Bool) (m m' : Nat), m < 65536 → m' < 65536 → stps m bs = stps m' bs → m = m'
  | [], _, _, _, _, h => h
  | b :: bs, m, m', hm, hm', h => stp_inj hm hm' (stps_tail bs (stp m b) (stp m' b) (stp_lt _ _) (stp_lt _ _) h)
theorem stps_append (m : Nat) (a b : List Bool) : stps m (a ++ b) = stps (stps m a) b := List.foldl_append
/-- the bits of a byte, the highest first -/
def bits8 (x : Int) : List Bool := [7, 6, 5, 4, 3, 2, 1, 0].map fun k => decide (x / 2 ^ k % 2 = 1)
theorem bit_eq {x y : Int} (h : decide (x % 2 = 1) = decide (y % 2 = 1)) : x % 2 = y % 2 := by
  rw [decide_eq_decide] at h
  omega
theorem bits8_inj {x y : Int} (hx : 0 ≤ x ∧ x < 256) (hy : 0 ≤ y ∧ y < 256) (h : bits8 x = bits8 y) : x = y := by
  simp only [bits8, List.map_cons, List.map_nil, List.cons.injEq, and_true] at h
  obtain ⟨h7, h6, h5, h4, h3, h2, h1, h0⟩ := h
  have g7 := bit_eq h7
  have g6 := bit_eq h6
  have g5 := bit_eq h5
  have g4 := bit_eq h4
  have g3 := bit_eq h3
  have g2 := bit_eq h2
  have g1 := bit_eq h1
  have g0 := bit_eq h0
  clear h7 h6 h5 h4 h3 h2 h1 h0
  simp only [show (2 : Int) ^ 7 = 128 from rfl, show (2 : Int) ^ 6 = 64 from rfl, show (2 : Int) ^ 5 = 32 from rfl, show (2 : Int) ^ 4 = 16 from rfl, show (2 : Int) ^ 3 = 8 from rfl, show (2 : Int) ^ 2 = 4 from rfl, show (2 : Int) ^ 1 = 2 from rfl, show (2 : Int) ^ 0 = 1 from rfl] at *
  omega
def bitsOf (bs : List Int) : List Bool := (bs.map bits8).flatten
theorem bitsOf_append (a b : List Int) : bitsOf (a ++ b) = bitsOf a ++ bitsOf b := by simp [bitsOf]
def chk (m : Nat) (bs : List Int) : Nat := stps m (bitsOf bs)
theorem chk_append (m : Nat) (a b : List Int) : chk m (a ++ b) = chk (chk m a) b := by unfold chk; rw [bitsOf_append, stps_append]
theorem chk_lt {m : Nat} (h : m < 65536) (bs : List Int) : chk m bs < 65536 := stps_lt _ _ h
theorem bitsOf_len : ∀ bs : List Int, (bitsOf bs).length = 8 * bs.length
  | [] => rfl
  | b :: bs => by
    have := bitsOf_len bs
    unfold bitsOf at this ⊢
    rw [List.map_cons, List.flatten_cons, List.length_append, this]
    simp only [bits8, List.length_map, List.length_cons, List.length_nil]
    omega
theorem bitsOf_inj : ∀ (a b : List Int), a.length = b.length → (∀ x ∈ a, 0 ≤ x ∧ x < 256) → (∀ x ∈ b, 0 ≤ x ∧ x < 256) → bitsOf a = bitsOf b → a = b
  | [], [], _, _, _, _ => rfl
  | x :: a, y :: b, hl, ha, hb, h => by
    unfold bitsOf at h
    rw [List.map_cons, List.map_cons, List.flatten_cons, List.flatten_cons] at h
    obtain ⟨h1, h2⟩ := List.append_inj h rfl
    rw [bits8_inj (ha x List.mem_cons_self) (hb y List.mem_cons_self) h1, bitsOf_inj a b (by simpa using hl) (fun z hz => ha z (List.mem_cons_of_mem _ hz)) (fun z hz => hb z (List.mem_cons_of_mem _ hz)) h2]
  | [], _ :: _, hl, _, _, _ => by simp at hl
  | _ :: _, [], hl, _, _, _ => by simp at hl
/-- up to two bytes in a row, the same behind -/
theorem chk_two {m : Nat} (hm : m < 65536) (a u v c : List Int) (hl : u.length = v.length) (h2 : u.length ≤ 2) (hu : ∀ x ∈ u, 0 ≤ x ∧ x < 256) (hv : ∀ x ∈ v, 0 ≤ x ∧ x < 256) (h : chk m (a ++ u ++ c) = chk m (a ++ v ++ c)) : u = v := by
  rw [List.append_assoc, List.append_assoc, chk_append m a, chk_append m a, chk_append _ u, chk_append _ v] at h
  have q := stps_tail (bitsOf c) _ _ (chk_lt (chk_lt hm a) u) (chk_lt (chk_lt hm a) v) h
  refine bitsOf_inj u v hl hu hv (stps_inj (m := chk m a) ?_ ?_ q)
  · rw [bitsOf_len, bitsOf_len, hl]
  · rw [bitsOf_len]; omega
/-- the turn of a bit -/
theorem bit_turn (m : Nat) (hm : m < 65536) (x : Int) (k : Nat) (o0 o1 o3 o4 o5 o6 : Option B) (h3 : o3 = some (.d (.int x))) : ∃ o5' o6', w_check_on_1 [o0, o1, some (.d (.int m)), o3, some (.d (.int k)), o5, o6] = .nx [o0, o1, some (.d (.int (stp m (decide (x / 2 ^ k % 2 = 1)) : Nat))), o3, some (.d (.int k)), o5', o6'] := by
  subst h3
  refine ⟨some (.d (.int (x / 2 ^ k % 2))), some (.d (.int ((m : Int) / 32768))), ?_⟩
  have k0 : ¬ (k : Int) < 0 := by omega
  have e1 : Builtin.bitAnd (x / 2 ^ k) 1 = x / 2 ^ k % 2 := bitAnd_m1 _
  have m1 : mulOk (m : Int) 2 := mulOk_r (by omega) (by omega)
  have e2 : ((m * 2 % 65536 : Nat) : Int) = (m : Int) * 2 % 65536 := by omega
  have e3 : Builtin.bitXor ((m : Int) * 2 % 65536) 4129 = (((m * 2 % 65536) ^^^ 4129 : Nat) : Int) := by
    rw [← e2, Bits.bitXor_pp (by omega) (by omega)]
    rfl
  have hb : x / 2 ^ k % 2 = 0 ∨ x / 2 ^ k % 2 = 1 := by omega
  have e4 : (2 : Int) ^ Int.toNat 15 = 32768 := rfl
  by_cases hs : 32768 ≤ m
  · have h1 : (m : Int) / 32768 = 1 := by omega
    rcases hb with hb | hb
    · simp [w_check_on_1_ap, e1, m1, e3, hb, h1, stp, hs]
    · simp [w_check_on_1_ap, e1, m1, e3, hb, h1, stp, hs]
  · have h1 : (m : Int) / 32768 = 0 := by omega
    rcases hb with hb | hb
    · simp [w_check_on_1_ap, e1, m1, e3, hb, h1, stp, hs]
    · simp [w_check_on_1_ap, e1, m1, e3, hb, h1, stp, hs]
theorem byte_loop (x : Int) : ∀ (ks : List Nat) (m : Nat) (o0 o1 o4 o5 o6 : Option B), m < 65536 → ∃ o4' o5' o6', fLoop g_check_on_1 w_check_on_1 (ks.map fun (k : Nat) => PyData.int k) [o0, o1, some (.d (.int m)), some (.d (.int x)), o4, o5, o6] =
    .nx [o0, o1, some (.d (.int (stps m (ks.map fun k => decide (x / 2 ^ k % 2 = 1)) : Nat))), some (.d (.int x)), o4', o5', o6']
  | [], m, o0, o1, o4, o5, o6, hm => ⟨o4, o5, o6, rfl⟩
  | k :: ks, m, o0, o1, o4, o5, o6, hm => by
    obtain ⟨o5', o6', e⟩ := bit_turn m hm x k o0 o1 (some (.d (.int x))) o4 o5 o6 rfl
    obtain ⟨p4, p5, p6, e2⟩ := byte_loop x ks (stp m (decide (x / 2 ^ k % 2 = 1))) o0 o1 (some (.d (.int k))) o5' o6' (stp_lt _ _)
    refine ⟨p4, p5, p6, ?_⟩
    rw [List.map_cons, fLoop_cons]
    simp only [g_check_on_1_ap, ap_gNm, optE_some, List.set_cons_succ, List.set_cons_zero, e, lp_nx]
    exact e2
theorem check_loop : ∀ (bs : List Int) (m : Nat) (o0 o1 o3 o4 o5 o6 : Option B), m < 65536 → ∃ o3' o4' o5' o6', fLoop g_check_on_2 w_check_on_2 (bs.map PyData.int) [o0, o1, some (.d (.int m)), o3, o4, o5, o6] =
    .nx [o0, o1, some (.d (.int (chk m bs : Nat))), o3', o4', o5', o6']
  | [], m, o0, o1, o3, o4, o5, o6, hm => ⟨o3, o4, o5, o6, rfl⟩
  | b :: bs, m, o0, o1, o3, o4, o5, o6, hm => by
    obtain ⟨p4, p5, p6, e⟩ := byte_loop b [7, 6, 5, 4, 3, 2, 1, 0] m o0 o1 o4 o5 o6 hm
    have hm' : stps m (bits8 b) < 65536 := stps_lt _ _ hm
    obtain ⟨q3, q4, q5, q6, e2⟩ := check_loop bs (stps m (bits8 b)) o0 o1 (some (.d (.int b))) p4 p5 p6 hm'
    refine ⟨q3, q4, q5, q6, ?_⟩
    have e3 : chk m (b :: bs) = chk (stps m (bits8 b)) bs := by rw [show b :: bs = [b] ++ bs from rfl, chk_append]; simp [chk, bitsOf]
    rw [List.map_cons, fLoop_cons, e3]
    simp only [List.map_cons, List.map_nil, Int.cast_ofNat_Int] at e
    simp only [g_check_on_2_ap, ap_gNm, optE_some, List.set_cons_succ, List.set_cons_zero, w_check_on_2_ap, ap_sFor, ap_iRg, ap_aCons, ap_aNil, ap_eC, ap_eUn, bind_ok, opNeg_int, ofO_some, rgC_8, andThen_ok]
    rw [e, lp_nx]
    exact e2
theorem check_on_eq (bs : List Int) (m : Nat) (hm : m < 65536) : f_check_on [.int m, tN bs] = .ok (.int (chk m bs : Nat)) := by
  obtain ⟨q3, q4, q5, q6, e⟩ := check_loop bs m (some (.d (.int m))) (some (.d (tN bs))) none none none none hm
  simp only [tN] at e
  simp [f_check_on_at, b_check_on_ap, e]
abbrev chkV (bs : List Int) : Nat := chk 65535 bs
theorem check_of_eq (bs : List Int) : f_check_of [tN bs] = .ok (.int (chkV bs : Nat)) := by
  have e := check_on_eq bs 65535 (by decide)
  simp only [tN, Int.cast_ofNat_Int] at e
  simp [f_check_of_at, b_check_of_ap, e]
theorem few_get (c : Int) (h0 : 0 ≤ c) (h : c < 4) : ∃ p : Int, atI [PyData.int 2, .int 3, .int 5, .int 256] c = some (.int p) ∧ 0 < p := by
  rcases (by omega : c = 0 ∨ c = 1 ∨ c = 2 ∨ c = 3) with rfl | rfl | rfl | rfl
  · exact ⟨2, by simp [atI, ixN], by omega⟩
  · exact ⟨3, by simp [atI, ixN], by omega⟩
  · exact ⟨5, by simp [atI, ixN], by omega⟩
  · exact ⟨256, by simp [atI, ixN], by omega⟩
theorem few_eq (ns : List Int) (a b : Nat) (h : a ≤ b) (hn : ns.length ≤ 63) : ∃ bs : List Int, bs.length ≤ b - a ∧ (∀ x ∈ bs, 0 ≤ x ∧ x < 256) ∧ (bs ≠ [] → a < ns.length) ∧ f_l_few [scr ns, .int a, .int b] = .ok (tN bs) := by
  obtain ⟨z, hz⟩ : ∃ z : Int, (ns = [] ∧ z = 0) ∨ (ns ≠ [] ∧ atI (ns.map PyData.int) 0 = some (.int z)) := by
    by_cases c : ns = []
    · exact ⟨0, .inl ⟨c, rfl⟩⟩
    · have := List.length_pos_iff.mpr c
      exact ⟨ns[0], .inr ⟨c, by rw [atI_map, show (0 : Int) = ((0 : Nat) : Int) from rfl, atI_of (j := 0) rfl this]; rfl⟩⟩
  have bd := dV_lt (c := z) (p := 1) (m := 4) (by decide)
  obtain ⟨p, hp, hp0⟩ := few_get _ bd.1 bd.2
  have c0 := cLoop_map (k := gNm 5) (t := t_l_few_1) (f := e_l_few_1) (ρ := [some (.d (scr ns)), some (.d (.int a)), some (.d (.int b)), some (.d (.int z)), some (.d (.int p)), none]) (e := PyData.int) (r := fun x => .int ((x % p + z / 4) % 256)) (xs := (ns.drop a).take (b - a)) fun x _ => ⟨_, rfl, rfl, by simp [e_l_few_1_ap, hp0]⟩
  have c1 : cutD (ns.map PyData.int) (some (a : Int)) (some (b : Int)) = ((ns.drop a).take (b - a)).map PyData.int := by rw [cutD_map, cutD_nat ns a b h]
  have hl : ((ns.drop a).take (b - a)).length ≤ 16777216 := by simp; omega
  have hl2 : ((ns.drop a).take (b - a)).length ≤ b - a := by simp; omega
  have hl3 : (ns.drop a).take (b - a) ≠ [] → a < ns.length := fun z => by
    by_cases c : a < ns.length
    · exact c
    · exfalso
      apply z
      rw [List.drop_eq_nil_of_le (by omega)]
      simp
  generalize (ns.drop a).take (b - a) = xs at c0 c1 hl hl2 hl3
  refine ⟨xs.map fun x => (x % p + z / 4) % 256, by simpa using hl2, fun y hy => ?_, fun z => hl3 fun z2 => z (by rw [z2]; rfl), ?_⟩
  · obtain ⟨x, _, rfl⟩ := List.mem_map.mp hy
    omega
  · have e : xs.map (fun x => PyData.int ((x % p + z / 4) % 256)) = (xs.map fun x => (x % p + z / 4) % 256).map PyData.int := by rw [List.map_map]; rfl
    rw [e] at c0
    generalize (xs.map fun x => (x % p + z / 4) % 256) = ys at c0
    rcases hz with ⟨hz, rfl⟩ | ⟨hz, hz2⟩
    · simp [f_l_few_at, b_l_few_ap, hz, d_eq, hp] at c0 c1 ⊢
      simp [c1, c0, hl]
    · simp [f_l_few_at, b_l_few_ap, hz, hz2, d_eq, hp, c1, c0, hl]
theorem few_eqL (ns : List Int) (a b : Nat) (h : a ≤ b) (hn : ns.length ≤ 63) : ∃ bs : List Int, bs.length = ((ns.drop a).take (b - a)).length ∧ (∀ x ∈ bs, 0 ≤ x ∧ x < 256) ∧ f_l_few [scr ns, .int a, .int b] = .ok (tN bs) := by
  obtain ⟨z, hz⟩ : ∃ z : Int, (ns = [] ∧ z = 0) ∨ (ns ≠ [] ∧ atI (ns.map PyData.int) 0 = some (.int z)) := by
    by_cases c : ns = []
    · exact ⟨0, .inl ⟨c, rfl⟩⟩
    · have := List.length_pos_iff.mpr c
      exact ⟨ns[0], .inr ⟨c, by rw [atI_map, show (0 : Int) = ((0 : Nat) : Int) from rfl, atI_of (j := 0) rfl this]; rfl⟩⟩
  have bd := dV_lt (c := z) (p := 1) (m := 4) (by decide)
  obtain ⟨p, hp, hp0⟩ := few_get _ bd.1 bd.2
  have c0 := cLoop_map (k := gNm 5) (t := t_l_few_1) (f := e_l_few_1) (ρ := [some (.d (scr ns)), some (.d (.int a)), some (.d (.int b)), some (.d (.int z)), some (.d (.int p)), none]) (e := PyData.int) (r := fun x => .int ((x % p + z / 4) % 256)) (xs := (ns.drop a).take (b - a)) fun x _ => ⟨_, rfl, rfl, by simp [e_l_few_1_ap, hp0]⟩
  have c1 : cutD (ns.map PyData.int) (some (a : Int)) (some (b : Int)) = ((ns.drop a).take (b - a)).map PyData.int := by rw [cutD_map, cutD_nat ns a b h]
  have hl : ((ns.drop a).take (b - a)).length ≤ 16777216 := by simp; omega
  have hl2 : ((ns.drop a).take (b - a)).length ≤ b - a := by simp; omega
  have hl3 : (ns.drop a).take (b - a) ≠ [] → a < ns.length := fun z => by
    by_cases c : a < ns.length
    · exact c
    · exfalso
      apply z
      rw [List.drop_eq_nil_of_le (by omega)]
      simp
  generalize (ns.drop a).take (b - a) = xs at c0 c1 hl hl2 hl3
  refine ⟨xs.map fun x => (x % p + z / 4) % 256, by simp, fun y hy => ?_, ?_⟩
  · obtain ⟨x, _, rfl⟩ := List.mem_map.mp hy
    omega
  · have e : xs.map (fun x => PyData.int ((x % p + z / 4) % 256)) = (xs.map fun x => (x % p + z / 4) % 256).map PyData.int := by rw [List.map_map]; rfl
    rw [e] at c0
    generalize (xs.map fun x => (x % p + z / 4) % 256) = ys at c0
    rcases hz with ⟨hz, rfl⟩ | ⟨hz, hz2⟩
    · simp [f_l_few_at, b_l_few_ap, hz, d_eq, hp] at c0 c1 ⊢
      simp [c1, c0, hl]
    · simp [f_l_few_at, b_l_few_ap, hz, hz2, d_eq, hp, c1, c0, hl]
theorem cell_eq (ns : List Int) (k : Nat) : f_l_cell [scr ns, .int k] = .ok (.int (ns.getD k 0)) := by
  by_cases c : k < ns.length
  · have c' : (k : Int) < (ns.length : Int) := by omega
    have e := atN c
    have e2 : ns.getD k 0 = ns[k] := by simp [c]
    rw [e2]
    simp [f_l_cell_at, b_l_cell_ap, c', e]
  · have c' : ¬ (k : Int) < (ns.length : Int) := by omega
    have e2 : ns.getD k 0 = 0 := by simp [c]
    rw [e2]
    simp [f_l_cell_at, b_l_cell_ap, c']
/-! volumes -/
def xorL : List Int → List Int → List Int
  | [], _ => []
  | f :: fs, [] => f :: fs
  | f :: fs, b :: bs => Builtin.bitXor f b :: xorL fs bs
theorem xorL_nil (F : List Int) : xorL F [] = F := by cases F <;> rfl
theorem xorL_len : ∀ F b : List Int, (xorL F b).length = F.length
  | [], _ => rfl
  | _ :: _, [] => rfl
  | f :: fs, b :: bs => by simp [xorL, xorL_len fs bs]
def colS (k : Nat) (a : Int) (b : List Int) : Int := if k < b.length then Builtin.bitXor a (b.getD k 0) else a
def col (bodies : List (List Int)) (k : Nat) : Int := bodies.foldl (colS k) 0
def mixL (bodies : List (List Int)) (n : Nat) : List Int := (List.range n).map (col bodies)
theorem xorL_get : ∀ (F b : List Int) (k : Nat), k < F.length → (xorL F b).getD k 0 = colS k (F.getD k 0) b
  | [], _, k, h => by simp at h
  | f :: fs, [], k, h => by simp [xorL, colS]
  | f :: fs, b :: bs, 0, h => by simp [xorL, colS]
  | f :: fs, b :: bs, k + 1, h => by
    have := xorL_get fs bs k (by simpa using h)
    simpa [xorL, colS] using this
theorem foldXor (bodies : List (List Int)) : ∀ F : List Int, bodies.foldl xorL F = (List.range F.length).map fun k => bodies.foldl (colS k) (F.getD k 0) := by
  induction bodies with
  | nil =>
    intro F
    refine List.ext_getElem? fun i => ?_
    by_cases h : i < F.length
    · simp [h, List.getElem?_eq_getElem h]
    · simp [h]
  | cons b bodies ih =>
    intro F
    rw [List.foldl_cons, ih, xorL_len]
    refine List.map_congr_left fun k hk => ?_
    rw [List.foldl_cons, xorL_get F b k (by simpa using hk)]
theorem mixL_fold (bodies : List (List Int)) (n : Nat) : bodies.foldl xorL (List.replicate n 0) = mixL bodies n := by
  rw [foldXor, List.length_replicate]
  refine List.map_congr_left fun k hk => ?_
  have : k < n := by simpa using hk
  simp [col, this]
theorem mix_in : ∀ (rest F P : List Int), rest.length ≤ F.length → fLoop g_mixed_1 w_mixed_1 (enumFrom P.length (rest.map PyData.int)) [none, none, some (.l ((P ++ F).map PyData.int)), none, none, none] = .nx [none, none, some (.l ((P ++ xorL F rest).map PyData.int)), none, none, none]
  | [], F, P, _ => by rw [xorL_nil]; rfl
  | b :: rest, [], P, h => by simp at h
  | b :: rest, f :: F, P, h => by
    have ih := mix_in rest F (P ++ [Builtin.bitXor f b]) (by simpa using h)
    rw [List.length_append, List.length_singleton, List.append_assoc, List.append_assoc] at ih
    rw [List.map_cons, enumFrom, fLoop_cons]
    have hl : P.length < (P ++ f :: F).length := by simp
    have e1 : atI ((P ++ f :: F).map PyData.int) (P.length : Int) = some (.int f) := by rw [atN hl]; simp
    have e2 := fun (ρ : En) (d : PyData) => putV_n 2 ρ ((P ++ f :: F).map PyData.int) d (k := P.length) (by simp)
    have e3 : ((P ++ f :: F).map PyData.int).set P.length (.int (Builtin.bitXor f b)) = (P ++ ([Builtin.bitXor f b] ++ F)).map PyData.int := by
      simp [List.set_append]
    rw [xorL]
    generalize hA : (P ++ f :: F).map PyData.int = A at *
    have pl : plainAll A = true := by rw [← hA]; exact plainAll_int _
    simp [g_mixed_1_ap, w_mixed_1_ap, e1, e2, pl]
    rw [e3]
    simpa using ih
theorem mix_out : ∀ (bodies : List (List Int)) (F : List Int), (∀ b ∈ bodies, b.length ≤ F.length) → fLoop g_mixed_2 w_mixed_2 (bodies.map tN) [none, none, some (.l (F.map PyData.int)), none, none, none] = .nx [none, none, some (.l ((bodies.foldl xorL F).map PyData.int)), none, none, none]
  | [], F, _ => rfl
  | b :: bodies, F, h => by
    have i1 := mix_in b F [] (h b List.mem_cons_self)
    have ih := mix_out bodies (xorL F b) (fun c hc => by rw [xorL_len]; exact h c (List.mem_cons_of_mem _ hc))
    rw [List.map_cons, fLoop_cons]
    simp only [List.nil_append, List.length_nil] at i1
    simp [g_mixed_2_ap, w_mixed_2_ap, i1]
    exact ih
theorem mixed_eq (bodies : List (List Int)) (n : Nat) (hn : n ≤ 100000) (h : ∀ b ∈ bodies, b.length ≤ n) : f_mixed [.list (bodies.map tN), .int n] = .ok (tN (mixL bodies n)) := by
  have e := mix_out bodies (List.replicate n 0) (by simpa using h)
  rw [mixL_fold] at e
  have e0 : (List.replicate n [PyData.int 0]).flatten = (List.replicate n (0 : Int)).map PyData.int := by
    induction n with
    | zero => rfl
    | succ n ih => simp [List.replicate_succ]
  have c1 : (n : Int) ≤ 100000 := by omega
  generalize mixL bodies n = M at *
  simp only [tN, List.map_append, List.map_cons, List.map_nil, List.map_replicate, List.map_map, Int.cast_ofNat_Int, Int.natCast_add, List.append_assoc, List.cons_append, List.nil_append] at e e0
  simp [f_mixed_at, b_mixed_ap, c1, -List.flatten_replicate_singleton, e0, e]
/-- the cut bodies -/
def chunks (some : List Int) (m : Nat) : List (List Int) := (List.range ((some.length + m - 1) / m)).map fun i => (some.drop (i * m)).take m
def nVol (m L : Nat) : Nat := (L + m - 1) / m
theorem chunks_len (s : List Int) (m : Nat) : (chunks s m).length = nVol m s.length := by simp [chunks, nVol]
def volB (k m : Nat) (s body : List Int) : List Int := 70 :: 86 :: (nb k ++ (nb m ++ (nb s.length ++ (fx (chkV s) 2 [] ++ body))))
def volV (k m : Nat) (s body : List Int) : List Int := volB k m s body ++ fx (chkV (volB k m s body)) 2 []
def bodiesA (s : List Int) (m : Nat) : List (List Int) := chunks s m ++ [mixL (chunks s m) (min m s.length)]
def vols (s : List Int) (m : Nat) : List (List Int) := (List.range (nVol m s.length + 1)).map fun k => volV k m s ((bodiesA s m).getD k [])
theorem nb_le (n : Nat) (h : n < 128 ^ 8) : (nb n).length ≤ 8 := nb_len 7 n h
theorem volume_of_eq (k m : Nat) (s body : List Int) (hk : k < 128 ^ 8) (hm : m < 128 ^ 8) (hs : s.length ≤ 1000000) (hb : body.length ≤ 1000000) : f_volume_of [.int k, .int m, tN s, tN body] = .ok (tN (volV k m s body)) := by
  have e1 := number_bytes_eq hk
  have e2 := number_bytes_eq hm
  have e3 := number_bytes_eq (n := s.length) (by omega)
  have e4 := fixed_bytes_eq (chkV s : Nat) 2 (by decide)
  have e5 := fixed_bytes_eq (chkV (volB k m s body) : Nat) 2 (by decide)
  have c1 := check_of_eq s
  have c2 := check_of_eq (volB k m s body)
  have l1 := nb_le k hk
  have l2 := nb_le m hm
  have l3 := nb_le s.length (by omega)
  have l4 := fx_len 2 (chkV s : Nat) []
  have l5 := fx_len 2 (chkV (volB k m s body) : Nat) []
  unfold volV volB at *
  generalize nb k = A at *
  generalize nb m = A2 at *
  generalize nb s.length = A3 at *
  generalize chkV s = c at *
  generalize fx (c : Nat) 2 [] = A4 at *
  simp only [tN, List.map_append, List.map_cons, List.map_nil, List.map_replicate, List.map_map, Int.cast_ofNat_Int, Int.natCast_add, List.append_assoc, List.cons_append, List.nil_append] at e1 e2 e3 e4 c1 c2
  generalize chkV (70 :: 86 :: (A ++ (A2 ++ (A3 ++ (A4 ++ body))))) = c' at *
  simp only [tN, List.map_append, List.map_cons, List.map_nil, List.map_replicate, List.map_map, Int.cast_ofNat_Int, Int.natCast_add, List.append_assoc, List.cons_append, List.nil_append] at c2 e5
  generalize fx (c' : Nat) 2 [] = A5 at *
  simp only [List.length_nil, Nat.add_zero] at l4 l5
  simp (disch := omega) [f_volume_of_at, b_volume_of_ap, List.getElem?_cons_zero, ite_ok, ite_so, ite_nx, mulOk, e1, e2, e3, e4, e5, c1, c2, l4, l5]

theorem cutI_add (bs : List Int) (p m : Nat) : cutD (bs.map PyData.int) (some (p : Int)) (some ((p : Int) + (m : Int))) = ((bs.drop p).take m).map PyData.int := by
  have := cutI_nat bs p (p + m) (by omega)
  rw [Int.natCast_add] at this
  rw [this, show p + m - p = m by omega]
theorem enum_tN (l : List (List Int)) : enumFrom 0 (l.map tN) = (List.range l.length).map fun i => .tuple [.int ((i : Nat) : Int), tN (l.getD i [])] := by
  rw [enumFrom_eq, List.length_map]
  refine List.map_congr_left fun i hi => ?_
  have : i < l.length := by simpa using hi
  simp [this]
theorem chunk_le (s : List Int) (m : Nat) : ∀ b ∈ chunks s m, b.length ≤ min m s.length := fun b hb => by
  obtain ⟨i, _, rfl⟩ := List.mem_map.mp hb
  simp
  omega
theorem bodiesA_len (s : List Int) (m : Nat) : (bodiesA s m).length = nVol m s.length + 1 := by simp [bodiesA, chunks_len]
theorem mixL_len (b : List (List Int)) (n : Nat) : (mixL b n).length = n := by simp [mixL]
theorem bodiesA_le (s : List Int) (m : Nat) : ∀ i, ((bodiesA s m).getD i []).length ≤ min m s.length := fun i => by
  by_cases h : i < (bodiesA s m).length
  · rw [List.getD_eq_getElem?_getD, List.getElem?_eq_getElem h, Option.getD_some]
    have : (bodiesA s m)[i] ∈ bodiesA s m := List.getElem_mem h
    rcases List.mem_append.mp this with q | q
    · exact chunk_le s m _ q
    · rw [List.mem_singleton.mp q, mixL_len]; exact Nat.le_refl _
  · rw [List.getD_eq_getElem?_getD, List.getElem?_eq_none (by omega)]; simp
theorem nVol_le (m L : Nat) (hm : 1 ≤ m) : nVol m L ≤ L := by
  unfold nVol
  by_cases h : L = 0
  · subst h; rw [Nat.div_eq_of_lt (by omega)]; omega
  · obtain ⟨L', rfl⟩ : ∃ L', L = L' + 1 := ⟨L - 1, by omega⟩
    obtain ⟨m', rfl⟩ : ∃ m', m = m' + 1 := ⟨m - 1, by omega⟩
    refine Nat.div_le_of_le_mul ?_
    rw [Nat.add_mul, Nat.mul_add]
    have := Nat.zero_le (m' * L')
    omega
theorem shared_eq (s : List Int) (m : Nat) (hm : 1 ≤ m) (hm2 : m ≤ 1000) (hs : s.length ≤ 20000) : f_shared [tN s, .int m] = .ok (.tuple ((vols s m).map tN)) := by
  have hn := nVol_le m s.length hm
  have r1 := rng3_up s.length m (by omega) hm (by omega)
  have c1 := cLoop_map (k := gNm 4) (t := t_shared_1) (f := e_shared_1) (ρ := [some (.d (tN s)), some (.d (.int m)), none, none, none, none, none]) (e := fun (i : Nat) => PyData.int ((i * m : Nat) : Int)) (r := fun i => tN ((s.drop (i * m)).take m)) (xs := List.range ((s.length + m - 1) / m)) fun i _ => ⟨_, rfl, rfl, by
    have := cutI_add s (i * m) m
    generalize i * m = p at *
    simp [e_shared_1_ap, this]⟩
  have c1' : (List.range ((s.length + m - 1) / m)).map (fun i => tN ((s.drop (i * m)).take m)) = (chunks s m).map tN := by rw [chunks, List.map_map]; rfl
  rw [c1'] at c1
  have mx := mixed_eq (chunks s m) (min m s.length) (by omega) (chunk_le s m)
  have mn := fMin_nat m s.length
  have en := enum_tN (bodiesA s m)
  have c2 := cLoop_map (k := gTp 2 (gsCons (gNm 5) (gsCons (gNm 6) gsNil))) (t := t_shared_2) (f := e_shared_2) (ρ := [some (.d (tN s)), some (.d (.int m)), some (.d (.list ((chunks s m).map tN))), some (.d (tN (mixL (chunks s m) (min m s.length)))), none, none, none])
    (e := fun (i : Nat) => .tuple [.int ((i : Nat) : Int), tN ((bodiesA s m).getD i [])]) (r := fun k => tN (volV k m s ((bodiesA s m).getD k []))) (xs := List.range (bodiesA s m).length) fun i hi => ⟨_, rfl, rfl, by
    have hi' : i < (bodiesA s m).length := by simpa using hi
    rw [bodiesA_len] at hi'
    have := bodiesA_le s m i
    have e := volume_of_eq i m s ((bodiesA s m).getD i []) (by omega) (by omega) (by omega) (by omega)
    generalize (bodiesA s m).getD i [] = b at *
    simp [e_shared_2_ap, e]⟩
  have c2' : (List.range (bodiesA s m).length).map (fun k => tN (volV k m s ((bodiesA s m).getD k []))) = (vols s m).map tN := by rw [vols, List.map_map, bodiesA_len]; rfl
  rw [c2', ← en] at c2
  have l1 := chunks_len s m
  have l2 : (enumFrom 0 ((bodiesA s m).map tN)).length = nVol m s.length + 1 := by rw [en]; simp [bodiesA_len]
  have l3 : (List.map (fun i => PyData.int ((i * m : Nat) : Int)) (List.range ((s.length + m - 1) / m))).length = nVol m s.length := by simp [nVol]
  have e5 : (chunks s m).map tN ++ [tN (mixL (chunks s m) (min m s.length))] = (bodiesA s m).map tN := by simp [bodiesA]
  generalize List.map (fun i => PyData.int ((i * m : Nat) : Int)) (List.range ((s.length + m - 1) / m)) = R at *
  generalize mixL (chunks s m) (min m s.length) = M at *
  generalize (bodiesA s m).map tN = BA at *
  generalize (vols s m).map tN = VV at *
  generalize chunks s m = C at *
  generalize ((min m s.length : Nat) : Int) = mm at *
  simp (disch := omega) [f_shared_at, b_shared_ap, List.getElem?_cons_zero, ite_ok, ite_so, ite_nx, mulOk, r1, c1, mx, mn, e5, c2, l1, l2, l3]
theorem nb_byt (n : Nat) : Byt (nb n) := by
  induction n using Nat.strongRecOn with
  | ind n ih =>
    by_cases c : n > 127
    · rw [nb_big c]; exact Byt.cons (by omega) (ih _ (by omega))
    · rw [nb_small c]; exact Byt.cons (by omega) Byt.nil
theorem fx_byt : ∀ (k : Nat) (n : Int) (acc : List Int), Byt acc → Byt (fx n k acc)
  | 0, n, acc, h => h
  | k + 1, n, acc, h => fx_byt k _ _ (Byt.cons (by omega) h)
theorem volB_byt (k m : Nat) (s body : List Int) (hs : Byt s) (hb : Byt body) : Byt (volB k m s body) :=
  Byt.cons (by decide) (Byt.cons (by decide) ((nb_byt _).app ((nb_byt _).app ((nb_byt _).app ((fx_byt _ _ _ Byt.nil).app hb)))))
theorem mixL_byt (bs : List (List Int)) (n : Nat) (h : ∀ b ∈ bs, Byt b) : Byt (mixL bs n) := fun x hx => by
  obtain ⟨k, _, rfl⟩ := List.mem_map.mp hx
  have key : ∀ (bs : List (List Int)) (a : Int), (∀ b ∈ bs, Byt b) → 0 ≤ a ∧ a < 256 → 0 ≤ bs.foldl (colS k) a ∧ bs.foldl (colS k) a < 256 := by
    intro bs
    induction bs with
    | nil => intro a _ h; exact h
    | cons b bs ih =>
      intro a hb ha
      rw [List.foldl_cons]
      refine ih _ (fun c hc => hb c (List.mem_cons_of_mem _ hc)) ?_
      unfold colS
      split
      · rename_i hk
        have h1 : Byt b := hb b List.mem_cons_self
        have h2 := h1 _ (List.getElem_mem hk)
        have h3 : b.getD k 0 = b[k] := by simp [hk]
        rw [h3]
        obtain ⟨x, hx⟩ := Int.eq_ofNat_of_zero_le h2.1
        obtain ⟨y, rfl⟩ := Int.eq_ofNat_of_zero_le ha.1
        rw [hx] at h2 ⊢
        rw [Bits.bitXor_pp (by omega) (by omega)]
        have : (y : Int).toNat ^^^ (x : Int).toNat < 2 ^ 8 := Nat.xor_lt_two_pow (by omega) (by omega)
        omega
      · exact ha
  exact key bs 0 h (by decide)
theorem chunks_byt (s : List Int) (m : Nat) (h : Byt s) : ∀ b ∈ chunks s m, Byt b := fun b hb => by
  obtain ⟨i, _, rfl⟩ := List.mem_map.mp hb
  exact Byt.take (Byt.drop h _) _
theorem bodiesA_byt (s : List Int) (m : Nat) (h : Byt s) : ∀ i, Byt ((bodiesA s m).getD i []) := fun i => by
  by_cases hi : i < (bodiesA s m).length
  · rw [List.getD_eq_getElem?_getD, List.getElem?_eq_getElem hi, Option.getD_some]
    have : (bodiesA s m)[i] ∈ bodiesA s m := List.getElem_mem hi
    rcases List.mem_append.mp this with q | q
    · exact chunks_byt s m h _ q
    · rw [List.mem_singleton.mp q]; exact mixL_byt _ _ (chunks_byt s m h)
  · rw [List.getD_eq_getElem?_getD, List.getElem?_eq_none (by omega)]; exact Byt.nil
theorem nVol_pos (m L : Nat) (hL : 1 ≤ L) (hm : 1 ≤ m) : 1 ≤ nVol m L := by
  unfold nVol
  rw [Nat.le_div_iff_mul_le (by omega)]
  omega
theorem chunk_first (s : List Int) (m : Nat) (hm : 1 ≤ m) (hs : 1 ≤ s.length) : ∃ b ∈ chunks s m, b.length = min m s.length := by
  refine ⟨(s.drop (0 * m)).take m, List.mem_map.mpr ⟨0, ?_, rfl⟩, by simp⟩
  have := nVol_pos m s.length hs hm
  unfold nVol at this
  simp; omega
/-! a volume read -/
def bLong (k m L : Nat) : Nat := if k = nVol m L then min m L else min m (L - k * m)
theorem how_many_eq (m L : Nat) (hm : 1 ≤ m) (hm2 : m ≤ 1000000) (hL : L ≤ 1000000000) : f_how_many [.int m, .int L] = .ok (.int (nVol m L : Nat)) := by
  have e : ((L : Int) + (m : Int) - 1) / (m : Int) = ((nVol m L : Nat) : Int) := by
    unfold nVol
    rw [show (L : Int) + (m : Int) - 1 = ((L + m - 1 : Nat) : Int) by omega]
    simp
  simp (disch := omega) [f_how_many_at, b_how_many_ap, List.getElem?_cons_zero, ite_ok, ite_so, ite_nx, mulOk, e]
theorem kmL {k m L : Nat} (hm : 1 ≤ m) (h : k < nVol m L) : k * m < L := by
  unfold nVol at h
  have h2 : k + 1 ≤ (L + m - 1) / m := h
  rw [Nat.le_div_iff_mul_le (by omega), Nat.add_mul] at h2
  omega
theorem body_long_eq (k m L : Nat) (hk : k ≤ nVol m L) (hm : 1 ≤ m) (hm2 : m ≤ 1000000) (hL : L ≤ 1000000000) : f_body_long [.int k, .int m, .int L] = .ok (.int (bLong k m L : Nat)) := by
  have e := how_many_eq m L hm hm2 hL
  by_cases c : k = nVol m L
  · have c' : (k : Int) = ((nVol m L : Nat) : Int) := by omega
    have e2 := fMin_nat m L
    have e3 : bLong k m L = min m L := if_pos c
    rw [e3]
    generalize ((min m L : Nat) : Int) = q at *
    simp (disch := omega) [f_body_long_at, b_body_long_ap, List.getElem?_cons_zero, ite_ok, ite_so, ite_nx, mulOk, e, c', e2]
  · have c' : ¬ (k : Int) = ((nVol m L : Nat) : Int) := by omega
    have h := kmL hm (show k < nVol m L by omega)
    have e2 := fMin_nat m (L - k * m)
    have e3 : bLong k m L = min m (L - k * m) := if_neg c
    have e4 : (L : Int) - (k : Int) * (m : Int) = ((L - k * m : Nat) : Int) := by rw [Int.ofNat_sub (by omega)]; simp
    rw [e3]
    generalize ((min m (L - k * m) : Nat) : Int) = q at *
    simp (disch := omega) [f_body_long_at, b_body_long_ap, List.getElem?_cons_zero, ite_ok, ite_so, ite_nx, mulOk, e, c', e4, e2]
theorem rdN_at {V a c : List Int} {n p : Nat} (h : V = a ++ (nb n ++ c)) (hp : a.length = p) (hn : n < 128 ^ 6) : rdN V p 6 0 0 1 = .ok ((n : Int), p + (nb n).length) := by
  have := rdN_nb n a c p 6 0 0 1 (by omega) (nb_len 5 n hn) (fun h => by omega)
  rw [List.append_assoc] at this
  rw [h, this]
  simp
theorem val_fx2 (n : Nat) (h : n < 65536) : val 0 (fx (n : Int) 2 []) = (n : Int) := by
  rw [val_fx 2 0 n [] (by omega) (by omega)]
  simp [val]
theorem read_volume_gen (V body : List Int) (k m L a1 a2 a3 cS : Nat) (r1 : rdN V 2 6 0 0 1 = .ok ((k : Int), a1)) (r2 : rdN V a1 6 0 0 1 = .ok ((m : Int), a2)) (r3 : rdN V a2 6 0 0 1 = .ok ((L : Int), a3))
    (hl : V.length = a3 + 2 + body.length + 2) (r4 : val 0 ((V.drop a3).take 2) = (cS : Int)) (r5 : val 0 ((V.drop (a3 + 2 + body.length)).take 2) = ((chkV (V.take (a3 + 2 + body.length)) : Nat) : Int)) (t2 : V.take 2 = [70, 86]) (r6 : (V.drop (a3 + 2)).take body.length = body)
    (hk : k ≤ nVol m L) (hm : 1 ≤ m) (hm2 : m ≤ 1000) (h1 : 1 ≤ L) (hs : L ≤ 20000) (hb : body.length = bLong k m L) :
    f_read_volume [tN V] = .ok (.tuple [.int k, .tuple [.int m, .int L, .int cS], tN body]) := by
  have q1 := read_number_eq V 2
  have q2 := read_number_eq V a1
  have q3 := read_number_eq V a2
  have q4 := read_fixed_eq V a3 2
  have q5 := read_fixed_eq V (a3 + 2 + body.length) 2
  have c1 := check_of_eq (V.take (a3 + 2 + body.length))
  have hm3 := how_many_eq m L hm (by omega) (by omega)
  have bl := body_long_eq k m L hk hm (by omega) (by omega)
  have t3 := cutI_to V 2
  have t4 := cutI_butlast V 2 (by decide)
  have t5 := cutI_mid V (a3 + 2) 2 (by decide)
  have mx : fMaxA [.int ((a3 : Int) + 2), .int ((V.length : Int) - 2)] = some (.int ((a3 + 2 + body.length : Nat) : Int)) := fMaxA_le (by omega) (by omega)
  rw [r1] at q1
  rw [r2] at q2
  rw [r3] at q3
  rw [if_neg (by omega), r4] at q4
  rw [if_neg (by omega), r5] at q5
  rw [hl, show a3 + 2 + body.length + 2 - 2 = a3 + 2 + body.length by omega] at t4
  rw [hl, show a3 + 2 + body.length + 2 - 2 - (a3 + 2) = body.length by omega, r6] at t5
  rw [t2] at t3
  have hk2 : ¬ ((nVol m L : Nat) : Int) < (k : Int) := by omega
  have hl2 : ((bLong k m L : Nat) : Int) = (V.length : Int) - 2 - ((a3 : Int) + 2) := by omega
  generalize V.take (a3 + 2 + body.length) = VB at *
  generalize a3 + 2 + body.length = A4 at *
  generalize chkV VB = cB at *
  generalize bLong k m L = bl0 at *
  generalize nVol m L = nv at *
  simp only [rsP] at q1 q2 q3
  simp only [tN, List.map_append, List.map_cons, List.map_nil, List.map_replicate, List.map_map, Int.cast_ofNat_Int, Int.natCast_add, List.append_assoc, List.cons_append, List.nil_append] at *
  have n0 : opNe (.tuple [.int 70, .int 86]) (.tuple [.int 70, .int 86]) = some (.bool false) := opNe_tN [70, 86] [70, 86]
  have i1 : (1 : Int) ≤ m := by omega
  have i2 : (m : Int) ≤ 1000 := by omega
  have i3 : (1 : Int) ≤ L := by omega
  have i4 : (L : Int) ≤ 20000 := by omega
  simp (disch := omega) [f_read_volume_at, b_read_volume_ap, List.getElem?_cons_zero, ite_ok, ite_so, ite_nx, mulOk, n0, i1, i2, i3, i4, q1, q2, q3, q4, mx, q5, t3, t4, c1, hm3, bl, hk2, hl2, t5]
theorem body_len (s : List Int) (m k : Nat) (hk : k ≤ nVol m s.length) (hm : 1 ≤ m) : ((bodiesA s m).getD k []).length = bLong k m s.length := by
  unfold bLong
  by_cases c : k = nVol m s.length
  · rw [if_pos c, c, ← chunks_len s m]
    have : (bodiesA s m).getD (chunks s m).length [] = mixL (chunks s m) (min m s.length) := by
      unfold bodiesA
      rw [List.getD_eq_getElem?_getD, List.getElem?_append_right (Nat.le_refl _)]
      simp
    rw [this, mixL_len]
  · rw [if_neg c]
    have hk2 : k < nVol m s.length := by omega
    have h1 : k < (chunks s m).length := by rw [chunks_len]; exact hk2
    have : (bodiesA s m).getD k [] = (s.drop (k * m)).take m := by
      unfold bodiesA
      rw [List.getD_eq_getElem?_getD, List.getElem?_append_left h1, List.getElem?_eq_getElem h1]
      simp [chunks]
    rw [this]
    simp
theorem read_volume_ok (k m : Nat) (s body : List Int) (hk : k ≤ nVol m s.length) (hm : 1 ≤ m) (hm2 : m ≤ 1000) (h1 : 1 ≤ s.length) (hs : s.length ≤ 20000) (hb : body.length = bLong k m s.length) :
    f_read_volume [tN (volV k m s body)] = .ok (.tuple [.int k, .tuple [.int m, .int s.length, .int (chkV s : Nat)], tN body]) := by
  have hn := nVol_le m s.length hm
  have eV : volV k m s body = 70 :: 86 :: (nb k ++ (nb m ++ (nb s.length ++ (fx (chkV s) 2 [] ++ (body ++ fx (chkV (volB k m s body)) 2 []))))) := by
    unfold volV volB; simp
  have l4 := fx_len 2 (chkV s : Nat) []
  have l5 := fx_len 2 (chkV (volB k m s body) : Nat) []
  simp only [List.length_nil, Nat.add_zero] at l4 l5
  have hlB : (volB k m s body).length = 2 + (nb k).length + (nb m).length + (nb s.length).length + 2 + body.length := by simp [volB, l4]; omega
  have hlV : (volV k m s body).length = 2 + (nb k).length + (nb m).length + (nb s.length).length + 2 + body.length + 2 := by rw [← hlB]; simp [volV, l5]
  refine read_volume_gen (volV k m s body) body k m s.length (2 + (nb k).length) (2 + (nb k).length + (nb m).length) (2 + (nb k).length + (nb m).length + (nb s.length).length) (chkV s) ?_ ?_ ?_ hlV ?_ ?_ ?_ ?_ hk hm hm2 h1 hs hb
  · exact rdN_at (a := [70, 86]) (c := nb m ++ (nb s.length ++ (fx (chkV s) 2 [] ++ (body ++ fx (chkV (volB k m s body)) 2 [])))) eV rfl (by omega)
  · exact rdN_at (a := 70 :: 86 :: nb k) (c := nb s.length ++ (fx (chkV s) 2 [] ++ (body ++ fx (chkV (volB k m s body)) 2 []))) (by rw [eV]; simp) (by simp; omega) (by omega)
  · exact rdN_at (a := 70 :: 86 :: (nb k ++ nb m)) (c := fx (chkV s) 2 [] ++ (body ++ fx (chkV (volB k m s body)) 2 [])) (by rw [eV]; simp) (by simp; omega) (by omega)
  · rw [mid_at (a := 70 :: 86 :: (nb k ++ (nb m ++ nb s.length))) (b := fx (chkV s) 2 []) (c := body ++ fx (chkV (volB k m s body)) 2 []) (q := 2) (by rw [eV]; simp) (by simp; omega) l4]
    exact val_fx2 _ (chk_lt (by decide) _)
  · rw [← hlB]
    have tb : (volV k m s body).take (volB k m s body).length = volB k m s body := by unfold volV; rw [List.take_append_of_le_length (Nat.le_refl _), List.take_length]
    rw [tb, mid_at (a := volB k m s body) (b := fx (chkV (volB k m s body)) 2 []) (c := []) (q := 2) (by simp [volV]) rfl l5]
    exact val_fx2 _ (chk_lt (by decide) _)
  · rw [eV]; rfl
  · exact mid_at (a := 70 :: 86 :: (nb k ++ (nb m ++ (nb s.length ++ fx (chkV s) 2 [])))) (c := fx (chkV (volB k m s body)) 2 []) (by rw [eV]; simp) (by simp [l4]; omega) rfl
def kst (ks : List Int) (x : Int) : List Int := if x ∈ ks then ks else ks ++ [x]
def kys (p : List Int) : List Int := p.foldl kst []
theorem kys_snoc (p : List Int) (x : Int) : kys (p ++ [x]) = if x ∈ kys p then kys p else kys p ++ [x] := by rw [kys, kys, List.foldl_append]; rfl
theorem mem_kst : ∀ (p ks : List Int) (x : Int), x ∈ p.foldl kst ks ↔ x ∈ ks ∨ x ∈ p
  | [], ks, x => by simp
  | y :: p, ks, x => by
    rw [List.foldl_cons, mem_kst p]
    unfold kst
    by_cases h : y ∈ ks
    · rw [if_pos h, List.mem_cons]
      constructor
      · rintro (z | z)
        · exact .inl z
        · exact .inr (.inr z)
      · rintro (z | rfl | z)
        · exact .inl z
        · exact .inl h
        · exact .inr z
    · rw [if_neg h, List.mem_append, List.mem_singleton, List.mem_cons, or_assoc]
theorem mem_kys {p : List Int} {x : Int} : x ∈ kys p ↔ x ∈ p := by rw [kys, mem_kst]; simp
theorem nd_kst : ∀ (p ks : List Int), ks.Nodup → (p.foldl kst ks).Nodup
  | [], ks, h => h
  | y :: p, ks, h => by
    rw [List.foldl_cons]
    refine nd_kst p _ ?_
    unfold kst
    by_cases c : y ∈ ks
    · rw [if_pos c]; exact h
    · rw [if_neg c]
      refine List.nodup_append.mpr ⟨h, by simp, fun a ha b hb => ?_⟩
      rw [List.mem_singleton] at hb
      subst hb
      exact fun z => c (z ▸ ha)
theorem kys_nd (p : List Int) : (kys p).Nodup := nd_kst p [] List.nodup_nil
theorem len_kst : ∀ (p ks : List Int), (p.foldl kst ks).length ≤ ks.length + p.length
  | [], ks => by simp
  | y :: p, ks => by
    rw [List.foldl_cons]
    refine Nat.le_trans (len_kst p _) ?_
    unfold kst
    split
    · rw [List.length_cons]; omega
    · simp only [List.length_append, List.length_cons, List.length_nil]; omega
theorem kys_len (p : List Int) : (kys p).length ≤ p.length := by have := len_kst p []; simpa [kys] using this
abbrev fK (ks : List Int) (g : Int → PyData) : KD := ks.map fun k => ((Sum.inl k : Key), g k)
theorem fK_any (g : Int → PyData) (x : Int) : ∀ ks : List Int, ((fK ks g).any fun p => decide (p.1 = (Sum.inl x : Key))) = decide (x ∈ ks)
  | [] => rfl
  | k :: r => by
    have ih := fK_any g x r
    simp only [fK] at ih
    simp only [fK, List.map_cons, List.any_cons, ih]
    by_cases h : k = x
    · subst h; simp
    · have h2 : ¬ x = k := fun z => h z.symm
      simp [h, h2]
theorem fK_get (g : Int → PyData) (x : Int) : ∀ ks : List Int, getA (fK ks g) (.inl x) = if x ∈ ks then some (g x) else none
  | [] => rfl
  | k :: r => by
    have ih := fK_get g x r
    unfold getA at ih ⊢
    by_cases h : k = x
    · subst h; simp
    · have h2 : ¬ x = k := fun z => h z.symm
      simp only [List.map_cons]
      rw [List.find?_cons_of_neg (by simp [h]), ih]
      simp [h2]
theorem fK_in {g : Int → PyData} {x : Int} {d : PyData} {ks : List Int} (h : x ∈ ks) : putA (fK ks g) (.inl x) d = fK ks fun k => if k = x then d else g k := by
  unfold putA
  rw [fK_any, if_pos (by simpa using h), List.map_map]
  refine List.map_congr_left fun k _ => ?_
  by_cases e : k = x
  · subst e; simp
  · have e2 : ¬ (Sum.inl k : Key) = Sum.inl x := fun z => e (Sum.inl.inj z)
    simp [e, e2]
theorem fK_out {g : Int → PyData} {x : Int} {d : PyData} {ks : List Int} (h : x ∉ ks) : putA (fK ks g) (.inl x) d = fK ks g ++ [(.inl x, d)] := by
  unfold putA
  rw [fK_any, if_neg (by simpa using h)]
abbrev cK (p : List Int) : KD := fK (kys p) fun k => .int (p.count k : Nat)
theorem cK_get (p : List Int) (x : Int) : (getA (cK p) (.inl x)).getD (.int 0) = .int (p.count x : Nat) := by
  rw [fK_get]
  by_cases h : x ∈ kys p
  · rw [if_pos h]; rfl
  · rw [if_neg h, List.count_eq_zero.mpr fun z => h (mem_kys.mpr z)]; rfl
theorem cK_put (p : List Int) (x : Int) : putA (cK p) (.inl x) (.int ((p.count x : Nat) + 1)) = cK (p ++ [x]) := by
  have hc : ∀ k, (p ++ [x]).count k = p.count k + if x = k then 1 else 0 := fun k => by
    rw [List.count_append, List.count_singleton]
    simp
  by_cases h : x ∈ kys p
  · rw [fK_in h, cK, kys_snoc, if_pos h]
    refine List.map_congr_left fun k _ => ?_
    have hk := hc k
    simp only [hk]
    by_cases e : k = x
    · subst e; simp
    · have e2 : ¬ x = k := fun z => e z.symm
      simp [e, e2]
  · rw [fK_out h]
    show _ = (kys (p ++ [x])).map fun k => ((Sum.inl k : Key), PyData.int ((p ++ [x]).count k : Nat))
    rw [kys_snoc, if_neg h, List.map_append]
    congr 1
    · refine List.map_congr_left fun k hk => ?_
      have e2 : ¬ x = k := fun z => h (z ▸ hk)
      have hk2 := hc k
      rw [if_neg e2] at hk2
      rw [hk2]
      rfl
    · have hk2 := hc x
      rw [if_pos rfl] at hk2
      rw [List.map_singleton, hk2]
      rfl
abbrev nK (ks : List Int) (f : Int → Nat) : KD := fK ks fun k => .int (f k : Nat)
/-! volumes recovered -/
def xorR (l : List Nat) : Nat := l.foldr (· ^^^ ·) 0
theorem xorR_cons (x : Nat) (l : List Nat) : xorR (x :: l) = x ^^^ xorR l := rfl
theorem xorR_perm {a b : List Nat} (h : a.Perm b) : xorR a = xorR b := by
  induction h with
  | nil => rfl
  | cons x _ ih => rw [xorR_cons, xorR_cons, ih]
  | swap x y l => rw [xorR_cons, xorR_cons, xorR_cons, xorR_cons, ← Nat.xor_assoc, ← Nat.xor_assoc, Nat.xor_comm x y]
  | trans _ _ h1 h2 => rw [h1, h2]
theorem xorR_app : ∀ a b : List Nat, xorR (a ++ b) = xorR a ^^^ xorR b
  | [], b => by show xorR b = 0 ^^^ xorR b; rw [Nat.zero_xor]
  | x :: a, b => by rw [List.cons_append, xorR_cons, xorR_cons, xorR_app a b, Nat.xor_assoc]
def cN (bs : List (List Int)) (i : Nat) : Nat := xorR (bs.map fun b => (b.getD i 0).toNat)
theorem byt_getD {b : List Int} (h : Byt b) (i : Nat) : 0 ≤ b.getD i 0 ∧ b.getD i 0 < 256 := by
  by_cases c : i < b.length
  · rw [List.getD_eq_getElem?_getD, List.getElem?_eq_getElem c]
    exact h _ (List.getElem_mem c)
  · rw [List.getD_eq_getElem?_getD, List.getElem?_eq_none (by omega)]
    decide
theorem colS_nat {b : List Int} (h : Byt b) (i a : Nat) : colS i (a : Int) b = ((a ^^^ (b.getD i 0).toNat : Nat) : Int) := by
  have hb := byt_getD h i
  unfold colS
  by_cases c : i < b.length
  · rw [if_pos c]
    obtain ⟨x, hx⟩ := Int.eq_ofNat_of_zero_le hb.1
    rw [hx, Bits.bitXor_pp (by omega) (by omega)]
    rfl
  · rw [if_neg c, List.getD_eq_getElem?_getD, List.getElem?_eq_none (by omega)]
    show (a : Int) = ((a ^^^ 0 : Nat) : Int)
    rw [Nat.xor_zero]
theorem col_nat : ∀ (bs : List (List Int)) (i a : Nat), (∀ b ∈ bs, Byt b) → bs.foldl (colS i) (a : Int) = ((a ^^^ cN bs i : Nat) : Int)
  | [], i, a, _ => by show (a : Int) = ((a ^^^ 0 : Nat) : Int); rw [Nat.xor_zero]
  | b :: bs, i, a, h => by
    rw [List.foldl_cons, colS_nat (h b List.mem_cons_self), col_nat bs i _ fun c hc => h c (List.mem_cons_of_mem _ hc), cN, cN, List.map_cons, xorR_cons, Nat.xor_assoc]
theorem col_eq {bs : List (List Int)} (h : ∀ b ∈ bs, Byt b) (i : Nat) : col bs i = (cN bs i : Nat) := by
  have := col_nat bs i 0 h
  rw [Nat.zero_xor] at this
  exact this
abbrev Bd (s : List Int) (m k : Nat) : List Int := (bodiesA s m).getD k []
theorem Bd_lt {s : List Int} {m k : Nat} (h : k < nVol m s.length) : Bd s m k = (s.drop (k * m)).take m := by
  have h1 : k < (chunks s m).length := by rw [chunks_len]; exact h
  unfold Bd bodiesA
  rw [List.getD_eq_getElem?_getD, List.getElem?_append_left h1, List.getElem?_eq_getElem h1]
  simp [chunks]
theorem Bd_last (s : List Int) (m : Nat) : Bd s m (nVol m s.length) = mixL (chunks s m) (min m s.length) := by
  unfold Bd bodiesA
  rw [← chunks_len s m, List.getD_eq_getElem?_getD, List.getElem?_append_right (Nat.le_refl _)]
  simp
theorem chunks_Bd (s : List Int) (m : Nat) : chunks s m = (List.range (nVol m s.length)).map (Bd s m) := by
  refine List.ext_getElem (by rw [chunks_len, List.length_map, List.length_range]) fun i h1 h2 => ?_
  have h3 : i < nVol m s.length := by rw [chunks_len] at h1; exact h1
  rw [List.getElem_map, List.getElem_range, Bd_lt h3]
  simp [chunks]
def gB (s : List Int) (m i k : Nat) : Nat := ((Bd s m k).getD i 0).toNat
theorem gB_last {s : List Int} {m i : Nat} (hb : Byt s) (hi : i < min m s.length) : gB s m i (nVol m s.length) = xorR ((List.range (nVol m s.length)).map (gB s m i)) := by
  unfold gB
  rw [Bd_last]
  have : (mixL (chunks s m) (min m s.length)).getD i 0 = col (chunks s m) i := by
    rw [mixL, List.getD_eq_getElem?_getD, List.getElem?_map, List.getElem?_range hi]
    rfl
  rw [this, col_eq (chunks_byt s m hb), chunks_Bd, cN, List.map_map]
  rfl
theorem perm_but {l : List Nat} {k : Nat} (nd : l.Nodup) (h : k ∈ l) : l.Perm (k :: l.filter (· ≠ k)) := by
  have := List.perm_cons_erase h
  rw [nd.erase_eq_filter] at this
  refine this.trans (.cons _ (.of_eq ?_))
  refine List.filter_congr fun x _ => ?_
  by_cases e : x = k <;> simp [e]
theorem recov {s : List Int} {m k0 : Nat} (hb : Byt s) (hm : 1 ≤ m) (hk : k0 < nVol m s.length) {js : List Nat} (hj : js.Perm ((List.range (nVol m s.length + 1)).filter (· ≠ k0))) :
    (mixL (js.map (Bd s m)) (min m s.length)).take (bLong k0 m s.length) = Bd s m k0 := by
  have hlen := body_len s m k0 (by omega) hm
  have hle := bodiesA_le s m k0
  rw [hlen] at hle
  refine List.ext_getElem (by rw [List.length_take, mixL_len, hlen]; omega) fun i h1 h2 => ?_
  have h2' : i < bLong k0 m s.length := by rw [← hlen]; exact h2
  have hi : i < min m s.length := by omega
  have hjb : ∀ b ∈ js.map (Bd s m), Byt b := fun b hb' => by
    obtain ⟨j, _, rfl⟩ := List.mem_map.mp hb'
    exact bodiesA_byt s m hb j
  have e1 : (mixL (js.map (Bd s m)) (min m s.length))[i]'(by rw [mixL_len]; exact hi) = (cN (js.map (Bd s m)) i : Nat) := by
    rw [← col_eq hjb]
    simp [mixL]
  rw [List.getElem_take, e1]
  have e2 : cN (js.map (Bd s m)) i = xorR (js.map (gB s m i)) := by rw [cN, List.map_map]; rfl
  have e3 := xorR_perm (hj.map (gB s m i))
  have e4 := xorR_perm ((perm_but (List.nodup_range (n := nVol m s.length + 1)) (List.mem_range.mpr (by omega : k0 < nVol m s.length + 1))).map (gB s m i))
  rw [List.map_cons, xorR_cons, List.range_succ, List.map_append, xorR_app, List.map_singleton, ← gB_last hb hi] at e4
  have e5 : xorR [gB s m i (nVol m s.length)] = gB s m i (nVol m s.length) := Nat.xor_zero _
  rw [e5, Nat.xor_self] at e4
  rw [List.range_succ] at e3
  rw [e2, e3]
  generalize xorR (List.map (gB s m i) (List.filter (fun x => decide (x ≠ k0)) (List.range (nVol m s.length) ++ [nVol m s.length]))) = X at *
  have e6 : gB s m i k0 = X := by
    have : gB s m i k0 ^^^ (gB s m i k0 ^^^ X) = gB s m i k0 ^^^ 0 := by rw [← e4]
    rw [← Nat.xor_assoc, Nat.xor_self, Nat.zero_xor, Nat.xor_zero] at this
    exact this.symm
  rw [← e6, gB]
  have hy := byt_getD (bodiesA_byt s m hb k0) i
  have e7 : (Bd s m k0).getD i 0 = (Bd s m k0)[i] := by rw [List.getD_eq_getElem?_getD, List.getElem?_eq_getElem h2]; rfl
  rw [e7] at hy ⊢
  omega
theorem flat_chunks (s : List Int) (m : Nat) : ∀ n, ((List.range n).map fun i => (s.drop (i * m)).take m).flatten = s.take (n * m)
  | 0 => by simp
  | n + 1 => by
    rw [List.range_succ, List.map_append, List.flatten_append, flat_chunks s m n, List.map_singleton, List.flatten_singleton, Nat.succ_mul, List.take_add]
theorem flat_Bd {s : List Int} {m : Nat} (hm : 1 ≤ m) : ((List.range (nVol m s.length)).map (Bd s m)).flatten = s := by
  have e : (List.range (nVol m s.length)).map (Bd s m) = (List.range (nVol m s.length)).map fun i => (s.drop (i * m)).take m := List.map_congr_left fun i hi => Bd_lt (List.mem_range.mp hi)
  rw [e, flat_chunks, List.take_of_length_le]
  unfold nVol
  have := Nat.div_add_mod (s.length + m - 1) m
  have h2 := Nat.mod_lt (s.length + m - 1) (show 0 < m by omega)
  rw [Nat.mul_comm] at this
  omega
/-! joined: the walk -/
def Wj (s : List Int) (m : Nat) : List Int := [(m : Int), (s.length : Int), ((chkV s : Nat) : Int)]
def Pj (s : List Int) (m k : Nat) : PyData := .tuple [.int (k : Int), .tuple ((Wj s m).map PyData.int), tN (Bd s m k)]
abbrev Vj (s : List Int) (m k : Nat) : PyData := tN (volV k m s (Bd s m k))
abbrev kI (is : List Nat) : List Int := kys (is.map fun (k : Nat) => (k : Int))
theorem kI_len (is : List Nat) : (kI is).length ≤ is.length := by
  have := kys_len (is.map fun (k : Nat) => (k : Int))
  rwa [List.length_map] at this
theorem mem_kI {is : List Nat} {k : Nat} : (k : Int) ∈ kI is ↔ k ∈ is := by
  rw [mem_kys, List.mem_map]
  constructor
  · rintro ⟨j, hj, e⟩
    rw [show k = j by omega]; exact hj
  · exact fun h => ⟨k, h, rfl⟩
abbrev gI (s : List Int) (m : Nat) : Int → PyData := fun x => tN (Bd s m x.toNat)
theorem setdV_iS {ρ : En} {i : Nat} {kvs : KD} {x : Int} {d z : PyData} (hl : kvs.length < 16777216) (e : getA kvs (.inl x) = some d) : setdV ρ i kvs (.int x) z = .ok (d, ρ) := by
  unfold setdV
  rw [show keyOf (.int x) = some (Sum.inl x) from rfl]
  simp only [if_pos hl, e]
theorem setdV_iN {ρ : En} {i : Nat} {kvs : KD} {x : Int} {z : PyData} (hl : kvs.length < 16777216) (e : getA kvs (.inl x) = none) : setdV ρ i kvs (.int x) z = .ok (z, ρ.set i (some (.k (putA kvs (.inl x) z)))) := by
  unfold setdV
  rw [show keyOf (.int x) = some (Sum.inl x) from rfl]
  simp only [if_pos hl, e]
theorem j_1 {s : List Int} {m : Nat} (hm : 1 ≤ m) (hm2 : m ≤ 1000) (h1 : 1 ≤ s.length) (hs : s.length ≤ 20000) (is : List Nat) (hi : ∀ k ∈ is, k ≤ nVol m s.length) (x : PyData) :
    cLoop (gNm 13) t_joined_1 e_joined_1 [some (.d x), none, none, none, none, none, none, none, none, none, none, none, none, none] (is.map (Vj s m)) = .ok (is.map (Pj s m)) := by
  refine cLoop_map fun k hk => ⟨_, rfl, by simp [t_joined_1_ap], ?_⟩
  have e := read_volume_ok k m s (Bd s m k) (hi k hk) hm hm2 h1 hs (body_len s m k (hi k hk) hm)
  simp only [tN] at e
  show e_joined_1 _ = .ok (Pj s m k)
  simp only [Vj, Pj, Wj, tN, List.map_cons, List.map_nil]
  generalize (volV k m s (Bd s m k)).map PyData.int = VI at *
  generalize (Bd s m k).map PyData.int = BI at *
  simp [e_joined_1_ap, e]
theorem j_2 {s : List Int} {m : Nat} (i0 : Nat) (rest : List PyData) : ∀ (r p : List Nat), p.length + r.length ≤ 100000 →
    fLoop g_joined_2 w_joined_2 (r.map (Pj s m)) [none, some (.d (.list (Pj s m i0 :: rest))), some (.k (fK (kI p) (gI s m))), none, none, none, none, none, none, none, none, none, none, none] = .nx [none, some (.d (.list (Pj s m i0 :: rest))), some (.k (fK (kI (p ++ r)) (gI s m))), none, none, none, none, none, none, none, none, none, none, none]
  | [], p, _ => by rw [List.append_nil]; rfl
  | k :: r, p, h => by
    rw [List.length_cons] at h
    have ih := j_2 (s := s) (m := m) i0 rest r (p ++ [k]) (by simp; omega)
    rw [List.append_assoc, List.singleton_append] at ih
    have hl : (fK (kI p) (gI s m)).length < 16777216 := by
      have := kI_len p
      rw [List.length_map]
      omega
    have eg := fK_get (gI s m) (k : Int) (kI p)
    have es : kI (p ++ [k]) = if (k : Int) ∈ kI p then kI p else kI p ++ [(k : Int)] := by
      unfold kI
      rw [List.map_append, List.map_singleton, kys_snoc]
    have x0 : atI (Pj s m i0 :: rest) 0 = some (Pj s m i0) := atI_z _ _
    have nW := opNe_tN (Wj s m) (Wj s m)
    have nB := opNe_tN (Bd s m k) (Bd s m k)
    simp only [decide_true, Bool.not_true] at nW nB
    rw [List.map_cons, fLoop_cons]
    have hgk : gI s m (k : Int) = .tuple ((Bd s m k).map PyData.int) := by simp [gI, tN]
    by_cases c : (k : Int) ∈ kI p
    · rw [if_pos c] at eg es
      rw [es] at ih
      rw [hgk] at eg
      have sd : ∀ (ρ : En) (z : PyData), setdV ρ 2 (fK (kI p) (gI s m)) (.int (k : Int)) z = .ok (.tuple ((Bd s m k).map PyData.int), ρ) := fun ρ z => setdV_iS hl eg
      simp only [Pj, tN] at ih x0 ⊢
      generalize fK (kI (p ++ k :: r)) (gI s m) = K2 at *
      generalize fK (kI p) (gI s m) = K0 at *
      generalize (Wj s m).map PyData.int = WI at *
      generalize (Bd s m k).map PyData.int = BI at *
      generalize (Bd s m i0).map PyData.int = B0 at *
      simp [g_joined_2_ap, w_joined_2_ap, List.getElem?_cons_zero, ite_ok, ite_so, ite_nx, mulOk, x0, nW, nB, sd]
      exact ih
    · rw [if_neg c] at eg es
      rw [es] at ih
      have hput : putA (fK (kI p) (gI s m)) (.inl (k : Int)) (.tuple ((Bd s m k).map PyData.int)) = fK (kI p ++ [(k : Int)]) (gI s m) := by
        rw [fK_out c]
        show _ = (kI p ++ [(k : Int)]).map fun x => ((Sum.inl x : Key), gI s m x)
        rw [List.map_append, List.map_singleton, hgk]
      have sd : ∀ (ρ : En), setdV ρ 2 (fK (kI p) (gI s m)) (.int (k : Int)) (.tuple ((Bd s m k).map PyData.int)) = .ok (.tuple ((Bd s m k).map PyData.int), ρ.set 2 (some (.k (fK (kI p ++ [(k : Int)]) (gI s m))))) := fun ρ => by rw [setdV_iN hl eg, hput]
      simp only [Pj, tN] at ih x0 ⊢
      generalize fK (kI (p ++ k :: r)) (gI s m) = K2 at *
      generalize fK (kI p ++ [(k : Int)]) (gI s m) = K1 at *
      generalize fK (kI p) (gI s m) = K0 at *
      generalize (Wj s m).map PyData.int = WI at *
      generalize (Bd s m k).map PyData.int = BI at *
      generalize (Bd s m i0).map PyData.int = B0 at *
      simp [g_joined_2_ap, w_joined_2_ap, List.getElem?_cons_zero, ite_ok, ite_so, ite_nx, mulOk, x0, nW, nB, sd]
      exact ih
def lostN (s : List Int) (m : Nat) (is : List Nat) : List Nat := (List.range (nVol m s.length)).filter fun k => decide (k ∉ is)
abbrev kN (l : List Nat) : List PyData := l.map fun (k : Nat) => PyData.int (k : Int)
theorem j_3 {s : List Int} {m : Nat} (is : List Nat) (o1 o3 o10 o11 o12 : Option B) : cLoop (gNm 5) t_joined_3 e_joined_3 [none, o1, some (.k (fK (kI is) (gI s m))), o3, none, none, none, none, none, none, o10, o11, o12, none] (rgD 0 (nVol m s.length)) = .ok (kN (lostN s m is)) := by
  unfold rgD
  refine cLoop_filter fun k hk => ⟨_, rfl, ?_, fun _ => ?_⟩
  · have eg := fK_get (gI s m) (k : Int) (kI is)
    have e0 : (0 : Int) + (k : Int) = (k : Int) := by omega
    rw [e0]
    by_cases c : k ∈ is
    · rw [if_pos (mem_kI.mpr c)] at eg
      generalize fK (kI is) (gI s m) = K at *
      simp [t_joined_3_ap, eg, c]
    · rw [if_neg (fun z => c (mem_kI.mp z))] at eg
      generalize fK (kI is) (gI s m) = K at *
      simp [t_joined_3_ap, eg, c]
  · simp [e_joined_3_ap]
theorem nd_ext {a b : List Nat} (ha : a.Nodup) (hb : b.Nodup) (h : ∀ x, x ∈ a ↔ x ∈ b) : a.Perm b := (List.perm_ext_iff_of_nodup ha hb).mpr h
theorem kI_toNat (is : List Nat) : ((kI is).map Int.toNat).Nodup ∧ ∀ k, k ∈ (kI is).map Int.toNat ↔ k ∈ is := by
  have hn : ∀ x ∈ kI is, 0 ≤ x := fun x hx => by
    obtain ⟨k, _, rfl⟩ := List.mem_map.mp (mem_kys.mp hx)
    omega
  refine ⟨?_, fun k => ?_⟩
  · have nd := kys_nd (is.map fun (k : Nat) => (k : Int))
    rw [List.nodup_iff_pairwise_ne] at nd ⊢
    rw [List.pairwise_map]
    exact nd.imp_of_mem fun {a b} ha hb h z => h (by have := hn a ha; have := hn b hb; omega)
  · rw [List.mem_map]
    constructor
    · rintro ⟨x, hx, rfl⟩
      have := hn x hx
      rw [← mem_kI, Int.toNat_of_nonneg this]
      exact hx
    · exact fun h => ⟨(k : Int), mem_kI.mpr h, rfl⟩
/-- the lost one is put in -/
theorem j_5 {s : List Int} {m k0 : Nat} (hb : Byt s) (hm : 1 ≤ m) (hm2 : m ≤ 1000) (hs : s.length ≤ 20000) (hk : k0 < nVol m s.length) {is : List Nat} (hlen : is.length ≤ 100000) (hi : ∀ k, k ∈ is ↔ k ≤ nVol m s.length ∧ k ≠ k0) (o12 : Option B) :
    fLoop g_joined_5 w_joined_5 (kN [k0]) [none, none, some (.k (fK (kI is) (gI s m))), some (.d (.int (nVol m s.length : Nat))), none, none, none, none, none, none, some (.d (.int (m : Int))), some (.d (.int (s.length : Int))), o12, none] =
      .nx [none, none, some (.k (fK (kI is) (gI s m) ++ [(.inl (k0 : Int), tN (Bd s m k0))])), some (.d (.int (nVol m s.length : Nat))), none, none, none, none, none, none, some (.d (.int (m : Int))), some (.d (.int (s.length : Int))), o12, none] := by
  obtain ⟨nd, hmem⟩ := kI_toNat is
  have pj : ((kI is).map Int.toNat).Perm ((List.range (nVol m s.length + 1)).filter (· ≠ k0)) := nd_ext nd (List.nodup_range.filter _) fun k => by
    rw [hmem, hi, List.mem_filter, List.mem_range]
    simp
    omega
  have hr := recov hb hm hk pj
  have eC : cLoop (gTp 2 (gsCons (gNm 7) (gsCons (gNm 9) gsNil))) t_joined_4 e_joined_4 [none, none, some (.f (fK (kI is) (gI s m))), some (.d (.int (nVol m s.length : Nat))), none, some (.d (.int (k0 : Int))), none, none, none, none, some (.d (.int (m : Int))), some (.d (.int (s.length : Int))), o12, none] (itemsD (fK (kI is) (gI s m))) = .ok ((((kI is).map Int.toNat).map (Bd s m)).map tN) := by
    rw [itemsD, List.map_map, List.map_map, List.map_map]
    exact cLoop_map fun x hx => ⟨_, rfl, by simp [t_joined_4_ap], by simp [e_joined_4_ap, gI]⟩
  have eM := mixed_eq (((kI is).map Int.toNat).map (Bd s m)) (min m s.length) (by omega) (fun b hb' => by
    obtain ⟨k, _, rfl⟩ := List.mem_map.mp hb'
    exact bodiesA_le s m k)
  have eL := body_long_eq k0 m s.length (by omega) hm (by omega) (by omega)
  have eN := fMin_nat m s.length
  have hkl := kI_len is
  have hI : (itemsD (fK (kI is) (gI s m))).length ≤ 16777216 := by rw [itemsD, List.length_map, List.length_map]; omega
  have hnot : (k0 : Int) ∉ kI is := fun z => ((hi k0).mp (mem_kI.mp z)).2 rfl
  have hput : putA (fK (kI is) (gI s m)) (.inl (k0 : Int)) (tN (Bd s m k0)) = fK (kI is) (gI s m) ++ [(.inl (k0 : Int), tN (Bd s m k0))] := fK_out hnot
  have hl : (fK (kI is) (gI s m)).length < 16777216 := by rw [List.length_map]; omega
  have eT := cutI_to (mixL (((kI is).map Int.toNat).map (Bd s m)) (min m s.length)) (bLong k0 m s.length)
  rw [hr] at eT
  simp only [tN] at eM hput ⊢
  generalize fK (kI is) (gI s m) ++ [(.inl (k0 : Int), .tuple ((Bd s m k0).map PyData.int))] = K1 at *
  generalize fK (kI is) (gI s m) = K0 at *
  generalize (mixL (((kI is).map Int.toNat).map (Bd s m)) (min m s.length)).map PyData.int = MX at *
  generalize ((((kI is).map Int.toNat).map (Bd s m)).map fun xs => PyData.tuple (xs.map PyData.int)) = BL at *
  generalize (Bd s m k0).map PyData.int = B0 at *
  have sp : ∀ ρ, dputV ρ 2 K0 (.tuple B0) (.int (k0 : Int)) = .nx (ρ.set 2 (some (.k K1))) := fun ρ => by rw [dputV_i hl, hput]
  have eC' : cLoop (gTp 2 (gsCons (gNm 7) (gsCons (gNm 9) gsNil))) t_joined_4 e_joined_4 [none, none, some (.f K0), some (.d (.int (nVol m s.length : Nat))), none, some (.d (.int (k0 : Int))), none, none, none, none, some (.d (.int (m : Int))), some (.d (.int (s.length : Int))), o12, none] (itemsD K0) = .ok BL := eC
  generalize ((bLong k0 m s.length : Nat) : Int) = BLn at *
  generalize ((min m s.length : Nat) : Int) = MN at *
  generalize ((nVol m s.length : Nat) : Int) = NV at *
  simp [fLoop_cons, g_joined_5_ap, w_joined_5_ap, eC', hI, eN, eM, eL, eT, sp]
def catB (s : List Int) (m : Nat) : Nat → Nat → List Int
  | _, 0 => []
  | j, n + 1 => Bd s m j ++ catB s m (j + 1) n
theorem catB_eq (s : List Int) (m : Nat) : ∀ (n j : Nat), catB s m j n = ((List.range n).map fun i => Bd s m (j + i)).flatten
  | 0, j => rfl
  | n + 1, j => by
    rw [catB, catB_eq s m n (j + 1), List.range_succ_eq_map, List.map_cons, List.flatten_cons, List.map_map]
    congr 2
    refine List.map_congr_left fun i _ => ?_
    show Bd s m (j + 1 + i) = Bd s m (j + (i + 1))
    congr 1; omega
theorem j_6 {s : List Int} {m : Nat} {K : KD} (o10 o11 o12 : Option B) : ∀ (n j : Nat) (acc : List Int), (∀ k, j ≤ k → k < j + n → getA K (.inl (k : Int)) = some (tN (Bd s m k))) → (acc ++ catB s m j n).length ≤ 1000000 →
    fLoop g_joined_6 w_joined_6 (rgD (j : Int) n) [none, none, some (.k K), none, none, none, some (.d (tN acc)), none, none, none, o10, o11, o12, none] = .nx [none, none, some (.k K), none, none, none, some (.d (tN (acc ++ catB s m j n))), none, none, none, o10, o11, o12, none]
  | 0, j, acc, _, _ => by simp [rgD, catB]
  | n + 1, j, acc, hg, hl => by
    have e := hg j (Nat.le_refl _) (by omega)
    have ih := j_6 (s := s) (m := m) o10 o11 o12 n (j + 1) (acc ++ Bd s m j) (fun k h1 h2 => hg k (by omega) (by omega)) (by rw [List.append_assoc]; exact hl)
    rw [List.append_assoc, show Bd s m j ++ catB s m (j + 1) n = catB s m j (n + 1) from rfl] at ih
    have l1 : (acc.map PyData.int).length + ((Bd s m j).map PyData.int).length ≤ 16777216 := by
      rw [catB] at hl
      simp only [List.length_append, List.length_map] at hl ⊢
      omega
    rw [rgD_succ, fLoop_cons]
    simp only [Int.natCast_add, Int.cast_ofNat_Int] at ih
    simp only [tN, List.map_append] at ih e ⊢
    generalize (catB s m j (n + 1)).map PyData.int = CB at *
    generalize acc.map PyData.int = AC at *
    generalize (Bd s m j).map PyData.int = BJ at *
    simp [g_joined_6_ap, w_joined_6_ap, e, l1]
    exact ih
theorem getA_app (a b : KD) (k : Key) : getA (a ++ b) k = (getA a k).or (getA b k) := by
  unfold getA
  rw [List.find?_append]
  cases a.find? fun p => decide (p.1 = k) <;> rfl
theorem catB_all {s : List Int} {m : Nat} (hm : 1 ≤ m) : catB s m 0 (nVol m s.length) = s := by
  rw [catB_eq]
  have : (List.range (nVol m s.length)).map (fun i => Bd s m (0 + i)) = (List.range (nVol m s.length)).map (Bd s m) := List.map_congr_left fun i _ => by rw [Nat.zero_add]
  rw [this, flat_Bd hm]
/-- the end of joined -/
def jRes (s : List Int) (m : Nat) (is : List Nat) : Rs PyData :=
  if 1 < (lostN s m is).length ∨ (lostN s m is ≠ [] ∧ nVol m s.length ∉ is) then .er (.wth "Missing" "numbers" (.tuple (kN (lostN s m is)))) else .ok (tN s)
theorem joined_eq {s : List Int} {m : Nat} (hb : Byt s) (hm : 1 ≤ m) (hm2 : m ≤ 1000) (h1 : 1 ≤ s.length) (hs : s.length ≤ 20000) (is : List Nat) (hne : is ≠ []) (hlen : is.length ≤ 100000) (hi : ∀ k ∈ is, k ≤ nVol m s.length) :
    f_joined [.tuple (is.map (Vj s m))] = jRes s m is := by
  have e1 := j_1 hm hm2 h1 hs is hi (.tuple (is.map (Vj s m)))
  have hnv := nVol_le m s.length hm
  have eH := how_many_eq m s.length hm (by omega) (by omega)
  have hV : (is.map (Vj s m)).length ≤ 16777216 := by rw [List.length_map]; omega
  have hP : (is.map (Pj s m)).length ≤ 16777216 := by rw [List.length_map]; omega
  obtain ⟨i0, r0, e0⟩ := List.exists_cons_of_ne_nil hne
  have e2 := j_2 (s := s) (m := m) i0 (r0.map (Pj s m)) is [] (by simpa using hlen)
  rw [List.nil_append, show Pj s m i0 :: r0.map (Pj s m) = is.map (Pj s m) by rw [e0]; rfl, show kI [] = [] from rfl, show fK [] (gI s m) = [] from rfl] at e2
  have e3 := j_3 (s := s) (m := m) is (some (.d (.list (is.map (Pj s m))))) (some (.d (.int (nVol m s.length : Nat)))) (some (.d (.int (m : Int)))) (some (.d (.int (s.length : Int)))) (some (.d (.int (chkV s : Nat))))
  have x0 : atI (is.map (Pj s m)) 0 = some (.tuple [.int (i0 : Int), .tuple [.int (m : Int), .int (s.length : Int), .int (chkV s : Nat)], tN (Bd s m i0)]) := by rw [e0, List.map_cons, atI_z]; rfl
  have hpe : (is.map (Pj s m)).isEmpty = false := by rw [e0]; rfl
  have hrg : rng1 [.int (nVol m s.length : Nat)] = .ok (rgD 0 (nVol m s.length)) := by rw [rng1_int _ (by omega) (by omega)]; rfl
  have hrl : (rgD 0 (nVol m s.length)).length ≤ 16777216 := by rw [rgD, List.length_map, List.length_range]; omega
  have hck := check_of_eq s
  have hll : (lostN s m is).length ≤ nVol m s.length := by
    have := List.length_filter_le (fun k => decide (k ∉ is)) (List.range (nVol m s.length))
    rwa [List.length_range] at this
  have egN : (getA (fK (kI is) (gI s m)) (.inl ((nVol m s.length : Nat) : Int))).isSome = decide (nVol m s.length ∈ is) := by
    rw [fK_get]
    by_cases c : nVol m s.length ∈ is
    · rw [if_pos (mem_kI.mpr c)]; simp [c]
    · rw [if_neg (fun z => c (mem_kI.mp z))]; simp [c]
  have hcat := catB_all (s := s) (m := m) hm
  have hsl : (catB s m 0 (nVol m s.length)).length ≤ 1000000 := by rw [hcat]; omega
  have hgK : ∀ k, k ∈ is → getA (fK (kI is) (gI s m)) (.inl (k : Int)) = some (tN (Bd s m k)) := fun k hk => by
    rw [fK_get, if_pos (mem_kI.mpr hk)]
    simp [gI]
  unfold jRes
  have hlost : ∀ k, k ∈ lostN s m is ↔ k < nVol m s.length ∧ k ∉ is := fun k => by
    rw [lostN, List.mem_filter, List.mem_range, decide_eq_true_eq]
  cases hL : lostN s m is with
  | nil =>
    rw [if_neg (by simp)]
    rw [hL] at e3 hlost
    have e6 := j_6 (s := s) (m := m) (K := fK (kI is) (gI s m)) none none (some (.d (.int (chkV s : Nat)))) (nVol m s.length) 0 [] (fun k _ hk => hgK k (by
      by_cases c : k ∈ is
      · exact c
      · exact absurd ((hlost k).mpr ⟨by omega, c⟩) (by simp))) (by rw [List.nil_append]; exact hsl)
    rw [List.nil_append, hcat] at e6
    simp only [kN, List.map_nil, tN, Int.cast_ofNat_Int] at e1 e2 e3 e6 x0 hck ⊢
    generalize fK (kI is) (gI s m) = K0 at *
    generalize s.map PyData.int = SI at *
    generalize is.map (Pj s m) = PP at *
    generalize is.map (Vj s m) = VV at *
    generalize rgD 0 (nVol m s.length) = RG at *
    generalize ((nVol m s.length : Nat) : Int) = NV at *
    generalize ((chkV s : Nat) : Int) = CK at *
    simp [f_joined_at, b_joined_ap, List.getElem?_cons_zero, ite_ok, ite_so, ite_nx, mulOk, e1, e2, e3, e6, eH, x0, hV, hP, hpe, hrg, hrl, hck]
  | cons k0 l =>
    cases l with
    | nil =>
      rw [hL] at e3 hlost
      by_cases cN : nVol m s.length ∈ is
      · rw [if_neg (by simp [cN])]
        have hk0 := (hlost k0).mp List.mem_cons_self
        have hmem : ∀ k, k ∈ is ↔ k ≤ nVol m s.length ∧ k ≠ k0 := fun k => by
          constructor
          · intro h
            exact ⟨hi k h, fun z => hk0.2 (z ▸ h)⟩
          · rintro ⟨h2, h3⟩
            by_cases c : k ∈ is
            · exact c
            · by_cases c2 : k = nVol m s.length
              · rw [c2]; exact cN
              · have := (hlost k).mpr ⟨by omega, c⟩
                rw [List.mem_singleton] at this
                exact absurd this h3
        have e5 := j_5 hb hm hm2 hs hk0.1 hlen hmem (some (.d (.int (chkV s : Nat))))
        have e6 := j_6 (s := s) (m := m) (K := fK (kI is) (gI s m) ++ [(.inl (k0 : Int), tN (Bd s m k0))]) none none (some (.d (.int (chkV s : Nat)))) (nVol m s.length) 0 [] (fun k _ hk => by
          rw [getA_app]
          by_cases c : k = k0
          · subst c
            rw [fK_get, if_neg (fun z => hk0.2 (mem_kI.mp z))]
            simp [getA]
          · rw [hgK k ((hmem k).mpr ⟨by omega, c⟩)]
            rfl) (by rw [List.nil_append]; exact hsl)
        rw [List.nil_append, hcat] at e6
        have cN' : decide (nVol m s.length ∈ is) = true := decide_eq_true cN
        rw [cN'] at egN
        have egN2 := Option.isSome_iff_ne_none.mp egN
        simp only [kN, List.map_cons, List.map_nil, tN, Int.cast_ofNat_Int] at e1 e2 e3 e5 e6 x0 hck ⊢
        generalize fK (kI is) (gI s m) ++ [(.inl (k0 : Int), PyData.tuple ((Bd s m k0).map PyData.int))] = K1 at *
        generalize fK (kI is) (gI s m) = K0 at *
        generalize s.map PyData.int = SI at *
        generalize is.map (Pj s m) = PP at *
        generalize is.map (Vj s m) = VV at *
        generalize rgD 0 (nVol m s.length) = RG at *
        generalize ((nVol m s.length : Nat) : Int) = NV at *
        generalize ((chkV s : Nat) : Int) = CK at *
        simp [f_joined_at, b_joined_ap, List.getElem?_cons_zero, ite_ok, ite_so, ite_nx, mulOk, e1, e2, e3, e5, e6, eH, x0, hV, hP, hpe, hrg, hrl, hck, egN2]
      · rw [if_pos (by simp [cN])]
        have cN' : decide (nVol m s.length ∈ is) = false := decide_eq_false cN
        rw [cN'] at egN
        have egN2 : getA (fK (kI is) (gI s m)) (.inl ((nVol m s.length : Nat) : Int)) = none := by simpa using egN
        simp only [kN, List.map_cons, List.map_nil, tN, Int.cast_ofNat_Int] at e1 e2 e3 x0 hck ⊢
        generalize fK (kI is) (gI s m) = K0 at *
        generalize is.map (Pj s m) = PP at *
        generalize is.map (Vj s m) = VV at *
        generalize rgD 0 (nVol m s.length) = RG at *
        generalize ((nVol m s.length : Nat) : Int) = NV at *
        generalize ((chkV s : Nat) : Int) = CK at *
        simp [f_joined_at, b_joined_ap, List.getElem?_cons_zero, ite_ok, ite_so, ite_nx, mulOk, e1, e2, e3, eH, x0, hV, hP, hpe, hrg, hrl, egN2]
    | cons k1 r =>
      rw [if_pos (by simp)]
      rw [hL] at e3 hll
      have hgt : (1 : Int) < ((kN (k0 :: k1 :: r)).length : Int) := by rw [List.length_map, List.length_cons, List.length_cons]; omega
      have hkl : (kN (k0 :: k1 :: r)).length ≤ 16777216 := by rw [List.length_map]; omega
      generalize kN (k0 :: k1 :: r) = LK at *
      simp only [tN, Int.cast_ofNat_Int] at e1 e2 e3 x0 hck ⊢
      generalize fK (kI is) (gI s m) = K0 at *
      generalize is.map (Pj s m) = PP at *
      generalize is.map (Vj s m) = VV at *
      generalize rgD 0 (nVol m s.length) = RG at *
      generalize ((nVol m s.length : Nat) : Int) = NV at *
      generalize ((chkV s : Nat) : Int) = CK at *
      simp [f_joined_at, b_joined_ap, List.getElem?_cons_zero, ite_ok, ite_so, ite_nx, mulOk, e1, e2, e3, eH, x0, hV, hP, hpe, hrg, hrl, hgt, hkl]
theorem lay0_I : ∀ xs : List Int, PyData.canLayAll0 (xs.map PyData.int) = true
  | [] => rfl
  | x :: xs => by rw [List.map_cons, PyData.canLayAll0, lay0_I xs]; rfl
theorem depth_I : ∀ xs : List Int, PyData.depthAll (xs.map PyData.int) = 0
  | [] => rfl
  | x :: xs => by rw [List.map_cons, PyData.depthAll, depth_I xs]; rfl
theorem opIn_iI (k : Int) (w : List Int) : opIn (.int k) (.tuple (w.map PyData.int)) = some (.bool (decide (k ∈ w))) := by
  rw [opIn_t]
  have h1 : SeqAt.shaped (.tuple (w.map PyData.int)) = true := by
    simp [SeqAt.shaped, PyData.canLay0, PyData.depth, lay0_I, depth_I]
  have h2 : (w.map PyData.int).any (fun z => PyData.eqv z (.int k)) = decide (k ∈ w) := by
    clear h1
    induction w with
    | nil => rfl
    | cons y w ih =>
      rw [List.map_cons, List.any_cons, ih]
      by_cases h : y = k
      · subst h; simp [PyData.eqv]
      · have h' : ¬ k = y := fun z => h z.symm
        simp [PyData.eqv, h, h']
  unfold inSeq
  simp only [h1, shaped_i, and_self, if_true, h2]
theorem l_told_eq {s : List Int} {m : Nat} (is : List Nat) (vs : PyData) (hj : f_joined [vs] = jRes s m is) : f_l_told [vs] = .ok (if 1 < (lostN s m is).length ∨ (lostN s m is ≠ [] ∧ nVol m s.length ∉ is) then .tuple [.str "lost", .tuple (kN (lostN s m is))] else .tuple [tN s]) := by
  unfold jRes at hj
  by_cases c : 1 < (lostN s m is).length ∨ (lostN s m is ≠ [] ∧ nVol m s.length ∉ is)
  · rw [if_pos c] at hj ⊢
    generalize kN (lostN s m is) = LK at *
    simp [f_l_told_at, b_l_told_ap, hj, rel_Missing, asG_w]
  · rw [if_neg c] at hj ⊢
    simp only [tN] at hj ⊢
    generalize s.map PyData.int = SI at *
    simp [f_l_told_at, b_l_told_ap, hj]
theorem mx_loop {α : Type} (V : α → PyData) (cs : List Int) (hcs : cs.length ≤ 1000) : ∀ (r acc : List α) (j : Nat), j + r.length ≤ 100000 → acc.length + 2 * r.length ≤ 1000000 →
    ∃ out : List α, fLoop g_l_mixed_up_1 w_l_mixed_up_1 (enumFrom j (r.map V)) [none, some (.d (.list (cs.map PyData.int))), some (.d (.tuple (acc.map V))), none, none, none] = .nx [none, some (.d (.list (cs.map PyData.int))), some (.d (.tuple (out.map V))), none, none, none] ∧ (∀ x, x ∈ out ↔ x ∈ acc ∨ x ∈ r) ∧ out.length ≤ acc.length + 2 * r.length
  | [], acc, j, _, _ => ⟨acc, rfl, by simp, by simp⟩
  | x :: r, acc, j, hj, hl => by
    rw [List.length_cons] at hj hl
    obtain ⟨a, ha, hat⟩ : ∃ a : Nat, a ≤ acc.length ∧ ((cs = [] ∧ a = 0) ∨ (cs ≠ [] ∧ ∃ c : Int, atI (cs.map PyData.int) ((j : Int) % (cs.length : Int)) = some (.int c) ∧ c / ((j : Int) + 1) % ((acc.length : Int) + 1) = (a : Int))) := by
      by_cases h : cs = []
      · exact ⟨0, Nat.zero_le _, .inl ⟨h, rfl⟩⟩
      · have hp := List.length_pos_iff.mpr h
        have m0 := Int.emod_nonneg (j : Int) (show ¬ (cs.length : Int) = 0 by omega)
        have m1 := Int.emod_lt_of_pos (j : Int) (show 0 < (cs.length : Int) by omega)
        obtain ⟨q, hq⟩ := Int.eq_ofNat_of_zero_le m0
        have hq2 : q < cs.length := by omega
        have e : atI (cs.map PyData.int) ((j : Int) % (cs.length : Int)) = some (.int cs[q]) := by rw [hq]; exact atN hq2
        have k0 := Int.emod_nonneg (cs[q] / ((j : Int) + 1)) (show ¬ ((acc.length : Int) + 1) = 0 by omega)
        have k1 := Int.emod_lt_of_pos (cs[q] / ((j : Int) + 1)) (show 0 < ((acc.length : Int) + 1) by omega)
        obtain ⟨a, ha⟩ := Int.eq_ofNat_of_zero_le k0
        exact ⟨a, by omega, .inr ⟨h, cs[q], e, ha⟩⟩
    have t1 : cutD (acc.map V) none (some (a : Int)) = (acc.take a).map V := by rw [cutD_to, List.map_take]
    have t2 : cutD (acc.map V) (some (a : Int)) none = (acc.drop a).map V := by rw [cutD_from, List.map_drop]
    have hla : (acc.take a).length + 1 + (acc.drop a).length = acc.length + 1 := by rw [List.length_take, List.length_drop]; omega
    have b1 : ((acc.take a).map V).length + 1 ≤ 16777216 := by rw [List.length_map, List.length_take]; omega
    have b2 : ((acc.take a).map V).length + 1 + ((acc.drop a).map V).length ≤ 16777216 := by rw [List.length_map, List.length_map, hla]; omega
    have b3 : ((acc.take a).map V).length + 1 + ((acc.drop a).map V).length + 1 ≤ 16777216 := by rw [List.length_map, List.length_map, hla]; omega
    have memA : ∀ z, z ∈ acc.take a ++ x :: acc.drop a ↔ z ∈ acc ∨ z = x := fun z => by
      rw [List.mem_append, List.mem_cons]
      constructor
      · rintro (h | h | h)
        · exact .inl (List.mem_of_mem_take h)
        · exact .inr h
        · exact .inl (List.mem_of_mem_drop h)
      · rintro (h | h)
        · rw [← List.take_append_drop a acc] at h
          rcases List.mem_append.mp h with h | h
          · exact .inl h
          · exact .inr (.inr h)
        · exact .inr (.inl h)
    have lenA : (acc.take a ++ x :: acc.drop a).length = acc.length + 1 := by rw [List.length_append, List.length_cons]; omega
    have d1 : (0 : Int) < (j : Int) + 1 := by omega
    have d2 : (j : Int) + 1 < 1073741824 := by omega
    have d3 : (0 : Int) < (acc.length : Int) + 1 := by omega
    have cl : ((cs.map PyData.int).length : Int) = (cs.length : Int) := by rw [List.length_map]
    have al : ((acc.map V).length : Int) = (acc.length : Int) := by rw [List.length_map]
    have cl2 : (cs.map PyData.int).length ≤ 16777216 := by rw [List.length_map]; omega
    have al2 : (acc.map V).length ≤ 16777216 := by rw [List.length_map]; omega
    have eT : (acc.take a ++ x :: acc.drop a).map V = (acc.take a).map V ++ V x :: (acc.drop a).map V := by rw [List.map_append, List.map_cons]
    have hce : (cs.map PyData.int).isEmpty = cs.isEmpty := by cases cs <;> rfl
    have step : ∃ M : List α, w_l_mixed_up_1 [none, some (.d (.list (cs.map PyData.int))), some (.d (.tuple (acc.map V))), some (.d (.int (j : Int))), some (.d (V x)), none] = .nx [none, some (.d (.list (cs.map PyData.int))), some (.d (.tuple (M.map V))), none, none, none] ∧ (∀ z, z ∈ M ↔ z ∈ acc ∨ z = x) ∧ M.length ≤ acc.length + 2 := by
      by_cases cc : (j : Int) % 3 = 1 ∧ (a : Int) % 2 = 0
      · refine ⟨acc.take a ++ x :: acc.drop a ++ [x], ?_, fun z => ?_, by rw [List.length_append, lenA, List.length_singleton]; omega⟩
        · rw [List.map_append, eT, List.map_singleton]
          obtain ⟨c1, c2⟩ := cc
          rcases hat with ⟨h, h0⟩ | ⟨h, c, e, hc⟩
          · subst h
            subst h0
            generalize acc.map V = AC at *
            generalize (acc.take 0).map V = A1 at *
            generalize (acc.drop 0).map V = A2 at *
            simp only [Int.cast_ofNat_Int] at t1 t2
            simp (disch := omega) [w_l_mixed_up_1_ap, List.getElem?_cons_zero, ite_ok, ite_so, ite_nx, mulOk, t1, t2, b1, b2, b3, c1]
          · have hne : cs.isEmpty = false := by cases cs with
              | nil => exact absurd rfl h
              | cons _ _ => rfl
            rw [hne] at hce
            have hcp : 0 < (cs.map PyData.int).length := by rw [List.length_map]; exact List.length_pos_iff.mpr h
            rw [← cl] at e
            rw [← al] at hc
            generalize cs.map PyData.int = CI at *
            generalize acc.map V = AC at *
            generalize (acc.take a).map V = A1 at *
            generalize (acc.drop a).map V = A2 at *
            simp (disch := omega) [w_l_mixed_up_1_ap, List.getElem?_cons_zero, ite_ok, ite_so, ite_nx, mulOk, hce, cl2, al2, hcp, e, hc, d1, d2, t1, t2, b1, b2, b3, c1, c2]
        · rw [List.mem_append, memA, List.mem_singleton]
          constructor
          · rintro (h | h)
            · exact h
            · exact .inr h
          · exact .inl
      · refine ⟨acc.take a ++ x :: acc.drop a, ?_, memA, by rw [lenA]; omega⟩
        rw [eT]
        have cc2 : (j : Int) % 3 = 1 → ¬ (a : Int) % 2 = 0 := fun h1 h2 => cc ⟨h1, h2⟩
        rcases hat with ⟨h, h0⟩ | ⟨h, c, e, hc⟩
        · subst h
          subst h0
          have c1 : ¬ (j : Int) % 3 = 1 := fun h1 => cc2 h1 rfl
          generalize acc.map V = AC at *
          generalize (acc.take 0).map V = A1 at *
          generalize (acc.drop 0).map V = A2 at *
          simp only [Int.cast_ofNat_Int] at t1 t2
          simp (disch := omega) [w_l_mixed_up_1_ap, List.getElem?_cons_zero, ite_ok, ite_so, ite_nx, mulOk, t1, t2, b1, b2, b3, c1]
        · have hne : cs.isEmpty = false := by cases cs with
            | nil => exact absurd rfl h
            | cons _ _ => rfl
          rw [hne] at hce
          have hcp : 0 < (cs.map PyData.int).length := by rw [List.length_map]; exact List.length_pos_iff.mpr h
          rw [← cl] at e
          rw [← al] at hc
          by_cases c1 : (j : Int) % 3 = 1
          · have c2 := cc2 c1
            generalize cs.map PyData.int = CI at *
            generalize acc.map V = AC at *
            generalize (acc.take a).map V = A1 at *
            generalize (acc.drop a).map V = A2 at *
            simp (disch := omega) [w_l_mixed_up_1_ap, List.getElem?_cons_zero, ite_ok, ite_so, ite_nx, mulOk, hce, cl2, al2, hcp, e, hc, d1, d2, t1, t2, b1, b2, b3, c1, c2]
          · generalize cs.map PyData.int = CI at *
            generalize acc.map V = AC at *
            generalize (acc.take a).map V = A1 at *
            generalize (acc.drop a).map V = A2 at *
            simp (disch := omega) [w_l_mixed_up_1_ap, List.getElem?_cons_zero, ite_ok, ite_so, ite_nx, mulOk, hce, cl2, al2, hcp, e, hc, d1, d2, t1, t2, b1, b2, b3, c1]
    obtain ⟨M, hs, hM, hMl⟩ := step
    obtain ⟨out, ih, im, il⟩ := mx_loop V cs hcs r M (j + 1) (by omega) (by omega)
    refine ⟨out, ?_, fun z => ?_, by rw [List.length_cons]; omega⟩
    · rw [List.map_cons, enumFrom, fLoop_cons]
      simp [g_l_mixed_up_1_ap, hs]
      exact ih
    · rw [im, hM, List.mem_cons]
      constructor
      · rintro ((h | h) | h)
        · exact .inl h
        · exact .inr (.inl h)
        · exact .inr (.inr h)
      · rintro (h | h | h)
        · exact .inl (.inl h)
        · exact .inl (.inr h)
        · exact .inr h
theorem l_mixed_up_eq {α : Type} (V : α → PyData) (cs : List Int) (hcs : cs.length ≤ 1000) (r : List α) (hr : r.length ≤ 10000) : ∃ out : List α, f_l_mixed_up [.list (r.map V), .list (cs.map PyData.int)] = .ok (.tuple (out.map V)) ∧ (∀ x, x ∈ out ↔ x ∈ r) ∧ out.length ≤ 2 * r.length := by
  obtain ⟨out, e, im, il⟩ := mx_loop V cs hcs r [] 0 (by omega) (by simp; omega)
  refine ⟨out, ?_, fun x => by rw [im]; simp, by simpa using il⟩
  rw [List.map_nil] at e
  have hl : (r.map V).length ≤ 16777216 := by rw [List.length_map]; omega
  generalize r.map V = RV at *
  generalize out.map V = OV at *
  generalize cs.map PyData.int = CI at *
  simp [f_l_mixed_up_at, b_l_mixed_up_ap, hl, e]
abbrev tI (w : List Int) : PyData := .tuple (w.map PyData.int)
def leftW (N : Nat) (w : List Int) : List Nat := (List.range (N + 1)).filter fun k => decide ((k : Int) ∉ w)
def lostW (N : Nat) (w : List Int) : List Nat := (List.range N).filter fun k => decide ((k : Int) ∈ w)
theorem enum_V (V : Nat → PyData) (n : Nat) : enumFrom 0 ((List.range n).map V) = (List.range n).map fun i => .tuple [.int (i : Int), V i] := by
  rw [enumFrom_eq, List.length_map, List.length_range]
  refine List.map_congr_left fun i hi => ?_
  rw [List.getD_eq_getElem?_getD, List.getElem?_map, List.getElem?_range (List.mem_range.mp hi), Nat.zero_add]
  rfl
theorem lw_4 (V : Nat → PyData) (n : Nat) (w : List Int) (o0 o1 o3 o4 : Option B) : cLoop (gTp 2 (gsCons (gNm 10) (gsCons (gNm 12) gsNil))) t_law_4 e_law_4 [o0, o1, none, o3, o4, none, some (.d (tI w)), none, none, none, none, none, none] (enumFrom 0 ((List.range (n + 1)).map V)) = .ok ((leftW n w).map V) := by
  rw [enum_V]
  refine cLoop_filter (p := fun (k : Nat) => decide ((k : Int) ∉ w)) (r := V) fun k hk => ⟨_, rfl, ?_, fun _ => by simp [e_law_4_ap]⟩
  have e := opIn_iI (k : Int) w
  simp only [tI]
  generalize w.map PyData.int = W at *
  simp [t_law_4_ap, e]
theorem lw_5 (n : Nat) (w : List Int) (o0 o1 o3 o4 o7 : Option B) : cLoop (gNm 10) t_law_5 e_law_5 [o0, o1, none, o3, o4, none, some (.d (tI w)), o7, none, none, none, none, none] (rgD 0 n) = .ok (kN (lostW n w)) := by
  unfold rgD
  refine cLoop_filter (p := fun (k : Nat) => decide ((k : Int) ∈ w)) (r := fun (k : Nat) => .int (k : Int)) fun k hk => ⟨_, rfl, ?_, fun _ => by simp [e_law_5_ap]⟩
  have e := opIn_iI (k : Int) w
  have e0 : (0 : Int) + (k : Int) = (k : Int) := by omega
  rw [e0]
  simp only [tI]
  generalize w.map PyData.int = W at *
  simp [t_law_5_ap, e]
theorem same_d {d : PyData} (h : okD 12 d = true) : f_l_same 12 [d, d] = .ok (.bool true) := same_ok 12 d h
theorem okD_tN (n : Nat) {bs : List Int} (hl : bs.length ≤ 100000) : okD (n + 2) (tN bs) = true := by
  show (decide ((bs.map PyData.int).length ≤ 16777216) && (bs.map PyData.int).all (okD (n + 1))) = true
  rw [Bool.and_eq_true, decide_eq_true_eq]
  exact ⟨by rw [List.length_map]; omega, List.all_eq_true.mpr fun x hx => by
    obtain ⟨i, _, rfl⟩ := List.mem_map.mp hx
    rfl⟩
theorem lw_6 {s : List Int} {m : Nat} (hb : Byt s) (hm : 1 ≤ m) (hm2 : m ≤ 1000) (h1 : 1 ≤ s.length) (hs : s.length ≤ 1000) (ns : List Int) (w : List Int) :
    w_law_6 [some (.d (scr ns)), some (.d (tN s)), none, some (.d (.tuple ((vols s m).map tN))), some (.d (.int (nVol m s.length : Nat))), none, some (.d (tI w)), none, none, none, none, none, none] =
      .nx [some (.d (scr ns)), some (.d (tN s)), none, some (.d (.tuple ((vols s m).map tN))), some (.d (.int (nVol m s.length : Nat))), none, none, none, none, none, none, none, none] := by
  have hnv := nVol_le m s.length hm
  have eV : (vols s m).map tN = (List.range (nVol m s.length + 1)).map (Vj s m) := by rw [vols, List.map_map]; rfl
  rw [eV]
  have e4 := lw_4 (Vj s m) (nVol m s.length) w (some (.d (scr ns))) (some (.d (tN s))) (some (.d (.tuple ((List.range (nVol m s.length + 1)).map (Vj s m))))) (some (.d (.int (nVol m s.length : Nat))))
  have e5 := lw_5 (nVol m s.length) w (some (.d (scr ns))) (some (.d (tN s))) (some (.d (.tuple ((List.range (nVol m s.length + 1)).map (Vj s m))))) (some (.d (.int (nVol m s.length : Nat)))) (some (.d (.list ((leftW (nVol m s.length) w).map (Vj s m)))))
  have hcs : ((ns.drop 1).take 8).length ≤ 1000 := by rw [List.length_take]; omega
  have hcut : cutD (ns.map PyData.int) (some 1) (some 9) = ((ns.drop 1).take 8).map PyData.int := cutI_nat ns 1 9 (by omega)
  have hll : (leftW (nVol m s.length) w).length ≤ nVol m s.length + 1 := by
    have := List.length_filter_le (fun (k : Nat) => decide ((k : Int) ∉ w)) (List.range (nVol m s.length + 1))
    rwa [List.length_range] at this
  have hlo : (lostW (nVol m s.length) w).length ≤ nVol m s.length := by
    have := List.length_filter_le (fun (k : Nat) => decide ((k : Int) ∈ w)) (List.range (nVol m s.length))
    rwa [List.length_range] at this
  obtain ⟨out, em, mem, olen⟩ := l_mixed_up_eq (Vj s m) _ hcs (leftW (nVol m s.length) w) (by omega)
  have hleft : ∀ k, k ∈ leftW (nVol m s.length) w ↔ k ≤ nVol m s.length ∧ (k : Int) ∉ w := fun k => by
    rw [leftW, List.mem_filter, List.mem_range, decide_eq_true_eq, Nat.lt_succ_iff]
  have hLo : lostN s m out = lostW (nVol m s.length) w := by
    refine List.filter_congr fun k hk => ?_
    rw [List.mem_range] at hk
    rw [decide_eq_decide, mem, hleft]
    constructor
    · intro h
      by_cases c : (k : Int) ∈ w
      · exact c
      · exact absurd ⟨by omega, c⟩ h
    · exact fun h z => z.2 h
  have hN : nVol m s.length ∉ out ↔ ((nVol m s.length : Nat) : Int) ∈ w := by
    rw [mem, hleft]
    constructor
    · intro h
      by_cases c : ((nVol m s.length : Nat) : Int) ∈ w
      · exact c
      · exact absurd ⟨Nat.le_refl _, c⟩ h
    · exact fun h z => z.2 h
  have eNw := opIn_iI ((nVol m s.length : Nat) : Int) w
  have hrg : rng1 [.int (nVol m s.length : Nat)] = .ok (rgD 0 (nVol m s.length)) := by rw [rng1_int _ (by omega) (by omega)]; rfl
  have hrl : (rgD 0 (nVol m s.length)).length ≤ 16777216 := by rw [rgD, List.length_map, List.length_range]; omega
  have hel : (enumFrom 0 ((List.range (nVol m s.length + 1)).map (Vj s m))).length ≤ 16777216 := by rw [enum_V, List.length_map, List.length_range]; omega
  have hkl : (kN (lostW (nVol m s.length) w)).length ≤ 16777216 := by rw [List.length_map]; omega
  have hkl2 : ((kN (lostW (nVol m s.length) w)).length : Int) = ((lostW (nVol m s.length) w).length : Int) := by rw [List.length_map]
  have hke : (kN (lostW (nVol m s.length) w)).isEmpty = (lostW (nVol m s.length) w).isEmpty := by cases lostW (nVol m s.length) w <;> rfl
  have hLe : ((leftW (nVol m s.length) w).map (Vj s m)).isEmpty = (leftW (nVol m s.length) w).isEmpty := by cases leftW (nVol m s.length) w <;> rfl
  -- what is told
  have ht : leftW (nVol m s.length) w ≠ [] → f_l_told [.tuple (out.map (Vj s m))] = .ok (if 1 < (lostW (nVol m s.length) w).length ∨ (lostW (nVol m s.length) w ≠ [] ∧ ((nVol m s.length : Nat) : Int) ∈ w) then .tuple [.str "lost", .tuple (kN (lostW (nVol m s.length) w))] else .tuple [tN s]) := fun hne => by
    have hj := joined_eq hb hm hm2 h1 (by omega) out (fun z => by
      obtain ⟨x, hx⟩ := List.exists_mem_of_ne_nil _ hne
      have := (mem x).mpr hx
      rw [z] at this
      cases this) (by omega) (fun k hk => ((hleft k).mp ((mem k).mp hk)).1)
    have := l_told_eq out _ hj
    rw [hLo] at this
    simp only [hN] at this
    exact this
  have s1 : f_l_same 12 [.tuple [tN s], .tuple [tN s]] = .ok (.bool true) := same_d (by
    show (decide _ && _) = true
    have := okD_tN 9 (bs := s) (by omega)
    simp [this])
  have s2 : f_l_same 12 [.tuple [.str "lost", .tuple (kN (lostW (nVol m s.length) w))], .tuple [.str "lost", .tuple (kN (lostW (nVol m s.length) w))]] = .ok (.bool true) := same_d (by
    have : okD 11 (.tuple (kN (lostW (nVol m s.length) w))) = true := by
      have := okD_tN 9 (bs := (lostW (nVol m s.length) w).map fun (k : Nat) => (k : Int)) (by rw [List.length_map]; omega)
      rw [tN, List.map_map] at this
      exact this
    have hx : (lostW (nVol m s.length) w).length ≤ 16777216 := by omega
    show (decide _ && _) = true
    simp [this, okD, hx])
  have hgt : (1 : Int) < ((kN (lostW (nVol m s.length) w)).length : Int) ↔ 1 < (lostW (nVol m s.length) w).length := by rw [hkl2]; omega
  have hnil : (kN (lostW (nVol m s.length) w)).isEmpty = true ↔ lostW (nVol m s.length) w = [] := by rw [hke, List.isEmpty_iff]
  have hlnil : ((leftW (nVol m s.length) w).map (Vj s m)).isEmpty = true ↔ leftW (nVol m s.length) w = [] := by rw [hLe, List.isEmpty_iff]
  clear hLo hN mem hleft olen hke hLe hkl2 eV
  simp only [lit_0] at ht s2
  simp only [tN, scr, tI] at *
  generalize hLK : kN (lostW (nVol m s.length) w) = LK at *
  generalize hLV : (leftW (nVol m s.length) w).map (Vj s m) = LV at *
  generalize out.map (Vj s m) = OV at *
  generalize (List.range (nVol m s.length + 1)).map (Vj s m) = VV at *
  generalize ((ns.drop 1).take 8).map PyData.int = CS at *
  generalize ns.map PyData.int = NS at *
  generalize s.map PyData.int = SI at *
  generalize w.map PyData.int = WI at *
  generalize rgD 0 (nVol m s.length) = RG at *
  generalize ((nVol m s.length : Nat) : Int) = NV at *
  by_cases hne : leftW (nVol m s.length) w = []
  · have hL0 := hlnil.mpr hne
    by_cases c1 : 1 < (lostW (nVol m s.length) w).length
    · have c1' := hgt.mpr c1
      simp [w_law_6_ap, List.getElem?_cons_zero, ite_ok, ite_so, ite_nx, mulOk, e4, e5, hel, hrg, hrl, hkl, c1', hL0]
    · have c1' := mt hgt.mp c1
      by_cases c2 : lostW (nVol m s.length) w = []
      · have c2' := hnil.mpr c2
        simp [w_law_6_ap, List.getElem?_cons_zero, ite_ok, ite_so, ite_nx, mulOk, e4, e5, hel, hrg, hrl, hkl, c1', c2', hL0]
      · have c2' := mt hnil.mp c2
        by_cases c3 : NV ∈ w
        · simp [w_law_6_ap, List.getElem?_cons_zero, ite_ok, ite_so, ite_nx, mulOk, e4, e5, hel, hrg, hrl, hkl, c1', c2', eNw, c3, hL0]
        · simp [w_law_6_ap, List.getElem?_cons_zero, ite_ok, ite_so, ite_nx, mulOk, e4, e5, hel, hrg, hrl, hkl, c1', c2', eNw, c3, hL0]
  · have hL0 := mt hlnil.mp hne
    have ht' := ht hne
    by_cases c1 : 1 < (lostW (nVol m s.length) w).length
    · have c1' := hgt.mpr c1
      rw [if_pos (.inl c1)] at ht'
      simp [w_law_6_ap, List.getElem?_cons_zero, ite_ok, ite_so, ite_nx, mulOk, e4, e5, hel, hrg, hrl, hkl, c1', hL0, hcut, em, ht', s2]
    · have c1' := mt hgt.mp c1
      by_cases c2 : lostW (nVol m s.length) w = []
      · have c2' := hnil.mpr c2
        rw [if_neg (by simp [c2])] at ht'
        simp [w_law_6_ap, List.getElem?_cons_zero, ite_ok, ite_so, ite_nx, mulOk, e4, e5, hel, hrg, hrl, hkl, c1', c2', hL0, hcut, em, ht', s1]
      · have c2' := mt hnil.mp c2
        by_cases c3 : NV ∈ w
        · rw [if_pos (.inr ⟨c2, c3⟩)] at ht'
          simp [w_law_6_ap, List.getElem?_cons_zero, ite_ok, ite_so, ite_nx, mulOk, e4, e5, hel, hrg, hrl, hkl, c1', c2', eNw, c3, hL0, hcut, em, ht', s2]
        · rw [if_neg (by simp [c1, c3])] at ht'
          simp [w_law_6_ap, List.getElem?_cons_zero, ite_ok, ite_so, ite_nx, mulOk, e4, e5, hel, hrg, hrl, hkl, c1', c2', eNw, c3, hL0, hcut, em, ht', s1]
theorem lw_loop {s : List Int} {m : Nat} (hb : Byt s) (hm : 1 ≤ m) (hm2 : m ≤ 1000) (h1 : 1 ≤ s.length) (hs : s.length ≤ 1000) (ns : List Int) : ∀ ws : List (List Int),
    fLoop g_law_6 w_law_6 (ws.map tI) [some (.d (scr ns)), some (.d (tN s)), none, some (.d (.tuple ((vols s m).map tN))), some (.d (.int (nVol m s.length : Nat))), none, none, none, none, none, none, none, none] =
      .nx [some (.d (scr ns)), some (.d (tN s)), none, some (.d (.tuple ((vols s m).map tN))), some (.d (.int (nVol m s.length : Nat))), none, none, none, none, none, none, none, none]
  | [] => rfl
  | w :: ws => by
    have ih := lw_loop hb hm hm2 h1 hs ns ws
    have e := lw_6 hb hm hm2 h1 hs ns w
    rw [List.map_cons, fLoop_cons]
    generalize (vols s m).map tN = VV at *
    simp only [tI] at e
    simp [g_law_6_ap, e]
    exact ih
theorem law_true (ns : List Int) (h : ns.length ≤ 63) : f_law [scr ns] = .ok (.bool true) := by
  obtain ⟨bs, b1, b2, b4⟩ := few_eqL ns 1 40 (by omega) h
  have hbl : bs.length ≤ 39 := by rw [b1, List.length_take]; omega
  have c0 := cell_eq ns 0
  have c2 := cell_eq ns 2
  simp only [Int.cast_ofNat_Int] at c0 c2 b4
  generalize ns.getD 0 0 = v0 at *
  generalize ns.getD 2 0 = v2 at *
  have hsb : Byt (bs ++ [v0 / 3 % 256]) := fun x hx => by
    rcases List.mem_append.mp hx with hx | hx
    · exact b2 x hx
    · rw [List.mem_singleton.mp hx]; omega
  have hsl : (bs ++ [v0 / 3 % 256]).length = bs.length + 1 := by rw [List.length_append]; rfl
  have esm : (bs ++ [v0 / 3 % 256]).map PyData.int = bs.map PyData.int ++ [.int (v0 / 3 % 256)] := by rw [List.map_append]; rfl
  have l0 : (bs.map PyData.int).length + 1 ≤ 16777216 := by rw [List.length_map]; omega
  generalize bs ++ [v0 / 3 % 256] = s at *
  -- the most
  obtain ⟨m, hm, hm1, hm2⟩ : ∃ m : Nat, fMaxA [.int ((s.length : Int) / (v2 % 9 + 1)), .int 1] = some (.int (m : Int)) ∧ 1 ≤ m ∧ m ≤ 1000 := by
    rw [fMaxA_2]
    have hq := Int.ediv_nonneg (a := (s.length : Int)) (b := v2 % 9 + 1) (by omega) (by omega)
    obtain ⟨q, hq⟩ := Int.eq_ofNat_of_zero_le hq
    have hle : (s.length : Int) / (v2 % 9 + 1) ≤ (s.length : Int) := Int.ediv_le_self _ (by omega)
    rw [hq]
    by_cases c : (1 : Int) > (q : Int)
    · exact ⟨1, by rw [if_pos c]; rfl, by omega, by omega⟩
    · exact ⟨q, by rw [if_neg c], by omega, by omega⟩
  have hs1 : 1 ≤ s.length := by omega
  have eS := shared_eq s m hm1 hm2 (by omega)
  have hnv := nVol_le m s.length hm1
  have hvl : ((vols s m).map tN).length = nVol m s.length + 1 := by rw [List.length_map, vols, List.length_map, List.length_range]
  have hvl2 : ((vols s m).map tN).length ≤ 16777216 := by omega
  have hvl3 : (((vols s m).map tN).length : Int) = ((nVol m s.length + 1 : Nat) : Int) := by rw [hvl]
  have loop := lw_loop hsb hm1 hm2 hs1 (by omega) ns
  generalize hVV : (vols s m).map tN = VV at *
  -- the ways
  have hd : ∀ c : Int, f_l_d [.int c, .int 1, .int ((nVol m s.length + 1 : Nat) : Int)] = .ok (.int (dV c 1 ((nVol m s.length + 1 : Nat) : Int))) := fun c => d_eq (by omega)
  have hdb : ∀ c : Int, 0 ≤ dV c 1 ((nVol m s.length + 1 : Nat) : Int) ∧ dV c 1 ((nVol m s.length + 1 : Nat) : Int) < ((nVol m s.length + 1 : Nat) : Int) := fun c => dV_lt (by omega)
  have w1 : ∀ o0 o1 o2 o3 o4 o5 o6 o7 o8 o9 o11 o12 : Option B, cLoop (gNm 10) t_law_1 e_law_1 [o0, o1, o2, o3, o4, o5, o6, o7, o8, o9, none, o11, o12] (rgD 0 (nVol m s.length + 1)) = .ok (((List.range (nVol m s.length + 1)).map fun (k : Nat) => [(k : Int)]).map tI) := fun _ _ _ _ _ _ _ _ _ _ _ _ => by
    unfold rgD
    rw [List.map_map]
    exact cLoop_map fun k _ => ⟨_, rfl, by simp [t_law_1_ap], by simp [e_law_1_ap]⟩
  have w2 : ∀ (cs : List Int) (o0 o1 o2 o4 o5 o6 o7 o8 o9 : Option B), cLoop (gTp 2 (gsCons (gNm 10) (gsCons (gNm 11) gsNil))) t_law_2 e_law_2 [o0, o1, o2, some (.d (.tuple VV)), o4, o5, o6, o7, o8, o9, none, none, none] (enumFrom 0 (cs.map PyData.int)) = .ok (((List.range cs.length).map fun (k : Nat) => [(k : Int), dV (cs.getD k 0) 1 ((nVol m s.length + 1 : Nat) : Int)]).map tI) := fun cs _ _ _ _ _ _ _ _ _ => by
    rw [enumFrom_eq, List.length_map, List.map_map]
    refine cLoop_map fun k hk => ?_
    have hk' := List.mem_range.mp hk
    have e1 : (cs.map PyData.int).getD k .none = .int (cs.getD k 0) := by
      rw [List.getD_eq_getElem?_getD, List.getD_eq_getElem?_getD, List.getElem?_map, List.getElem?_eq_getElem hk']
      rfl
    rw [e1, Nat.zero_add]
    have e2 := hd (cs.getD k 0)
    refine ⟨_, rfl, by simp [t_law_2_ap], ?_⟩
    show e_law_2 _ = .ok (tI [(k : Int), dV (cs.getD k 0) 1 ((nVol m s.length + 1 : Nat) : Int)])
    rw [← hvl3] at e2 ⊢
    generalize cs.getD k 0 = c at *
    simp [e_law_2_ap, hvl2, e2]
  have w3 : ∀ (cs : List Int) (o0 o1 o2 o4 o5 o6 o7 o8 o9 : Option B), cLoop (gNm 11) t_law_3 e_law_3 [o0, o1, o2, some (.d (.tuple VV)), o4, o5, o6, o7, o8, o9, none, none, none] (cs.map PyData.int) = .ok ((cs.map fun c => ((List.range (nVol m s.length + 1)).map fun (k : Nat) => (k : Int)).drop (dV c 1 ((nVol m s.length + 1 : Nat) : Int)).toNat).map tI) := fun cs _ _ _ _ _ _ _ _ _ => by
    rw [List.map_map]
    refine cLoop_map fun c hc => ⟨_, rfl, by simp [t_law_3_ap], ?_⟩
    have e2 := hd c
    have hb2 := hdb c
    have e3 := tupRg_n (nVol m s.length + 1) (by omega)
    have e4 : rgD 0 (nVol m s.length + 1) = ((List.range (nVol m s.length + 1)).map fun (k : Nat) => (k : Int)).map PyData.int := by
      rw [rgD, List.map_map]
      refine List.map_congr_left fun k _ => ?_
      show PyData.int (0 + (k : Int)) = _
      rw [Int.zero_add]; rfl
    rw [e4] at e3
    obtain ⟨q, hq⟩ := Int.eq_ofNat_of_zero_le hb2.1
    rw [hq] at e2
    have e5 := cutI_from ((List.range (nVol m s.length + 1)).map fun (k : Nat) => (k : Int)) q
    show e_law_3 _ = .ok (tI (((List.range (nVol m s.length + 1)).map fun (k : Nat) => (k : Int)).drop (dV c 1 ((nVol m s.length + 1 : Nat) : Int)).toNat))
    rw [hq]
    simp only [Int.toNat_natCast, tI]
    rw [← hvl3] at e2 e3
    generalize (((List.range (nVol m s.length + 1)).map fun (k : Nat) => (k : Int)).drop q).map PyData.int = D1 at *
    generalize ((List.range (nVol m s.length + 1)).map fun (k : Nat) => (k : Int)).map PyData.int = D0 at *
    simp [e_law_3_ap, hvl2, e2, e3, e5]
  have hs3 : cutD (ns.map PyData.int) (some 3) (some (3 + ((nVol m s.length + 1 : Nat) : Int))) = ((ns.drop 3).take (nVol m s.length + 1)).map PyData.int := by
    have := cutI_nat ns 3 (3 + (nVol m s.length + 1)) (by omega)
    rw [show 3 + (nVol m s.length + 1) - 3 = nVol m s.length + 1 by omega] at this
    exact this
  have hs4 : cutD (ns.map PyData.int) (some 3) (some 6) = ((ns.drop 3).take 3).map PyData.int := cutI_nat ns 3 6 (by omega)
  have hc1 : ((ns.drop 3).take (nVol m s.length + 1)).length ≤ 63 := by rw [List.length_take, List.length_drop]; omega
  have hc2 : ((ns.drop 3).take 3).length ≤ 63 := by rw [List.length_take, List.length_drop]; omega
  generalize (ns.drop 3).take (nVol m s.length + 1) = cs1 at *
  generalize (ns.drop 3).take 3 = cs2 at *
  have w2' := w2 cs1
  have w3' := w3 cs2
  have hen : (enumFrom 0 (cs1.map PyData.int)).length ≤ 16777216 := by rw [enumFrom_eq, List.length_map, List.length_range, List.length_map]; omega
  have hc1' : (cs1.map PyData.int).length ≤ 16777216 := by rw [List.length_map]; omega
  have hc2' : (cs2.map PyData.int).length ≤ 16777216 := by rw [List.length_map]; omega
  have hW1 : ((List.range (nVol m s.length + 1)).map fun (k : Nat) => [(k : Int)]).length ≤ 1000 := by rw [List.length_map, List.length_range]; omega
  have hW2 : ((List.range cs1.length).map fun (k : Nat) => [(k : Int), dV (cs1.getD k 0) 1 ((nVol m s.length + 1 : Nat) : Int)]).length ≤ 63 := by rw [List.length_map, List.length_range]; omega
  have hW3 : (cs2.map fun c => ((List.range (nVol m s.length + 1)).map fun (k : Nat) => (k : Int)).drop (dV c 1 ((nVol m s.length + 1 : Nat) : Int)).toNat).length ≤ 63 := by rw [List.length_map]; omega
  generalize ((List.range (nVol m s.length + 1)).map fun (k : Nat) => [(k : Int)]) = W1 at *
  generalize ((List.range cs1.length).map fun (k : Nat) => [(k : Int), dV (cs1.getD k 0) 1 ((nVol m s.length + 1 : Nat) : Int)]) = W2 at *
  generalize (cs2.map fun c => ((List.range (nVol m s.length + 1)).map fun (k : Nat) => (k : Int)).drop (dV c 1 ((nVol m s.length + 1 : Nat) : Int)).toNat) = W3 at *
  have lp := loop (([] :: W1) ++ W2 ++ W3)
  have hrg : rng1 [.int ((nVol m s.length + 1 : Nat) : Int)] = .ok (rgD 0 (nVol m s.length + 1)) := by rw [rng1_int _ (by omega) (by omega)]; rfl
  have hrl : (rgD 0 (nVol m s.length + 1)).length ≤ 16777216 := by rw [rgD, List.length_map, List.length_range]; omega
  have hsub : ((nVol m s.length + 1 : Nat) : Int) - 1 = ((nVol m s.length : Nat) : Int) := by omega
  rw [List.map_append, List.map_append, List.map_cons] at lp
  have a1 : 1 + (W1.map tI).length ≤ 16777216 := by rw [List.length_map]; omega
  have a2 : 1 + (W1.map tI).length + (W2.map tI).length ≤ 16777216 := by rw [List.length_map, List.length_map]; omega
  have a3 : 1 + (W1.map tI).length + (W2.map tI).length + (W3.map tI).length ≤ 16777216 := by rw [List.length_map, List.length_map, List.length_map]; omega
  have d9 : (0 : Int) < v2 % 9 + 1 := by omega
  have d9' : v2 % 9 + 1 < 1073741824 := by omega
  have sl : (s.map PyData.int).length ≤ 16777216 := by rw [List.length_map]; omega
  have sl2 : ((s.map PyData.int).length : Int) = (s.length : Int) := by rw [List.length_map]
  rw [← sl2] at hm
  simp only [tN, scr, show tI [] = PyData.tuple [] from rfl] at *
  have esm' := esm.symm
  generalize W1.map tI = T1 at *
  generalize W2.map tI = T2 at *
  generalize W3.map tI = T3 at *
  have w1' := w1 (some (.d (.dict [(.none, .list (ns.map PyData.int))]))) (some (.d (.tuple (s.map PyData.int)))) (some (.d (.int (m : Int)))) (some (.d (.tuple VV))) (some (.d (.int (nVol m s.length : Nat)))) none none none none none none none
  have w2'' := w2' (some (.d (.dict [(.none, .list (ns.map PyData.int))]))) (some (.d (.tuple (s.map PyData.int)))) (some (.d (.int (m : Int)))) (some (.d (.int (nVol m s.length : Nat)))) (some (.d (.list (.tuple [] :: T1)))) none none none none
  have w3'' := w3' (some (.d (.dict [(.none, .list (ns.map PyData.int))]))) (some (.d (.tuple (s.map PyData.int)))) (some (.d (.int (m : Int)))) (some (.d (.int (nVol m s.length : Nat)))) (some (.d (.list (.tuple [] :: T1 ++ T2)))) none none none none
  rw [← hvl3] at hrg hs3
  have hsub2 : (VV.length : Int) - 1 = ((nVol m s.length : Nat) : Int) := by rw [hvl3]; exact hsub
  clear esm hsub hd hdb w1 w2 w3 w2' w3' loop hvl3 hvl
  have n1 := opNe_tN [0] [0]
  have a2' : T1.length + 1 + T2.length ≤ 16777216 := by omega
  have a3' : T1.length + T2.length + 1 + T3.length ≤ 16777216 := by omega
  simp only [List.cons_append, List.append_assoc] at lp w3''
  clear n1 hbl b1 b2 hsl
  generalize bs.map PyData.int = BI at *
  generalize hSI : s.map PyData.int = SI at *
  generalize hNI : ns.map PyData.int = NI at *
  generalize rgD 0 (nVol m s.length + 1) = RG at *
  generalize cs1.map PyData.int = CI1 at *
  generalize cs2.map PyData.int = CI2 at *
  generalize ((nVol m s.length : Nat) : Int) = NV at *
  simp [f_law_at, b_law_ap, List.getElem?_cons_zero, ite_ok, ite_so, ite_nx, mulOk, b4, c0, c2, l0, esm', sl, d9, d9', hm, eS, hvl2, hsub2, hrg, hrl, w1', w2'', w3'', hs3, hs4, hen, hc1', hc2', a1, a2, a3, a2', a3', lp]
end G

namespace G
open PySem PySem.Spec PyProof.Rows L2 D2
theorem all_mk {l : PySem.W.OpenLaw} {w : World} {K : PySem.W.Frag} {h : Heap} {mg : Str → Option Value} {fa : Addr} (X : K.In h) (G : h.Ns mainGlobals mg) (hfa : mg "law" = some (.ref fa))
    {f0 : Addr} {od0 an0 : Option Addr} {sl0 : Array (Option Value)} {oc0 kV0 dc0 pm0 cd0 ct0 : Value}
    (a0 : PySem.W.nsIn K mainGlobals "mixed" = some (some (.ref f0))) (l0 : K.lookup f0 = some ⟨oc0, od0, .func (PySem.W.fnOf "mixed" "mixed" (defArgs s_mixed) (defBody s_mixed) (defScope s_mixed) .none kV0 dc0 pm0 an0 cd0 ct0), sl0⟩) (c0 : PySem.W.codeIn K cd0 "mixed" = true) (k0 : PySem.W.keepIn K (.ref f0) = true)
    {f1 : Addr} {od1 an1 : Option Addr} {sl1 : Array (Option Value)} {oc1 kV1 dc1 pm1 cd1 ct1 : Value}
    (a1 : PySem.W.nsIn K mainGlobals "number_bytes" = some (some (.ref f1))) (l1 : K.lookup f1 = some ⟨oc1, od1, .func (PySem.W.fnOf "number_bytes" "number_bytes" (defArgs s_number_bytes) (defBody s_number_bytes) (defScope s_number_bytes) .none kV1 dc1 pm1 an1 cd1 ct1), sl1⟩) (c1 : PySem.W.codeIn K cd1 "number_bytes" = true) (k1 : PySem.W.keepIn K (.ref f1) = true)
    {f2 : Addr} {od2 an2 : Option Addr} {sl2 : Array (Option Value)} {oc2 kV2 dc2 pm2 cd2 ct2 : Value}
    (a2 : PySem.W.nsIn K mainGlobals "fixed_bytes" = some (some (.ref f2))) (l2 : K.lookup f2 = some ⟨oc2, od2, .func (PySem.W.fnOf "fixed_bytes" "fixed_bytes" (defArgs s_fixed_bytes) (defBody s_fixed_bytes) (defScope s_fixed_bytes) .none kV2 dc2 pm2 an2 cd2 ct2), sl2⟩) (c2 : PySem.W.codeIn K cd2 "fixed_bytes" = true) (k2 : PySem.W.keepIn K (.ref f2) = true)
    {f3 : Addr} {od3 an3 : Option Addr} {sl3 : Array (Option Value)} {oc3 kV3 dc3 pm3 cd3 ct3 : Value}
    (a3 : PySem.W.nsIn K mainGlobals "check_on" = some (some (.ref f3))) (l3 : K.lookup f3 = some ⟨oc3, od3, .func (PySem.W.fnOf "check_on" "check_on" (defArgs s_check_on) (defBody s_check_on) (defScope s_check_on) .none kV3 dc3 pm3 an3 cd3 ct3), sl3⟩) (c3 : PySem.W.codeIn K cd3 "check_on" = true) (k3 : PySem.W.keepIn K (.ref f3) = true)
    {f4 : Addr} {od4 an4 : Option Addr} {sl4 : Array (Option Value)} {oc4 kV4 dc4 pm4 cd4 ct4 : Value}
    (a4 : PySem.W.nsIn K mainGlobals "check_of" = some (some (.ref f4))) (l4 : K.lookup f4 = some ⟨oc4, od4, .func (PySem.W.fnOf "check_of" "check_of" (defArgs s_check_of) (defBody s_check_of) (defScope s_check_of) .none kV4 dc4 pm4 an4 cd4 ct4), sl4⟩) (c4 : PySem.W.codeIn K cd4 "check_of" = true) (k4 : PySem.W.keepIn K (.ref f4) = true)
    {f5 : Addr} {od5 an5 : Option Addr} {sl5 : Array (Option Value)} {oc5 kV5 dc5 pm5 cd5 ct5 : Value}
    (a5 : PySem.W.nsIn K mainGlobals "volume_of" = some (some (.ref f5))) (l5 : K.lookup f5 = some ⟨oc5, od5, .func (PySem.W.fnOf "volume_of" "volume_of" (defArgs s_volume_of) (defBody s_volume_of) (defScope s_volume_of) .none kV5 dc5 pm5 an5 cd5 ct5), sl5⟩) (c5 : PySem.W.codeIn K cd5 "volume_of" = true) (k5 : PySem.W.keepIn K (.ref f5) = true)
    {f6 : Addr} {od6 an6 : Option Addr} {sl6 : Array (Option Value)} {oc6 kV6 dc6 pm6 cd6 ct6 : Value}
    (a6 : PySem.W.nsIn K mainGlobals "shared" = some (some (.ref f6))) (l6 : K.lookup f6 = some ⟨oc6, od6, .func (PySem.W.fnOf "shared" "shared" (defArgs s_shared) (defBody s_shared) (defScope s_shared) .none kV6 dc6 pm6 an6 cd6 ct6), sl6⟩) (c6 : PySem.W.codeIn K cd6 "shared" = true) (k6 : PySem.W.keepIn K (.ref f6) = true)
    {f7 : Addr} {od7 an7 : Option Addr} {sl7 : Array (Option Value)} {oc7 kV7 dc7 pm7 cd7 ct7 : Value}
    (a7 : PySem.W.nsIn K mainGlobals "_law_d" = some (some (.ref f7))) (l7 : K.lookup f7 = some ⟨oc7, od7, .func (PySem.W.fnOf "_law_d" "_law_d" (defArgs s_l_d) (defBody s_l_d) (defScope s_l_d) .none kV7 dc7 pm7 an7 cd7 ct7), sl7⟩) (c7 : PySem.W.codeIn K cd7 "_law_d" = true) (k7 : PySem.W.keepIn K (.ref f7) = true)
    {f8 : Addr} {od8 an8 : Option Addr} {sl8 : Array (Option Value)} {oc8 kV8 dc8 pm8 cd8 ct8 : Value}
    (a8 : PySem.W.nsIn K mainGlobals "_law_few" = some (some (.ref f8))) (l8 : K.lookup f8 = some ⟨oc8, od8, .func (PySem.W.fnOf "_law_few" "_law_few" (defArgs s_l_few) (defBody s_l_few) (defScope s_l_few) .none kV8 dc8 pm8 an8 cd8 ct8), sl8⟩) (c8 : PySem.W.codeIn K cd8 "_law_few" = true) (k8 : PySem.W.keepIn K (.ref f8) = true)
    {f9 : Addr} {od9 an9 : Option Addr} {sl9 : Array (Option Value)} {oc9 kV9 dc9 pm9 cd9 ct9 : Value}
    (a9 : PySem.W.nsIn K mainGlobals "_law_same" = some (some (.ref f9))) (l9 : K.lookup f9 = some ⟨oc9, od9, .func (PySem.W.fnOf "_law_same" "_law_same" (defArgs s_l_same) (defBody s_l_same) (defScope s_l_same) .none kV9 dc9 pm9 an9 cd9 ct9), sl9⟩) (c9 : PySem.W.codeIn K cd9 "_law_same" = true) (k9 : PySem.W.keepIn K (.ref f9) = true)
    {f10 : Addr} {od10 an10 : Option Addr} {sl10 : Array (Option Value)} {oc10 kV10 dc10 pm10 cd10 ct10 : Value}
    (a10 : PySem.W.nsIn K mainGlobals "_law_cell" = some (some (.ref f10))) (l10 : K.lookup f10 = some ⟨oc10, od10, .func (PySem.W.fnOf "_law_cell" "_law_cell" (defArgs s_l_cell) (defBody s_l_cell) (defScope s_l_cell) .none kV10 dc10 pm10 an10 cd10 ct10), sl10⟩) (c10 : PySem.W.codeIn K cd10 "_law_cell" = true) (k10 : PySem.W.keepIn K (.ref f10) = true)
    {f11 : Addr} {od11 an11 : Option Addr} {sl11 : Array (Option Value)} {oc11 kV11 dc11 pm11 cd11 ct11 : Value}
    (a11 : PySem.W.nsIn K mainGlobals "how_many" = some (some (.ref f11))) (l11 : K.lookup f11 = some ⟨oc11, od11, .func (PySem.W.fnOf "how_many" "how_many" (defArgs s_how_many) (defBody s_how_many) (defScope s_how_many) .none kV11 dc11 pm11 an11 cd11 ct11), sl11⟩) (c11 : PySem.W.codeIn K cd11 "how_many" = true) (k11 : PySem.W.keepIn K (.ref f11) = true)
    {f12 : Addr} {od12 an12 : Option Addr} {sl12 : Array (Option Value)} {oc12 kV12 dc12 pm12 cd12 ct12 : Value}
    (a12 : PySem.W.nsIn K mainGlobals "read_number" = some (some (.ref f12))) (l12 : K.lookup f12 = some ⟨oc12, od12, .func (PySem.W.fnOf "read_number" "read_number" (defArgs s_read_number) (defBody s_read_number) (defScope s_read_number) .none kV12 dc12 pm12 an12 cd12 ct12), sl12⟩) (c12 : PySem.W.codeIn K cd12 "read_number" = true) (k12 : PySem.W.keepIn K (.ref f12) = true)
    {f13 : Addr} {od13 an13 : Option Addr} {sl13 : Array (Option Value)} {oc13 kV13 dc13 pm13 cd13 ct13 : Value}
    (a13 : PySem.W.nsIn K mainGlobals "read_fixed" = some (some (.ref f13))) (l13 : K.lookup f13 = some ⟨oc13, od13, .func (PySem.W.fnOf "read_fixed" "read_fixed" (defArgs s_read_fixed) (defBody s_read_fixed) (defScope s_read_fixed) .none kV13 dc13 pm13 an13 cd13 ct13), sl13⟩) (c13 : PySem.W.codeIn K cd13 "read_fixed" = true) (k13 : PySem.W.keepIn K (.ref f13) = true)
    {f14 : Addr} {od14 an14 : Option Addr} {sl14 : Array (Option Value)} {oc14 kV14 dc14 pm14 cd14 ct14 : Value}
    (a14 : PySem.W.nsIn K mainGlobals "body_long" = some (some (.ref f14))) (l14 : K.lookup f14 = some ⟨oc14, od14, .func (PySem.W.fnOf "body_long" "body_long" (defArgs s_body_long) (defBody s_body_long) (defScope s_body_long) .none kV14 dc14 pm14 an14 cd14 ct14), sl14⟩) (c14 : PySem.W.codeIn K cd14 "body_long" = true) (k14 : PySem.W.keepIn K (.ref f14) = true)
    {f15 : Addr} {od15 an15 : Option Addr} {sl15 : Array (Option Value)} {oc15 kV15 dc15 pm15 cd15 ct15 : Value}
    (a15 : PySem.W.nsIn K mainGlobals "read_volume" = some (some (.ref f15))) (l15 : K.lookup f15 = some ⟨oc15, od15, .func (PySem.W.fnOf "read_volume" "read_volume" (defArgs s_read_volume) (defBody s_read_volume) (defScope s_read_volume) .none kV15 dc15 pm15 an15 cd15 ct15), sl15⟩) (c15 : PySem.W.codeIn K cd15 "read_volume" = true) (k15 : PySem.W.keepIn K (.ref f15) = true)
    {f16 : Addr} {od16 an16 : Option Addr} {sl16 : Array (Option Value)} {oc16 kV16 dc16 pm16 cd16 ct16 : Value}
    (a16 : PySem.W.nsIn K mainGlobals "joined" = some (some (.ref f16))) (l16 : K.lookup f16 = some ⟨oc16, od16, .func (PySem.W.fnOf "joined" "joined" (defArgs s_joined) (defBody s_joined) (defScope s_joined) .none kV16 dc16 pm16 an16 cd16 ct16), sl16⟩) (c16 : PySem.W.codeIn K cd16 "joined" = true) (k16 : PySem.W.keepIn K (.ref f16) = true)
    {f17 : Addr} {od17 an17 : Option Addr} {sl17 : Array (Option Value)} {oc17 kV17 dc17 pm17 cd17 ct17 : Value}
    (a17 : PySem.W.nsIn K mainGlobals "_law_told" = some (some (.ref f17))) (l17 : K.lookup f17 = some ⟨oc17, od17, .func (PySem.W.fnOf "_law_told" "_law_told" (defArgs s_l_told) (defBody s_l_told) (defScope s_l_told) .none kV17 dc17 pm17 an17 cd17 ct17), sl17⟩) (c17 : PySem.W.codeIn K cd17 "_law_told" = true) (k17 : PySem.W.keepIn K (.ref f17) = true)
    {f18 : Addr} {od18 an18 : Option Addr} {sl18 : Array (Option Value)} {oc18 kV18 dc18 pm18 cd18 ct18 : Value}
    (a18 : PySem.W.nsIn K mainGlobals "_law_mixed_up" = some (some (.ref f18))) (l18 : K.lookup f18 = some ⟨oc18, od18, .func (PySem.W.fnOf "_law_mixed_up" "_law_mixed_up" (defArgs s_l_mixed_up) (defBody s_l_mixed_up) (defScope s_l_mixed_up) .none kV18 dc18 pm18 an18 cd18 ct18), sl18⟩) (c18 : PySem.W.codeIn K cd18 "_law_mixed_up" = true) (k18 : PySem.W.keepIn K (.ref f18) = true)
    {f19 : Addr} {od19 an19 : Option Addr} {sl19 : Array (Option Value)} {oc19 kV19 dc19 pm19 cd19 ct19 : Value}
    (a19 : PySem.W.nsIn K mainGlobals "law" = some (some (.ref f19))) (l19 : K.lookup f19 = some ⟨oc19, od19, .func (PySem.W.fnOf "law" "law" (defArgs s_law) (defBody s_law) (defScope s_law) .none kV19 dc19 pm19 an19 cd19 ct19), sl19⟩) (c19 : PySem.W.codeIn K cd19 "law" = true) (k19 : PySem.W.keepIn K (.ref f19) = true)
    (z_all : PySem.W.nsIn K mainGlobals "all" = some none)
    (z_bool : PySem.W.nsIn K mainGlobals "bool" = some none)
    (z_enumerate : PySem.W.nsIn K mainGlobals "enumerate" = some none)
    (z_int : PySem.W.nsIn K mainGlobals "int" = some none)
    (z_isinstance : PySem.W.nsIn K mainGlobals "isinstance" = some none)
    (z_len : PySem.W.nsIn K mainGlobals "len" = some none)
    (z_max : PySem.W.nsIn K mainGlobals "max" = some none)
    (z_min : PySem.W.nsIn K mainGlobals "min" = some none)
    (z_range : PySem.W.nsIn K mainGlobals "range" = some none)
    (z_str : PySem.W.nsIn K mainGlobals "str" = some none)
    (z_tuple : PySem.W.nsIn K mainGlobals "tuple" = some none)
    (z_zip : PySem.W.nsIn K mainGlobals "zip" = some none)
    {t_FIRST : Tok} (q_FIRST : PySem.W.nsIn K mainGlobals "FIRST" = some (some (.int 65535 t_FIRST)))
    {t_LONGEST : Tok} (q_LONGEST : PySem.W.nsIn K mainGlobals "LONGEST" = some (some (.int 6 t_LONGEST)))
    {a_MARK : Addr} {od_MARK : Option Addr} {n_MARK : Nat} {sl_MARK : Array (Option Value)} {t0_MARK : Tok} {t1_MARK : Tok} (q_MARK : PySem.W.nsIn K mainGlobals "MARK" = some (some (.ref a_MARK))) (ql_MARK : K.lookup a_MARK = some ⟨.type "tuple", od_MARK, .seq #[.int 70 t0_MARK, .int 86 t1_MARK] n_MARK, sl_MARK⟩)
    {t_MOST_MOST : Tok} (q_MOST_MOST : PySem.W.nsIn K mainGlobals "MOST_MOST" = some (some (.int 1000 t_MOST_MOST)))
    {t_SIZE_MOST : Tok} (q_SIZE_MOST : PySem.W.nsIn K mainGlobals "SIZE_MOST" = some (some (.int 20000 t_SIZE_MOST)))
    {t_TURNS : Tok} (q_TURNS : PySem.W.nsIn K mainGlobals "TURNS" = some (some (.int 4129 t_TURNS)))
    {C_BadForm : Addr} (e1_BadForm : PySem.W.nsIn K mainGlobals "BadForm" = some (some (.ref C_BadForm))) (e2_BadForm : PySem.W.excIn K C_BadForm [.type "ValueError", .type "Exception", .type "BaseException", .type "object"] "ValueError.__new__" = true) (e3_BadForm : PySem.W.keepIn K (.ref C_BadForm) = true) (e4_BadForm : PySem.W.subIn K (.ref C_BadForm) (.type "BaseException") = some true) (e5_BadForm : PySem.W.typeIn K (.ref C_BadForm) = some (.type "type"))
    {C_BadVolume : Addr} (e1_BadVolume : PySem.W.nsIn K mainGlobals "BadVolume" = some (some (.ref C_BadVolume))) (e2_BadVolume : PySem.W.excIn K C_BadVolume [.type "ValueError", .type "Exception", .type "BaseException", .type "object"] "ValueError.__new__" = true) (e3_BadVolume : PySem.W.keepIn K (.ref C_BadVolume) = true) (e4_BadVolume : PySem.W.subIn K (.ref C_BadVolume) (.type "BaseException") = some true) (e5_BadVolume : PySem.W.typeIn K (.ref C_BadVolume) = some (.type "type"))
    {C_Cut : Addr} (e1_Cut : PySem.W.nsIn K mainGlobals "Cut" = some (some (.ref C_Cut))) (e2_Cut : PySem.W.excIn K C_Cut [.type "ValueError", .type "Exception", .type "BaseException", .type "object"] "ValueError.__new__" = true) (e3_Cut : PySem.W.keepIn K (.ref C_Cut) = true) (e4_Cut : PySem.W.subIn K (.ref C_Cut) (.type "BaseException") = some true) (e5_Cut : PySem.W.typeIn K (.ref C_Cut) = some (.type "type"))
    {C_Missing : Addr} (e1_Missing : PySem.W.nsIn K mainGlobals "Missing" = some (some (.ref C_Missing))) (e3_Missing : PySem.W.keepIn K (.ref C_Missing) = true) (e4_Missing : PySem.W.subIn K (.ref C_Missing) (.type "BaseException") = some true) (e5_Missing : PySem.W.typeIn K (.ref C_Missing) = some (.type "type"))
    {nm_Missing q_Missing : Str} {N_Missing : Addr} {bs_Missing bm_Missing : List Value} {sn_Missing : List Str} {sub_Missing : List Value} {ab_Missing : Bool} {col_Missing : Option Bool} {dd_Missing : Option Addr} {k0_Missing k1_Missing k2_Missing k3_Missing k5_Missing : Option Value} (q1_Missing : K.lookup C_Missing = some (excClassObj nm_Missing q_Missing C_Missing N_Missing bs_Missing bm_Missing true sn_Missing sub_Missing ab_Missing col_Missing dd_Missing k0_Missing k1_Missing k2_Missing k3_Missing k5_Missing "ValueError.__new__")) (q2_Missing : PySem.HandSPX.refsVE bm_Missing = true)
    (q3_Missing : PySem.W.findIn K (.ref C_Missing) "__setattr__" = some (some (.builtin "object.__setattr__"))) {fI_Missing : Addr} (q4_Missing : PySem.W.findIn K (.ref C_Missing) "__init__" = some (some (.ref fI_Missing))) (q5_Missing : PySem.W.typeIn K (.ref fI_Missing) = some (.type "function")) (q6_Missing : PySem.W.findIn K (.ref C_Missing) "numbers" = some none)
    (q7_Missing : PySem.W.findIn K (.ref C_Missing) "__getattribute__" = some (some (.builtin "BaseException.__getattribute__"))) (q8_Missing : PySem.W.findIn K (.ref C_Missing) "__getattr__" = some none) (q9_Missing : PySem.W.hasDictIn K C_Missing = true)
    {odI_Missing anI_Missing : Option Addr} {slI_Missing : Array (Option Value)} {ocI_Missing kVI_Missing dcI_Missing pmI_Missing cdI_Missing ctI_Missing : Value} (lI_Missing : K.lookup fI_Missing = some ⟨ocI_Missing, odI_Missing, .func (PySem.W.fnOf "__init__" "Missing.__init__" (defArgs sI_Missing) (defBody sI_Missing) (defScope sI_Missing) .none kVI_Missing dcI_Missing pmI_Missing anI_Missing cdI_Missing ctI_Missing), slI_Missing⟩) (cI_Missing : PySem.W.codeIn K cdI_Missing "Missing.__init__" = true) (kI_Missing : PySem.W.keepIn K (.ref fI_Missing) = true)
    {C_NotTogether : Addr} (e1_NotTogether : PySem.W.nsIn K mainGlobals "NotTogether" = some (some (.ref C_NotTogether))) (e2_NotTogether : PySem.W.excIn K C_NotTogether [.type "ValueError", .type "Exception", .type "BaseException", .type "object"] "ValueError.__new__" = true) (e3_NotTogether : PySem.W.keepIn K (.ref C_NotTogether) = true) (e4_NotTogether : PySem.W.subIn K (.ref C_NotTogether) (.type "BaseException") = some true) (e5_NotTogether : PySem.W.typeIn K (.ref C_NotTogether) = some (.type "type"))
    (h_BadForm : PySem.W.isClsIn K C_BadForm = true)
    (h_BadForm_BadForm : PySem.W.subIn K (.ref C_BadForm) (.ref C_BadForm) = some true)
    (h_BadForm_BadVolume : PySem.W.subIn K (.ref C_BadVolume) (.ref C_BadForm) = some false)
    (h_BadForm_Cut : PySem.W.subIn K (.ref C_Cut) (.ref C_BadForm) = some false)
    (h_BadForm_Missing : PySem.W.subIn K (.ref C_Missing) (.ref C_BadForm) = some false)
    (h_BadForm_NotTogether : PySem.W.subIn K (.ref C_NotTogether) (.ref C_BadForm) = some false)
    (h_Cut : PySem.W.isClsIn K C_Cut = true)
    (h_Cut_BadForm : PySem.W.subIn K (.ref C_BadForm) (.ref C_Cut) = some false)
    (h_Cut_BadVolume : PySem.W.subIn K (.ref C_BadVolume) (.ref C_Cut) = some false)
    (h_Cut_Cut : PySem.W.subIn K (.ref C_Cut) (.ref C_Cut) = some true)
    (h_Cut_Missing : PySem.W.subIn K (.ref C_Missing) (.ref C_Cut) = some false)
    (h_Cut_NotTogether : PySem.W.subIn K (.ref C_NotTogether) (.ref C_Cut) = some false)
    (h_Missing : PySem.W.isClsIn K C_Missing = true)
    (h_Missing_BadForm : PySem.W.subIn K (.ref C_BadForm) (.ref C_Missing) = some false)
    (h_Missing_BadVolume : PySem.W.subIn K (.ref C_BadVolume) (.ref C_Missing) = some false)
    (h_Missing_Cut : PySem.W.subIn K (.ref C_Cut) (.ref C_Missing) = some false)
    (h_Missing_Missing : PySem.W.subIn K (.ref C_Missing) (.ref C_Missing) = some true)
    (h_Missing_NotTogether : PySem.W.subIn K (.ref C_NotTogether) (.ref C_Missing) = some false)
    (h_NotTogether : PySem.W.isClsIn K C_NotTogether = true)
    (h_NotTogether_BadForm : PySem.W.subIn K (.ref C_BadForm) (.ref C_NotTogether) = some false)
    (h_NotTogether_BadVolume : PySem.W.subIn K (.ref C_BadVolume) (.ref C_NotTogether) = some false)
    (h_NotTogether_Cut : PySem.W.subIn K (.ref C_Cut) (.ref C_NotTogether) = some false)
    (h_NotTogether_Missing : PySem.W.subIn K (.ref C_Missing) (.ref C_NotTogether) = some false)
    (h_NotTogether_NotTogether : PySem.W.subIn K (.ref C_NotTogether) (.ref C_NotTogether) = some true)
    : ∃ fd : FuncData, (∀ (s : Shared) (v : Value), BindsTo s fd ⟨[v], []⟩ [("_law_script", v)]) ∧ ∀ base : Heap, K.In base → base.Ns mainGlobals mg → FnOk l.prog w K mg base (L2.CX l.prog w) 13 fa fd ["_law_script"] (spLaw K) := by
  have e := hfa.symm.trans (PySem.W.mg_of X G a19)
  cases e
  have F0 := fun_mk (st := s_mixed) l0 c0 k0
  have b0 := F0.binds (ps := ["bodies", "size"]) fun _ _ _ _ _ _ us hl => match us, hl with | [_, _], _ => rfl
  have F1 := fun_mk (st := s_number_bytes) l1 c1 k1
  have b1 := F1.binds (ps := ["n"]) fun _ _ _ _ _ _ us hl => match us, hl with | [_], _ => rfl
  have F2 := fun_mk (st := s_fixed_bytes) l2 c2 k2
  have b2 := F2.binds (ps := ["n", "many"]) fun _ _ _ _ _ _ us hl => match us, hl with | [_, _], _ => rfl
  have F3 := fun_mk (st := s_check_on) l3 c3 k3
  have b3 := F3.binds (ps := ["before", "body"]) fun _ _ _ _ _ _ us hl => match us, hl with | [_, _], _ => rfl
  have F4 := fun_mk (st := s_check_of) l4 c4 k4
  have b4 := F4.binds (ps := ["body"]) fun _ _ _ _ _ _ us hl => match us, hl with | [_], _ => rfl
  have F5 := fun_mk (st := s_volume_of) l5 c5 k5
  have b5 := F5.binds (ps := ["number", "most", "some", "body"]) fun _ _ _ _ _ _ us hl => match us, hl with | [_, _, _, _], _ => rfl
  have F6 := fun_mk (st := s_shared) l6 c6 k6
  have b6 := F6.binds (ps := ["some", "most"]) fun _ _ _ _ _ _ us hl => match us, hl with | [_, _], _ => rfl
  have F7 := fun_mk (st := s_l_d) l7 c7 k7
  have b7 := F7.binds (ps := ["_law_cell_here", "_law_place", "_law_many"]) fun _ _ _ _ _ _ us hl => match us, hl with | [_, _, _], _ => rfl
  have F8 := fun_mk (st := s_l_few) l8 c8 k8
  have b8 := F8.binds (ps := ["_law_script", "_law_begin", "_law_end"]) fun _ _ _ _ _ _ us hl => match us, hl with | [_, _, _], _ => rfl
  have F9 := fun_mk (st := s_l_same) l9 c9 k9
  have b9 := F9.binds (ps := ["_law_told_here", "_law_due"]) fun _ _ _ _ _ _ us hl => match us, hl with | [_, _], _ => rfl
  have F10 := fun_mk (st := s_l_cell) l10 c10 k10
  have b10 := F10.binds (ps := ["_law_script", "_law_k"]) fun _ _ _ _ _ _ us hl => match us, hl with | [_, _], _ => rfl
  have F11 := fun_mk (st := s_how_many) l11 c11 k11
  have b11 := F11.binds (ps := ["most", "size"]) fun _ _ _ _ _ _ us hl => match us, hl with | [_, _], _ => rfl
  have F12 := fun_mk (st := s_read_number) l12 c12 k12
  have b12 := F12.binds (ps := ["some", "at"]) fun _ _ _ _ _ _ us hl => match us, hl with | [_, _], _ => rfl
  have F13 := fun_mk (st := s_read_fixed) l13 c13 k13
  have b13 := F13.binds (ps := ["some", "at", "many"]) fun _ _ _ _ _ _ us hl => match us, hl with | [_, _, _], _ => rfl
  have F14 := fun_mk (st := s_body_long) l14 c14 k14
  have b14 := F14.binds (ps := ["number", "most", "size"]) fun _ _ _ _ _ _ us hl => match us, hl with | [_, _, _], _ => rfl
  have F15 := fun_mk (st := s_read_volume) l15 c15 k15
  have b15 := F15.binds (ps := ["volume"]) fun _ _ _ _ _ _ us hl => match us, hl with | [_], _ => rfl
  have F16 := fun_mk (st := s_joined) l16 c16 k16
  have b16 := F16.binds (ps := ["volumes"]) fun _ _ _ _ _ _ us hl => match us, hl with | [_], _ => rfl
  have F17 := fun_mk (st := s_l_told) l17 c17 k17
  have b17 := F17.binds (ps := ["_law_volumes"]) fun _ _ _ _ _ _ us hl => match us, hl with | [_], _ => rfl
  have F18 := fun_mk (st := s_l_mixed_up) l18 c18 k18
  have b18 := F18.binds (ps := ["_law_volumes", "_law_cells"]) fun _ _ _ _ _ _ us hl => match us, hl with | [_, _], _ => rfl
  have F19 := fun_mk (st := s_law) l19 c19 k19
  have b19 := F19.binds (ps := ["_law_script"]) fun _ _ _ _ _ _ us hl => match us, hl with | [_], _ => rfl
  have FI_Missing := fun_mk (st := sI_Missing) lI_Missing cI_Missing kI_Missing
  have BI_Missing := FI_Missing.binds (ps := ["self", "numbers"]) fun _ _ _ _ _ _ us hl => match us, hl with | [_, _], _ => rfl
  have T : Txt K mg _ _ _ _ _ _ _ _ _ _ _ _ _ _ _ _ _ _ _ _ _ _ _ _ _ _ _ _ _ _ _ _ _ _ _ _ _ _ _ _ C_Missing _ _ := {
    v_Missing := ⟨⟨⟨_, _, _, _, _, _, _, _, _, _, _, _, _, _, _, q1_Missing, q2_Missing⟩, q3_Missing, e4_Missing, e5_Missing, e3_Missing⟩, q4_Missing, q5_Missing, q6_Missing, BI_Missing, PySem.W.mg_of X G e1_Missing, ⟨q7_Missing, q8_Missing, e4_Missing, q9_Missing⟩⟩,
    FI_Missing := FI_Missing,
    n_all := PySem.W.mg_none_of X G z_all,
    n_bool := PySem.W.mg_none_of X G z_bool,
    n_enumerate := PySem.W.mg_none_of X G z_enumerate,
    n_int := PySem.W.mg_none_of X G z_int,
    n_isinstance := PySem.W.mg_none_of X G z_isinstance,
    n_len := PySem.W.mg_none_of X G z_len,
    n_max := PySem.W.mg_none_of X G z_max,
    n_min := PySem.W.mg_none_of X G z_min,
    n_range := PySem.W.mg_none_of X G z_range,
    n_str := PySem.W.mg_none_of X G z_str,
    n_tuple := PySem.W.mg_none_of X G z_tuple,
    n_zip := PySem.W.mg_none_of X G z_zip,
    c_FIRST := ⟨_, PySem.W.mg_of X G q_FIRST, _, rfl⟩,
    c_LONGEST := ⟨_, PySem.W.mg_of X G q_LONGEST, _, rfl⟩,
    c_MARK := ⟨_, PySem.W.mg_of X G q_MARK, fun S => seq_ints (ns := [70, 86]) ql_MARK rfl rfl (by show 2 ≤ sizeLine; decide) (.cons ⟨_, rfl⟩ (.cons ⟨_, rfl⟩ (.nil)))⟩,
    c_MOST_MOST := ⟨_, PySem.W.mg_of X G q_MOST_MOST, _, rfl⟩,
    c_SIZE_MOST := ⟨_, PySem.W.mg_of X G q_SIZE_MOST, _, rfl⟩,
    c_TURNS := ⟨_, PySem.W.mg_of X G q_TURNS, _, rfl⟩,
    F_mixed := F0, m_mixed := PySem.W.mg_of X G a0, k_mixed := k0, b_mixed := b0,
    F_number_bytes := F1, m_number_bytes := PySem.W.mg_of X G a1, k_number_bytes := k1, b_number_bytes := b1,
    F_fixed_bytes := F2, m_fixed_bytes := PySem.W.mg_of X G a2, k_fixed_bytes := k2, b_fixed_bytes := b2,
    F_check_on := F3, m_check_on := PySem.W.mg_of X G a3, k_check_on := k3, b_check_on := b3,
    F_check_of := F4, m_check_of := PySem.W.mg_of X G a4, k_check_of := k4, b_check_of := b4,
    F_volume_of := F5, m_volume_of := PySem.W.mg_of X G a5, k_volume_of := k5, b_volume_of := b5,
    F_shared := F6, m_shared := PySem.W.mg_of X G a6, k_shared := k6, b_shared := b6,
    F_l_d := F7, m_l_d := PySem.W.mg_of X G a7, k_l_d := k7, b_l_d := b7,
    F_l_few := F8, m_l_few := PySem.W.mg_of X G a8, k_l_few := k8, b_l_few := b8,
    F_l_same := F9, m_l_same := PySem.W.mg_of X G a9, k_l_same := k9, b_l_same := b9,
    F_l_cell := F10, m_l_cell := PySem.W.mg_of X G a10, k_l_cell := k10, b_l_cell := b10,
    F_how_many := F11, m_how_many := PySem.W.mg_of X G a11, k_how_many := k11, b_how_many := b11,
    F_read_number := F12, m_read_number := PySem.W.mg_of X G a12, k_read_number := k12, b_read_number := b12,
    F_read_fixed := F13, m_read_fixed := PySem.W.mg_of X G a13, k_read_fixed := k13, b_read_fixed := b13,
    F_body_long := F14, m_body_long := PySem.W.mg_of X G a14, k_body_long := k14, b_body_long := b14,
    F_read_volume := F15, m_read_volume := PySem.W.mg_of X G a15, k_read_volume := k15, b_read_volume := b15,
    F_joined := F16, m_joined := PySem.W.mg_of X G a16, k_joined := k16, b_joined := b16,
    F_l_told := F17, m_l_told := PySem.W.mg_of X G a17, k_l_told := k17, b_l_told := b17,
    F_l_mixed_up := F18, m_l_mixed_up := PySem.W.mg_of X G a18, k_l_mixed_up := k18, b_l_mixed_up := b18,
    F_law := F19, m_law := PySem.W.mg_of X G a19, k_law := k19, b_law := b19,
    x_BadForm := ⟨_, PySem.W.mg_of X G e1_BadForm, e2_BadForm, e3_BadForm, e4_BadForm, e5_BadForm⟩,
    x_BadVolume := ⟨_, PySem.W.mg_of X G e1_BadVolume, e2_BadVolume, e3_BadVolume, e4_BadVolume, e5_BadVolume⟩,
    x_Cut := ⟨_, PySem.W.mg_of X G e1_Cut, e2_Cut, e3_Cut, e4_Cut, e5_Cut⟩,
    x_NotTogether := ⟨_, PySem.W.mg_of X G e1_NotTogether, e2_NotTogether, e3_NotTogether, e4_NotTogether, e5_NotTogether⟩,
    r_BadForm := fun C hC => (by cases hC.symm.trans (PySem.W.mg_of X G e1_BadForm); exact List.forall_mem_cons.mpr ⟨fun C2 h2 => (by cases h2.symm.trans (PySem.W.mg_of X G e1_BadForm); exact exm_of e4_BadForm h_BadForm e5_BadForm h_BadForm_BadForm), List.forall_mem_cons.mpr ⟨fun C2 h2 => (by cases h2.symm.trans (PySem.W.mg_of X G e1_BadVolume); exact exm_of e4_BadForm h_BadForm e5_BadForm h_BadForm_BadVolume), List.forall_mem_cons.mpr ⟨fun C2 h2 => (by cases h2.symm.trans (PySem.W.mg_of X G e1_Cut); exact exm_of e4_BadForm h_BadForm e5_BadForm h_BadForm_Cut), List.forall_mem_cons.mpr ⟨fun C2 h2 => (by cases h2.symm.trans (PySem.W.mg_of X G e1_Missing); exact exm_of e4_BadForm h_BadForm e5_BadForm h_BadForm_Missing), List.forall_mem_cons.mpr ⟨fun C2 h2 => (by cases h2.symm.trans (PySem.W.mg_of X G e1_NotTogether); exact exm_of e4_BadForm h_BadForm e5_BadForm h_BadForm_NotTogether), List.forall_mem_nil _⟩⟩⟩⟩⟩),
    r_Cut := fun C hC => (by cases hC.symm.trans (PySem.W.mg_of X G e1_Cut); exact List.forall_mem_cons.mpr ⟨fun C2 h2 => (by cases h2.symm.trans (PySem.W.mg_of X G e1_BadForm); exact exm_of e4_Cut h_Cut e5_Cut h_Cut_BadForm), List.forall_mem_cons.mpr ⟨fun C2 h2 => (by cases h2.symm.trans (PySem.W.mg_of X G e1_BadVolume); exact exm_of e4_Cut h_Cut e5_Cut h_Cut_BadVolume), List.forall_mem_cons.mpr ⟨fun C2 h2 => (by cases h2.symm.trans (PySem.W.mg_of X G e1_Cut); exact exm_of e4_Cut h_Cut e5_Cut h_Cut_Cut), List.forall_mem_cons.mpr ⟨fun C2 h2 => (by cases h2.symm.trans (PySem.W.mg_of X G e1_Missing); exact exm_of e4_Cut h_Cut e5_Cut h_Cut_Missing), List.forall_mem_cons.mpr ⟨fun C2 h2 => (by cases h2.symm.trans (PySem.W.mg_of X G e1_NotTogether); exact exm_of e4_Cut h_Cut e5_Cut h_Cut_NotTogether), List.forall_mem_nil _⟩⟩⟩⟩⟩),
    r_Missing := fun C hC => (by cases hC.symm.trans (PySem.W.mg_of X G e1_Missing); exact List.forall_mem_cons.mpr ⟨fun C2 h2 => (by cases h2.symm.trans (PySem.W.mg_of X G e1_BadForm); exact exm_of e4_Missing h_Missing e5_Missing h_Missing_BadForm), List.forall_mem_cons.mpr ⟨fun C2 h2 => (by cases h2.symm.trans (PySem.W.mg_of X G e1_BadVolume); exact exm_of e4_Missing h_Missing e5_Missing h_Missing_BadVolume), List.forall_mem_cons.mpr ⟨fun C2 h2 => (by cases h2.symm.trans (PySem.W.mg_of X G e1_Cut); exact exm_of e4_Missing h_Missing e5_Missing h_Missing_Cut), List.forall_mem_cons.mpr ⟨fun C2 h2 => (by cases h2.symm.trans (PySem.W.mg_of X G e1_Missing); exact exm_of e4_Missing h_Missing e5_Missing h_Missing_Missing), List.forall_mem_cons.mpr ⟨fun C2 h2 => (by cases h2.symm.trans (PySem.W.mg_of X G e1_NotTogether); exact exm_of e4_Missing h_Missing e5_Missing h_Missing_NotTogether), List.forall_mem_nil _⟩⟩⟩⟩⟩),
    r_NotTogether := fun C hC => (by cases hC.symm.trans (PySem.W.mg_of X G e1_NotTogether); exact List.forall_mem_cons.mpr ⟨fun C2 h2 => (by cases h2.symm.trans (PySem.W.mg_of X G e1_BadForm); exact exm_of e4_NotTogether h_NotTogether e5_NotTogether h_NotTogether_BadForm), List.forall_mem_cons.mpr ⟨fun C2 h2 => (by cases h2.symm.trans (PySem.W.mg_of X G e1_BadVolume); exact exm_of e4_NotTogether h_NotTogether e5_NotTogether h_NotTogether_BadVolume), List.forall_mem_cons.mpr ⟨fun C2 h2 => (by cases h2.symm.trans (PySem.W.mg_of X G e1_Cut); exact exm_of e4_NotTogether h_NotTogether e5_NotTogether h_NotTogether_Cut), List.forall_mem_cons.mpr ⟨fun C2 h2 => (by cases h2.symm.trans (PySem.W.mg_of X G e1_Missing); exact exm_of e4_NotTogether h_NotTogether e5_NotTogether h_NotTogether_Missing), List.forall_mem_cons.mpr ⟨fun C2 h2 => (by cases h2.symm.trans (PySem.W.mg_of X G e1_NotTogether); exact exm_of e4_NotTogether h_NotTogether e5_NotTogether h_NotTogether_NotTogether), List.forall_mem_nil _⟩⟩⟩⟩⟩) }
  exact ⟨PySem.W.fnOf "law" "law" (defArgs s_law) (defBody s_law) (defScope s_law) .none kV19 dc19 pm19 an19 cd19 ct19, fun s v => .of_eq rfl, fun base _ _ => law_spG law_true (ok_all T)⟩
end G
open PySem PySem.W PyProof.Rows
set_option maxRecDepth 100000 in
set_option maxHeartbeats 0 in
theorem PySem.Challenge.cw_filecrate_k33_whole_volumes_joined_holds : PySem.Challenge.rw_filecrate_k33_whole_volumes_joined.Holds := by
  w_on; o_law; k_head; (case hw => w_witness2)
  k_fill
  refine L2.walk_of (l := PySem.Challenge.rw_filecrate_k33_whole_volumes_joined) (n := 63) (k := 13) (x := "_law_script") (CX := fun w => L2.CX PySem.Challenge.rw_filecrate_k33_whole_volumes_joined.prog w) (sp := fun w => D2.spLaw _) rfl (by decide) rfl ⟨rfl, by decide, by decide⟩ (fun w h Y => PySem.W.kIn_of Y) ?F (fun _ _ a ns hl _ hS => ⟨a, ns, rfl, hS, hl, fun _ => rfl⟩) (fun _ _ _ _ _ h => D2.cx_no h)
  case F =>
    intro w mg fa h KX Gn hmg
    refine' G.all_mk KX Gn hmg ?a0 ?l0 ?c0 ?k0 ?a1 ?l1 ?c1 ?k1 ?a2 ?l2 ?c2 ?k2 ?a3 ?l3 ?c3 ?k3 ?a4 ?l4 ?c4 ?k4 ?a5 ?l5 ?c5 ?k5 ?a6 ?l6 ?c6 ?k6 ?a7 ?l7 ?c7 ?k7 ?a8 ?l8 ?c8 ?k8 ?a9 ?l9 ?c9 ?k9 ?a10 ?l10 ?c10 ?k10 ?a11 ?l11 ?c11 ?k11 ?a12 ?l12 ?c12 ?k12 ?a13 ?l13 ?c13 ?k13 ?a14 ?l14 ?c14 ?k14 ?a15 ?l15 ?c15 ?k15 ?a16 ?l16 ?c16 ?k16 ?a17 ?l17 ?c17 ?k17 ?a18 ?l18 ?c18 ?k18 ?a19 ?l19 ?c19 ?k19 ?z_all ?z_bool ?z_enumerate ?z_int ?z_isinstance ?z_len ?z_max ?z_min ?z_range ?z_str ?z_tuple ?z_zip ?q_FIRST ?q_LONGEST ?q_MARK ?ql_MARK ?q_MOST_MOST ?q_SIZE_MOST ?q_TURNS ?e1_BadForm ?e2_BadForm ?e3_BadForm ?e4_BadForm ?e5_BadForm ?e1_BadVolume ?e2_BadVolume ?e3_BadVolume ?e4_BadVolume ?e5_BadVolume ?e1_Cut ?e2_Cut ?e3_Cut ?e4_Cut ?e5_Cut ?e1_Missing ?e3_Missing ?e4_Missing ?e5_Missing ?q1_Missing ?q2_Missing ?q3_Missing ?q4_Missing ?q5_Missing ?q6_Missing ?q7_Missing ?q8_Missing ?q9_Missing ?lI_Missing ?cI_Missing ?kI_Missing ?e1_NotTogether ?e2_NotTogether ?e3_NotTogether ?e4_NotTogether ?e5_NotTogether ?h_BadForm ?h_BadForm_BadForm ?h_BadForm_BadVolume ?h_BadForm_Cut ?h_BadForm_Missing ?h_BadForm_NotTogether ?h_Cut ?h_Cut_BadForm ?h_Cut_BadVolume ?h_Cut_Cut ?h_Cut_Missing ?h_Cut_NotTogether ?h_Missing ?h_Missing_BadForm ?h_Missing_BadVolume ?h_Missing_Cut ?h_Missing_Missing ?h_Missing_NotTogether ?h_NotTogether ?h_NotTogether_BadForm ?h_NotTogether_BadVolume ?h_NotTogether_Cut ?h_NotTogether_Missing ?h_NotTogether_NotTogether
    (case a0 => k_is); (case l0 => k_is); (case c0 => k_is); (case k0 => k_is)
    (case a1 => k_is); (case l1 => k_is); (case c1 => k_is); (case k1 => k_is)
    (case a2 => k_is); (case l2 => k_is); (case c2 => k_is); (case k2 => k_is)
    (case a3 => k_is); (case l3 => k_is); (case c3 => k_is); (case k3 => k_is)
    (case a4 => k_is); (case l4 => k_is); (case c4 => k_is); (case k4 => k_is)
    (case a5 => k_is); (case l5 => k_is); (case c5 => k_is); (case k5 => k_is)
    (case a6 => k_is); (case l6 => k_is); (case c6 => k_is); (case k6 => k_is)
    (case a7 => k_is); (case l7 => k_is); (case c7 => k_is); (case k7 => k_is)
    (case a8 => k_is); (case l8 => k_is); (case c8 => k_is); (case k8 => k_is)
    (case a9 => k_is); (case l9 => k_is); (case c9 => k_is); (case k9 => k_is)
    (case a10 => k_is); (case l10 => k_is); (case c10 => k_is); (case k10 => k_is)
    (case a11 => k_is); (case l11 => k_is); (case c11 => k_is); (case k11 => k_is)
    (case a12 => k_is); (case l12 => k_is); (case c12 => k_is); (case k12 => k_is)
    (case a13 => k_is); (case l13 => k_is); (case c13 => k_is); (case k13 => k_is)
    (case a14 => k_is); (case l14 => k_is); (case c14 => k_is); (case k14 => k_is)
    (case a15 => k_is); (case l15 => k_is); (case c15 => k_is); (case k15 => k_is)
    (case a16 => k_is); (case l16 => k_is); (case c16 => k_is); (case k16 => k_is)
    (case a17 => k_is); (case l17 => k_is); (case c17 => k_is); (case k17 => k_is)
    (case a18 => k_is); (case l18 => k_is); (case c18 => k_is); (case k18 => k_is)
    (case a19 => k_is); (case l19 => k_is); (case c19 => k_is); (case k19 => k_is)
    (case z_all => k_is); (case z_bool => k_is); (case z_enumerate => k_is); (case z_int => k_is)
    (case z_isinstance => k_is); (case z_len => k_is); (case z_max => k_is); (case z_min => k_is)
    (case z_range => k_is); (case z_str => k_is); (case z_tuple => k_is); (case z_zip => k_is)
    (case q_FIRST => k_is); (case q_LONGEST => k_is); (case q_MARK => k_is); (case ql_MARK => k_is)
    (case q_MOST_MOST => k_is); (case q_SIZE_MOST => k_is); (case q_TURNS => k_is); (case e1_BadForm => k_is)
    (case e2_BadForm => k_exc); (case e3_BadForm => k_is); (case e4_BadForm => k_is); (case e5_BadForm => k_is)
    (case e1_BadVolume => k_is); (case e2_BadVolume => k_exc); (case e3_BadVolume => k_is); (case e4_BadVolume => k_is)
    (case e5_BadVolume => k_is); (case e1_Cut => k_is); (case e2_Cut => k_exc); (case e3_Cut => k_is)
    (case e4_Cut => k_is); (case e5_Cut => k_is); (case e1_Missing => k_is); (case e3_Missing => k_is)
    (case e4_Missing => k_is); (case e5_Missing => k_is); (case q1_Missing => k_is); (case q2_Missing => rfl)
    (case q3_Missing => k_is); (case q4_Missing => k_is); (case q5_Missing => k_is); (case q6_Missing => k_is)
    (case q7_Missing => k_is); (case q8_Missing => k_is); (case q9_Missing => k_is); (case lI_Missing => k_is)
    (case cI_Missing => k_is); (case kI_Missing => k_is); (case e1_NotTogether => k_is); (case e2_NotTogether => k_exc)
    (case e3_NotTogether => k_is); (case e4_NotTogether => k_is); (case e5_NotTogether => k_is); (case h_BadForm => k_is)
    (case h_BadForm_BadForm => k_is); (case h_BadForm_BadVolume => k_is); (case h_BadForm_Cut => k_is); (case h_BadForm_Missing => k_is)
    (case h_BadForm_NotTogether => k_is); (case h_Cut => k_is); (case h_Cut_BadForm => k_is); (case h_Cut_BadVolume => k_is)
    (case h_Cut_Cut => k_is); (case h_Cut_Missing => k_is); (case h_Cut_NotTogether => k_is); (case h_Missing => k_is)
    (case h_Missing_BadForm => k_is); (case h_Missing_BadVolume => k_is); (case h_Missing_Cut => k_is); (case h_Missing_Missing => k_is)
    (case h_Missing_NotTogether => k_is); (case h_NotTogether => k_is); (case h_NotTogether_BadForm => k_is); (case h_NotTogether_BadVolume => k_is)
    (case h_NotTogether_Cut => k_is); (case h_NotTogether_Missing => k_is); (case h_NotTogether_NotTogether => k_is)
