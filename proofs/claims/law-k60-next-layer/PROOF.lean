import PyProof.Rows.All
import Wide.All
import OpenK.AllK
import Wide.FinOn
import HandS.ForMost
import HandS.ForExc
import HandS.Wide
import HandS.TupAny
import HandS.CallSlots
import KE.KDictKeyed
import KE.SortData
import KE.DataMinMax
import HandS.IsInst
import KE.KTupSum
import HandS.Zip
import HandS.Rev
import KE.GoesEnum
import HandS.WordsExc
import KE.KDictCopyH
import HandS.Conv
import HandS.NoneIn
import HandS.Defaults
import HandS.HeadHook2
import HandS.EndBits
import KE.IntTextLaws
import PyProof.Rows.ReprOcc
import KE.KxText
import PySem.Challenge.RW_tidepond_k60_next_layer
set_option Elab.async false
set_option linter.all false
set_option maxRecDepth 100000
set_option maxHeartbeats 4000000
/-! Rf: reflection. Part A: outcomes, slots, what a value stands for. -/
namespace Rf
open PySem L2

abbrev D := PyData
/-- the program and the world (a dict's object tells of them) -/
class PWd where
  P : Program
  w : World
structure Exc where
  cls : Str
  args : List (Str × D)
inductive Res (α : Type) where
  | ok (a : α) | exc (e : Exc) | bad
def Res.bind {α β : Type} (r : Res α) (k : α → Res β) : Res β := match r with
  | .ok a => k a
  | .exc e => .exc e
  | .bad => .bad
instance : Monad Res where
  pure := .ok
  bind := Res.bind
section
variable {α β : Type} {a : α} {k : α → Res β} {e : Exc}
@[simp] theorem bind_ok : (Res.ok a >>= k) = k a := id rfl
@[simp] theorem bind_exc : ((Res.exc e : Res α) >>= k) = .exc e := id rfl
@[simp] theorem bind_bad : ((Res.bad : Res α) >>= k) = .bad := id rfl
@[simp] theorem pure_ok : (pure a : Res α) = .ok a := rfl
end
/-- a name's slot: nothing yet; a thing that nobody changes any more; a list of the def's own that no other thing knows -/
inductive Slot where
  | un | sh (d : D) | own (ds : List D) | dic (kvs : List (D × D))
abbrev Sl := List Slot

/-! ### what a value stands for stays -/
section
variable {K : PySem.W.Frag} {S S' H H' : Hp}
theorem same_t {a : Addr} {xs : List V} (e : Same S S') (h : SqT K S a xs) : SqT K S' a xs := by
  rcases h with (h | ⟨o, h⟩) | h
  · exact .inl (.inl (e _ _ h))
  · exact .inl (.inr ⟨o, e _ _ h⟩)
  · exact .inr h
mutual
theorem dp_mono (e : Same S S') : ∀ (d : PyData) (v : V), Dp K S v d → Dp K S' v d
  | .none, _, h => by cases h; exact .non
  | .bool b, _, h => by cases h; exact .bl b
  | .int i, _, h => by cases h; exact .int i
  | .str x, _, h => by cases h; exact .str x
  | .list ds, _, h => by
    cases h with
    | lst hs ha => exact .lst (e.seq hs) (dps_mono e ds _ ha)
  | .tuple ds, _, h => by
    cases h with
    | tup hs ha => exact .tup (same_t e hs) (dps_mono e ds _ ha)
  | .dict kvs, _, h => by cases h
theorem dps_mono (e : Same S S') : ∀ (ds : List PyData) (vs : List V), DpAll K S vs ds → DpAll K S' vs ds
  | [], _, h => by cases h; exact .nil
  | d :: ds, _, h => by
    cases h with
    | cons h1 h2 => exact .cons (dp_mono e d _ h1) (dps_mono e ds _ h2)
end
theorem dps_len : ∀ {ds : List D} {vs : List V}, DpAll K S vs ds → vs.length = ds.length
  | [], _, h => by cases h; rfl
  | d :: ds, _, h => by
    cases h with
    | cons h1 h2 => rw [List.length_cons, List.length_cons, dps_len h2]
theorem dps_at : ∀ {ds : List D} {vs : List V} {i : Nat} {d : D}, DpAll K S vs ds → ds[i]? = some d → ∃ v, vs[i]? = some v ∧ Dp K S v d
  | [], _, _, _, _, e => by simp at e
  | d :: ds, _, 0, _, h, e => by
    cases h with
    | cons h1 h2 =>
      simp at e; subst e
      exact ⟨_, rfl, h1⟩
  | d :: ds, _, i + 1, _, h, e => by
    cases h with
    | cons h1 h2 =>
      obtain ⟨v, a, b⟩ := dps_at (i := i) h2 (by simpa using e)
      exact ⟨v, by simpa using a, b⟩
theorem dps_atV : ∀ {ds : List D} {vs : List V} {i : Nat} {v : V}, DpAll K S vs ds → vs[i]? = some v → ∃ d, ds[i]? = some d ∧ Dp K S v d
  | [], _, _, _, h, e => by cases h; simp at e
  | d :: ds, _, 0, _, h, e => by
    cases h with
    | cons h1 h2 =>
      simp at e; subst e
      exact ⟨_, rfl, h1⟩
  | d :: ds, _, i + 1, _, h, e => by
    cases h with
    | cons h1 h2 =>
      obtain ⟨v, a, b⟩ := dps_atV (i := i) h2 (by simpa using e)
      exact ⟨v, by simpa using a, b⟩
theorem dps_append : ∀ {ds es : List D} {vs us : List V}, DpAll K S vs ds → DpAll K S us es → DpAll K S (vs ++ us) (ds ++ es)
  | [], _, _, _, h, q => by cases h; exact q
  | d :: ds, _, _, _, h, q => by
    cases h with
    | cons h1 h2 => exact .cons h1 (dps_append h2 q)
theorem dps_take : ∀ {ds : List D} {vs : List V} (n : Nat), DpAll K S vs ds → DpAll K S (vs.take n) (ds.take n)
  | _, _, 0, _ => .nil
  | [], _, n + 1, h => by cases h; exact .nil
  | d :: ds, _, n + 1, h => by
    cases h with
    | cons h1 h2 => exact .cons h1 (dps_take n h2)
theorem dps_drop : ∀ {ds : List D} {vs : List V} (n : Nat), DpAll K S vs ds → DpAll K S (vs.drop n) (ds.drop n)
  | _, _, 0, h => h
  | [], _, n + 1, h => by cases h; exact .nil
  | d :: ds, _, n + 1, h => by
    cases h with
    | cons h1 h2 => exact dps_drop n h2
theorem dps_set : ∀ {ds : List D} {vs : List V} (n : Nat) {v : V} {d : D}, DpAll K S vs ds → Dp K S v d → DpAll K S (vs.set n v) (ds.set n d)
  | [], _, _, _, _, h, _ => by cases h; exact .nil
  | d :: ds, _, 0, _, _, h, q => by
    cases h with
    | cons h1 h2 => exact .cons q h2
  | d :: ds, _, n + 1, _, _, h, q => by
    cases h with
    | cons h1 h2 => exact .cons h1 (dps_set n h2 q)
theorem dps_erase : ∀ {ds : List D} {vs : List V} (n : Nat), DpAll K S vs ds → DpAll K S (vs.eraseIdx n) (ds.eraseIdx n)
  | [], _, _, h => by cases h; exact .nil
  | d :: ds, _, 0, h => by
    cases h with
    | cons h1 h2 => exact h2
  | d :: ds, _, n + 1, h => by
    cases h with
    | cons h1 h2 => exact .cons h1 (dps_erase n h2)
theorem dps_ints : ∀ {ns : List Int} {vs : List V}, DpAll K S vs (ns.map PyData.int) ↔ vs = ns.map V.int
  | [], vs => ⟨fun h => by cases h; rfl, fun h => by subst h; exact .nil⟩
  | n :: ns, vs => ⟨fun h => by
      cases h with
      | cons h1 h2 =>
        cases h1
        rw [dps_ints.mp h2]; rfl, fun h => by subst h; exact .cons (.int n) (dps_ints.mpr rfl)⟩
theorem dps_bls : ∀ {ns : List Bool} {vs : List V}, DpAll K S vs (ns.map PyData.bool) ↔ vs = ns.map V.bl
  | [], vs => ⟨fun h => by cases h; rfl, fun h => by subst h; exact .nil⟩
  | n :: ns, vs => ⟨fun h => by
      cases h with
      | cons h1 h2 =>
        cases h1
        rw [dps_bls.mp h2]; rfl, fun h => by subst h; exact .cons (.bl n) (dps_bls.mpr rfl)⟩
theorem dps_strs : ∀ {ns : List Str} {vs : List V}, DpAll K S vs (ns.map PyData.str) ↔ vs = ns.map V.str
  | [], vs => ⟨fun h => by cases h; rfl, fun h => by subst h; exact .nil⟩
  | n :: ns, vs => ⟨fun h => by
      cases h with
      | cons h1 h2 =>
        cases h1
        rw [dps_strs.mp h2]; rfl, fun h => by subst h; exact .cons (.str n) (dps_strs.mpr rfl)⟩
theorem upd_of_none {p : Addr} {o : HO} (h : S p = none) : Same S (upd S p o) := fun b u e => by
  rw [upd_ne (ne_of_none e h)]
  exact e
end

/-! ### heaps: S what nobody changes any more, H what stands -/
structure Ext (S H S' H' : Hp) : Prop where
  s : Same S S'
  sub : Same S' H'
  h : Same H H'
  new : ∀ a o, S' a = some o → S a = some o ∨ H a = none
section
variable {S H S1 H1 S2 H2 : Hp}
theorem Ext.refl (h : Same S H) : Ext S H S H := ⟨Same.refl S, h, Same.refl H, fun _ _ e => .inl e⟩
theorem Ext.trans (a : Ext S H S1 H1) (b : Ext S1 H1 S2 H2) : Ext S H S2 H2 := ⟨a.s.trans b.s, b.sub, a.h.trans b.h, fun x o e => by
  rcases b.new x o e with q | q
  · exact a.new x o q
  · exact .inr (a.h.free q)⟩
/-- a new object that nobody changes -/
theorem Ext.laid (h : Same S H) {p : Addr} {o : HO} (hp : H p = none) : Ext S H (upd S p o) (upd H p o) := by
  have sp : S p = none := Same.free h hp
  refine ⟨upd_of_none sp, fun a u e => ?_, upd_of_none hp, fun a u e => ?_⟩
  · by_cases q : a = p
    · subst q
      rw [upd_same] at e ⊢
      exact e
    · rw [upd_ne q] at e ⊢
      exact h _ _ e
  · by_cases q : a = p
    · subst q
      exact .inr hp
    · rw [upd_ne q] at e
      exact .inl e
/-- a new object of the def's own -/
theorem Ext.made (h : Same S H) {p : Addr} {o : HO} (hp : H p = none) : Ext S H S (upd H p o) :=
  ⟨Same.refl S, h.trans (upd_of_none hp), upd_of_none hp, fun _ _ e => .inl e⟩
theorem Ext.none (x : Ext S H S1 H1) {p : Addr} {o : HO} (hs : S p = none) (hp : H p = some o) : S1 p = none := by
  cases e : S1 p with
  | none => rfl
  | some u =>
    rcases x.new p u e with q | q
    · rw [hs] at q; cases q
    · rw [hp] at q; cases q
end

/-! ### slots -/
mutual
/-- a thing as a dict's key -/
def nkD : D → Option NestedKey
  | .none => some .none
  | .bool b => some (.num (if b = true then 1 else 0))
  | .int i => some (.num i)
  | .str s => some (.text s)
  | .tuple ds => (nkAll ds).map .tup
  | .list _ => none
  | .dict _ => none
def nkAll : List D → Option (List NestedKey)
  | [] => some []
  | d :: ds => (match nkD d with
    | some k => (nkAll ds).map (k :: ·)
    | none => none)
end
variable [PWd]
/-- the dict at p, with the entries xs (told of the dict's own object alone) -/
def DNO (p : Addr) (xs : List (NestedKey × Addr × Value)) : HO := .ext fun h => (p == sysModules) = false ∧ xs.length ≤ sizeLine ∧
  ∃ o es ep, h.get? p = some o ∧ o.ExactDict ∧ o.data = .dict es ep ∧ es.toList = xs.map (entryOfKey (nestedKind PWd.P PWd.w)) ∧ (xs.map (·.1)).Nodup
structure DcOne (K : PySem.W.Frag) (S : Hp) (x : NestedKey × Addr × Value) (kv : D × D) : Prop where
  key : nkD kv.1 = some x.1
  deep : x.1.depth ≤ 8
  kd : Dp K S (.ref x.2.1) kv.1
  vd : ∃ v, RelV v x.2.2 ∧ Dp K S v kv.2
def DcOk (K : PySem.W.Frag) (S : Hp) (xs : List (NestedKey × Addr × Value)) (kvs : List (D × D)) : Prop := Paired (DcOne K S) xs kvs
theorem dc_mono {K : PySem.W.Frag} {S S' : Hp} (e : Same S S') {xs : List (NestedKey × Addr × Value)} {kvs : List (D × D)} (h : DcOk K S xs kvs) : DcOk K S' xs kvs :=
  Paired.mapP h fun _ _ z => ⟨z.key, z.deep, dp_mono e _ _ z.kd, by obtain ⟨v, a, b⟩ := z.vd; exact ⟨v, a, dp_mono e _ _ b⟩⟩
theorem dno_lst {p : Addr} {xs : List (NestedKey × Addr × Value)} {ys : List V} : DNO p xs ≠ .lst ys := fun z => by
  have z' : HO.ext _ = HO.lst ys := z
  cases z'
def SlotOk (K : PySem.W.Frag) (S H : Hp) (x : Option (Option V)) : Slot → Prop
  | .un => True
  | .sh d => ∃ v, x = some (some v) ∧ Dp K S v d
  | .own ds => ∃ p xs, x = some (some (.ref p)) ∧ H p = some (.lst xs) ∧ S p = none ∧ DpAll K S xs ds
  | .dic kvs => ∃ p xs, x = some (some (.ref p)) ∧ H p = some (DNO p xs) ∧ S p = none ∧ DcOk K S xs kvs
structure Rp (K : PySem.W.Frag) (S H : Hp) (σ : St) (ρ : Sl) : Prop where
  len : ρ.length = σ.length
  sub : Same S H
  at_ : ∀ (i : Nat) (s : Slot), ρ[i]? = some s → SlotOk K S H σ[i]? s
  inj : ∀ (i j : Nat) (p : Addr) (di dj : List D), ρ[i]? = some (.own di) → ρ[j]? = some (.own dj) → σ[i]? = some (some (.ref p)) → σ[j]? = some (some (.ref p)) → i = j
  injD : ∀ (i j : Nat) (p : Addr) (di dj : List (D × D)), ρ[i]? = some (.dic di) → ρ[j]? = some (.dic dj) → σ[i]? = some (some (.ref p)) → σ[j]? = some (some (.ref p)) → i = j
section
variable {K : PySem.W.Frag} {S H S' H' : Hp} {σ : St} {ρ : Sl}
theorem SlotOk.ext {x : Option (Option V)} {s : Slot} (h : SlotOk K S H x s) (e : Ext S H S' H') : SlotOk K S' H' x s := by
  cases s with
  | un => trivial
  | sh d => obtain ⟨v, a, b⟩ := h; exact ⟨v, a, dp_mono e.s _ _ b⟩
  | own ds => obtain ⟨p, xs, a, b, c, d⟩ := h; exact ⟨p, xs, a, e.h _ _ b, e.none c b, dps_mono e.s _ _ d⟩
  | dic kvs => obtain ⟨p, xs, a, b, c, d⟩ := h; exact ⟨p, xs, a, e.h _ _ b, e.none c b, dc_mono e.s d⟩
theorem Rp.ext (r : Rp K S H σ ρ) (e : Ext S H S' H') : Rp K S' H' σ ρ := ⟨r.len, e.sub, fun i s h => (r.at_ i s h).ext e, r.inj, r.injD⟩
theorem Rp.sh (r : Rp K S H σ ρ) {i : Nat} {d : D} (h : ρ[i]? = some (.sh d)) : ∃ v, σ[i]? = some (some v) ∧ Dp K S v d := r.at_ i _ h
theorem Rp.dic (r : Rp K S H σ ρ) {i : Nat} {kvs : List (D × D)} (h : ρ[i]? = some (.dic kvs)) : ∃ p xs, σ[i]? = some (some (.ref p)) ∧ H p = some (DNO p xs) ∧ S p = none ∧ DcOk K S xs kvs := r.at_ i _ h
theorem Rp.own (r : Rp K S H σ ρ) {i : Nat} {ds : List D} (h : ρ[i]? = some (.own ds)) : ∃ p xs, σ[i]? = some (some (.ref p)) ∧ H p = some (.lst xs) ∧ S p = none ∧ DpAll K S xs ds := r.at_ i _ h
/-- a slot is stored: what is stored lies beside the own lists of the others -/
theorem Rp.set (r : Rp K S H σ ρ) (i : Nat) {x : Option V} {s : Slot} (h : SlotOk K S H (some x) s)
    (hn : ∀ (ds : List D) (p : Addr), s = .own ds → x = some (.ref p) → ∀ (j : Nat) (dj : List D), j ≠ i → ρ[j]? = some (.own dj) → σ[j]? ≠ some (some (.ref p)))
    (hnD : ∀ (ds : List (D × D)) (p : Addr), s = .dic ds → x = some (.ref p) → ∀ (j : Nat) (dj : List (D × D)), j ≠ i → ρ[j]? = some (.dic dj) → σ[j]? ≠ some (some (.ref p))) : Rp K S H (σ.set i x) (ρ.set i s) := by
  refine ⟨by rw [List.length_set, List.length_set, r.len], r.sub, fun j t e => ?_, fun a b p da db ea eb fa fb => ?_, fun a b p da db ea eb fa fb => ?_⟩
  · by_cases q : i = j
    · subst q
      have hl : i < ρ.length := by
        have := (List.getElem?_eq_some_iff.mp e).1
        rwa [List.length_set] at this
      rw [List.getElem?_set_self hl] at e
      cases e
      rw [List.getElem?_set_self (by rw [← r.len]; exact hl)]
      exact h
    · rw [List.getElem?_set_ne q] at e
      rw [List.getElem?_set_ne q]
      exact r.at_ j t e
  · by_cases qa : i = a
    · by_cases qb : i = b
      · rw [← qa, ← qb]
      · subst qa
        have hl : i < ρ.length := by
          have := (List.getElem?_eq_some_iff.mp ea).1
          rwa [List.length_set] at this
        rw [List.getElem?_set_self hl] at ea
        rw [List.getElem?_set_self (by rw [← r.len]; exact hl)] at fa
        rw [List.getElem?_set_ne qb] at eb fb
        exact absurd fb (hn da p (Option.some.inj ea) (Option.some.inj fa) b db (Ne.symm qb) eb)
    · by_cases qb : i = b
      · subst qb
        have hl : i < ρ.length := by
          have := (List.getElem?_eq_some_iff.mp eb).1
          rwa [List.length_set] at this
        rw [List.getElem?_set_self hl] at eb
        rw [List.getElem?_set_self (by rw [← r.len]; exact hl)] at fb
        rw [List.getElem?_set_ne qa] at ea fa
        exact absurd fa (hn db p (Option.some.inj eb) (Option.some.inj fb) a da (Ne.symm qa) ea)
      · rw [List.getElem?_set_ne qa] at ea fa
        rw [List.getElem?_set_ne qb] at eb fb
        exact r.inj a b p da db ea eb fa fb
  · by_cases qa : i = a
    · by_cases qb : i = b
      · rw [← qa, ← qb]
      · subst qa
        have hl : i < ρ.length := by
          have := (List.getElem?_eq_some_iff.mp ea).1
          rwa [List.length_set] at this
        rw [List.getElem?_set_self hl] at ea
        rw [List.getElem?_set_self (by rw [← r.len]; exact hl)] at fa
        rw [List.getElem?_set_ne qb] at eb fb
        exact absurd fb (hnD da p (Option.some.inj ea) (Option.some.inj fa) b db (Ne.symm qb) eb)
    · by_cases qb : i = b
      · subst qb
        have hl : i < ρ.length := by
          have := (List.getElem?_eq_some_iff.mp eb).1
          rwa [List.length_set] at this
        rw [List.getElem?_set_self hl] at eb
        rw [List.getElem?_set_self (by rw [← r.len]; exact hl)] at fb
        rw [List.getElem?_set_ne qa] at ea fa
        exact absurd fa (hnD db p (Option.some.inj eb) (Option.some.inj fb) a da (Ne.symm qa) ea)
      · rw [List.getElem?_set_ne qa] at ea fa
        rw [List.getElem?_set_ne qb] at eb fb
        exact r.injD a b p da db ea eb fa fb
theorem Rp.setSh (r : Rp K S H σ ρ) (i : Nat) {v : V} {d : D} (h : Dp K S v d) : Rp K S H (σ.set i (some v)) (ρ.set i (.sh d)) :=
  r.set i ⟨v, rfl, h⟩ (fun _ _ e => nomatch e) (fun _ _ e => nomatch e)
theorem Rp.setUn (r : Rp K S H σ ρ) (i : Nat) (x : Option V) : Rp K S H (σ.set i x) (ρ.set i .un) := r.set i trivial (fun _ _ e => nomatch e) (fun _ _ e => nomatch e)
/-- a list that is new since the heap H0 becomes a slot's own -/
theorem Rp.setOwn (r : Rp K S H σ ρ) (i : Nat) {p : Addr} {xs : List V} {ds : List D} (h1 : H p = some (.lst xs)) (h2 : S p = none) (h3 : DpAll K S xs ds)
    (hn : ∀ (j : Nat) (dj : List D), ρ[j]? = some (.own dj) → σ[j]? ≠ some (some (.ref p))) : Rp K S H (σ.set i (some (.ref p))) (ρ.set i (.own ds)) :=
  r.set i ⟨p, xs, rfl, h1, h2, h3⟩ (fun _ q e1 e2 j dj hj e => by
    cases e2
    exact hn j dj e) (fun _ _ e => nomatch e)
/-- a dict becomes a slot's own -/
theorem Rp.setDic (r : Rp K S H σ ρ) (i : Nat) {p : Addr} {xs : List (NestedKey × Addr × Value)} {kvs : List (D × D)} (h1 : H p = some (DNO p xs)) (h2 : S p = none) (h3 : DcOk K S xs kvs)
    (hn : ∀ (j : Nat) (dj : List (D × D)), ρ[j]? = some (.dic dj) → σ[j]? ≠ some (some (.ref p))) : Rp K S H (σ.set i (some (.ref p))) (ρ.set i (.dic kvs)) :=
  r.set i ⟨p, xs, rfl, h1, h2, h3⟩ (fun _ _ e => nomatch e) (fun _ q e1 e2 j dj hj e => by
    cases e2
    exact hn j dj e)
/-- an own list is frozen -/
theorem Rp.frz (r : Rp K S H σ ρ) {i : Nat} {ds : List D} (h : ρ[i]? = some (.own ds)) : ∃ p xs, σ[i]? = some (some (.ref p)) ∧ H p = some (.lst xs) ∧ S p = none ∧ DpAll K S xs ds ∧
    Rp K (upd S p (.lst xs)) H σ (ρ.set i (.sh (.list ds))) := by
  obtain ⟨p, xs, e1, e2, e3, e4⟩ := r.own h
  have hi : i < ρ.length := (List.getElem?_eq_some_iff.mp h).1
  have sm : Same S (upd S p (.lst xs)) := upd_of_none e3
  refine ⟨p, xs, e1, e2, e3, e4, by rw [List.length_set]; exact r.len, fun a o e => ?_, fun j s e => ?_, fun a b q da db ea eb fa fb => ?_, fun a b q da db ea eb fa fb => ?_⟩
  · by_cases q : a = p
    · subst q
      rw [upd_same] at e
      rw [← e]; exact e2
    · rw [upd_ne q] at e
      exact r.sub _ _ e
  · by_cases q : i = j
    · subst q
      rw [List.getElem?_set_self hi] at e
      cases e
      exact ⟨.ref p, e1, .lst (SqL.of upd_same) (dps_mono sm _ _ e4)⟩
    · rw [List.getElem?_set_ne q] at e
      have z := r.at_ j s e
      cases s with
      | un => trivial
      | sh d => obtain ⟨v, a, b⟩ := z; exact ⟨v, a, dp_mono sm _ _ b⟩
      | own dj =>
        obtain ⟨p2, ys, a, b, c, d⟩ := z
        refine ⟨p2, ys, a, b, ?_, dps_mono sm _ _ d⟩
        have ne : p2 ≠ p := fun w => by
          subst w
          exact q (r.inj i j p2 ds dj h e e1 a)
        rw [upd_ne ne]
        exact c
      | dic kj =>
        obtain ⟨p2, ys, a, b, c, d⟩ := z
        refine ⟨p2, ys, a, b, ?_, dc_mono sm d⟩
        have ne : p2 ≠ p := fun w => by
          subst w
          rw [e2] at b
          exact dno_lst (Option.some.inj b).symm
        rw [upd_ne ne]
        exact c
  · by_cases qa : i = a
    · subst qa
      rw [List.getElem?_set_self hi] at ea
      cases ea
    · by_cases qb : i = b
      · subst qb
        rw [List.getElem?_set_self hi] at eb
        cases eb
      · rw [List.getElem?_set_ne qa] at ea
        rw [List.getElem?_set_ne qb] at eb
        exact r.inj a b q da db ea eb fa fb
  · by_cases qa : i = a
    · subst qa
      rw [List.getElem?_set_self hi] at ea
      cases ea
    · by_cases qb : i = b
      · subst qb
        rw [List.getElem?_set_self hi] at eb
        cases eb
      · rw [List.getElem?_set_ne qa] at ea
        rw [List.getElem?_set_ne qb] at eb
        exact r.injD a b q da db ea eb fa fb
theorem set_other {s s' : Slot} {ρ : Sl} {i a : Nat} (h : (ρ.set i s)[a]? = some s') (ne : s ≠ s') : i ≠ a ∧ ρ[a]? = some s' := by
  by_cases q : i = a
  · subst q
    by_cases l : i < ρ.length
    · rw [List.getElem?_set_self l] at h
      exact absurd (Option.some.inj h) ne
    · rw [List.getElem?_eq_none (by rw [List.length_set]; omega)] at h; cases h
  · rw [List.getElem?_set_ne q] at h
    exact ⟨q, h⟩
/-- an own list is changed -/
theorem Rp.mut (r : Rp K S H σ ρ) {i : Nat} {ds es : List D} {p : Addr} {ys : List V} (h : ρ[i]? = some (.own ds)) (h1 : σ[i]? = some (some (.ref p))) (h2 : S p = none) (h3 : DpAll K S ys es) :
    Rp K S (upd H p (.lst ys)) σ (ρ.set i (.own es)) := by
  have hi : i < ρ.length := (List.getElem?_eq_some_iff.mp h).1
  refine ⟨by rw [List.length_set]; exact r.len, fun a o e => ?_, fun j s e => ?_, fun a b q da db ea eb fa fb => ?_, fun a b q da db ea eb fa fb => ?_⟩
  · rw [upd_ne (ne_of_none e h2)]
    exact r.sub _ _ e
  · by_cases q : i = j
    · subst q
      rw [List.getElem?_set_self hi] at e
      cases e
      exact ⟨p, ys, h1, upd_same, h2, h3⟩
    · rw [List.getElem?_set_ne q] at e
      have z := r.at_ j s e
      cases s with
      | un => trivial
      | sh d => exact z
      | own dj =>
        obtain ⟨p2, zs, a, b, c, d⟩ := z
        refine ⟨p2, zs, a, ?_, c, d⟩
        have ne : p2 ≠ p := fun w => by
          subst w
          exact q (r.inj i j p2 ds dj h e h1 a)
        rw [upd_ne ne]
        exact b
      | dic kj =>
        obtain ⟨p2, zs, a, b, c, d⟩ := z
        refine ⟨p2, zs, a, ?_, c, d⟩
        obtain ⟨p3, xs3, a3, b3, _, _⟩ := r.own h
        have e3 : p3 = p := by
          rw [h1] at a3
          cases a3; rfl
        subst e3
        have ne : p2 ≠ p3 := fun w => by
          subst w
          rw [b3] at b
          exact dno_lst (Option.some.inj b).symm
        rw [upd_ne ne]
        exact b
  · by_cases qa : i = a
    · by_cases qb : i = b
      · rw [← qa, ← qb]
      · subst qa
        rw [List.getElem?_set_ne qb] at eb
        exact r.inj i b q ds db h eb fa fb
    · by_cases qb : i = b
      · subst qb
        rw [List.getElem?_set_ne qa] at ea
        exact r.inj a i q da ds ea h fa fb
      · rw [List.getElem?_set_ne qa] at ea
        rw [List.getElem?_set_ne qb] at eb
        exact r.inj a b q da db ea eb fa fb
  · exact r.injD a b q da db (set_other ea (by intro z; cases z)).2 (set_other eb (by intro z; cases z)).2 fa fb
/-- an own dict is changed -/
theorem Rp.mutD (r : Rp K S H σ ρ) {i : Nat} {kvs kvs' : List (D × D)} {p : Addr} {ys : List (NestedKey × Addr × Value)} (h : ρ[i]? = some (.dic kvs)) (h1 : σ[i]? = some (some (.ref p))) (h2 : S p = none) (h3 : DcOk K S ys kvs') :
    Rp K S (upd H p (DNO p ys)) σ (ρ.set i (.dic kvs')) := by
  have hi : i < ρ.length := (List.getElem?_eq_some_iff.mp h).1
  refine ⟨by rw [List.length_set]; exact r.len, fun a o e => ?_, fun j s e => ?_, fun a b q da db ea eb fa fb => ?_, fun a b q da db ea eb fa fb => ?_⟩
  · rw [upd_ne (ne_of_none e h2)]
    exact r.sub _ _ e
  · by_cases q : i = j
    · subst q
      rw [List.getElem?_set_self hi] at e
      cases e
      exact ⟨p, ys, h1, upd_same, h2, h3⟩
    · rw [List.getElem?_set_ne q] at e
      have z := r.at_ j s e
      cases s with
      | un => trivial
      | sh d => exact z
      | own dj =>
        obtain ⟨p2, zs, a, b, c, d⟩ := z
        refine ⟨p2, zs, a, ?_, c, d⟩
        obtain ⟨p3, xs3, a3, b3, _, _⟩ := r.dic h
        have e3 : p3 = p := by
          rw [h1] at a3
          cases a3; rfl
        subst e3
        have ne : p2 ≠ p3 := fun w => by
          subst w
          rw [b3] at b
          exact dno_lst (Option.some.inj b)
        rw [upd_ne ne]
        exact b
      | dic dj =>
        obtain ⟨p2, zs, a, b, c, d⟩ := z
        refine ⟨p2, zs, a, ?_, c, d⟩
        have ne : p2 ≠ p := fun w => by
          subst w
          exact q (r.injD i j p2 kvs dj h e h1 a)
        rw [upd_ne ne]
        exact b
  · exact r.inj a b q da db (set_other ea (by intro z; cases z)).2 (set_other eb (by intro z; cases z)).2 fa fb
  · by_cases qa : i = a
    · by_cases qb : i = b
      · rw [← qa, ← qb]
      · subst qa
        rw [List.getElem?_set_ne qb] at eb
        exact r.injD i b q kvs db h eb fa fb
    · by_cases qb : i = b
      · subst qb
        rw [List.getElem?_set_ne qa] at ea
        exact r.injD a i q da kvs ea h fa fb
      · rw [List.getElem?_set_ne qa] at ea
        rw [List.getElem?_set_ne qb] at eb
        exact r.injD a b q da db ea eb fa fb
end
end Rf

/-! Rf: reflection. Part B: the small language, what it is worth, how it is matched with the text. -/
namespace Rf
open PySem L2

inductive Bi where
  | len | list | tuple | int | str | strL | abs | max2 | min2 | max1 | min1 | sum | all | any | maxT2 | maxT1 | sorted
  deriving DecidableEq
inductive Mt where
  | join | split | starts | index
  deriving DecidableEq
inductive Ty where
  | int | bool | str | list | tuple
  deriving DecidableEq
inductive Tg where
  | one (i : Nat) | tup (is : List Nat)
  deriving DecidableEq
inductive E where
  | non | nil
  | cons (e es : E)
  | var (i : Nat)
  | glob (j : Nat)
  | cst (c : Const)
  | bin (op : Operator) (a b : E)
  | cat (a b : E)
  | neg (a : E)
  | not (a : E)
  | cmp (op : CmpOp) (a b : E)
  | chn (o1 o2 : CmpOp) (a b c : E)
  | and (a b : E)
  | or (a b : E)
  | ite (c a b : E)
  | tup (es : E)
  | lst (es : E)
  | idx (a b : E)
  | sl (k : Bool) (a lo hi : E)
  | call (fr : Bool) (j : Nat) (es : E)
  | callB (j : Nat) (es : E)
  | blt (b : Bi) (es : E)
  | isi (t : Ty) (a : E)
  | mth (m : Mt) (a es : E)
  | comp (elt : E) (tg : Tg) (it : E) (own : List Nat)
  | compC (elt : E) (tg : Tg) (it cnd : E) (own : List Nat)
  | iseq (a : E)
  | istr (a : E)
  | irng (es : E)
  | ienum (a : E)
  | izip (a b : E)
  | irev (a : E)
  | din (neg : Bool) (i : Nat) (a : E)
  | dget (i : Nat) (a : E)
  | dgetO (i : Nat) (a b : E)
  | dkeys (i : Nat)
inductive Fr where
  | sh | own | tup (k : Nat)
  deriving DecidableEq
structure Cal where
  name : Str
  n : Nat
  dfl : List D
  fr : Fr
  sem : List D → Res D
structure Ctx where
  cals : List Cal
  globs : List (Str × D)
  bl : List Str
  dig : Bool

/-! ### what is worth what -/
def mulOk (i j : Int) : Bool := decide ((-(2 ^ 64) < i ∧ i < 2 ^ 64) ∨ (-(2 ^ 64) < j ∧ j < 2 ^ 64)) || decide (i.natAbs.log2 + j.natAbs.log2 < 1000000)
def intsOf : List D → Option (List Int)
  | [] => some []
  | .int i :: r => (intsOf r).map (i :: ·)
  | _ :: _ => none
def boolsOf : List D → Option (List Bool)
  | [] => some []
  | .bool i :: r => (boolsOf r).map (i :: ·)
  | _ :: _ => none
def strsOf : List D → Option (List Str)
  | [] => some []
  | .str i :: r => (strsOf r).map (i :: ·)
  | _ :: _ => none
def lim : Nat := 16777216
def guard' {α : Type} (c : Bool) (r : Res α) : Res α := if c = true then r else .bad
def mulD (i j : Int) : Res D := guard' (mulOk i j) (.ok (.int (i * j)))
def fdivD (i j : Int) : Res D := guard' (decide (0 < j ∧ j.natAbs.log2 < 9000)) (.ok (.int (i / j)))
def modD (i j : Int) : Res D := guard' (decide (0 < j)) (.ok (.int (i % j)))
def powD (i j : Int) : Res D := guard' (decide (0 ≤ j ∧ j ≤ 1000000 ∧ i.natAbs < 2 ^ 64) || decide (0 ≤ j ∧ (Builtin.Int.intBits i : Int) * j ≤ 2 ^ 27)) (.ok (.int (i ^ j.toNat)))
def shrD (i j : Int) : Res D := guard' (decide (0 ≤ j)) (.ok (.int (i / 2 ^ j.toNat)))
def binD (op : Operator) (x y : D) : Res D := match x with
  | .int i => (match y with
    | .int j => (match op with
      | .Add => .ok (.int (i + j))
      | .Sub => .ok (.int (i - j))
      | .Mult => mulD i j
      | .FloorDiv => fdivD i j
      | .Mod => modD i j
      | .Pow => powD i j
      | .RShift => shrD i j
      | _ => .bad)
    | _ => .bad)
  | .str a => (match y with
    | .str b => (match op with
      | .Add => guard' (decide (a.length + b.length ≤ lim)) (.ok (.str (a ++ b)))
      | _ => .bad)
    | _ => .bad)
  | .tuple a => (match y with
    | .tuple b => (match op with
      | .Add => guard' (decide (a.length + b.length ≤ lim)) (.ok (.tuple (a ++ b)))
      | _ => .bad)
    | _ => .bad)
  | _ => .bad
def catD (x y : D) : Res D := match x with
  | .list a => (match y with
    | .list b => guard' (decide (a.length + b.length ≤ lim)) (.ok (.list (a ++ b)))
    | _ => .bad)
  | _ => .bad
def negD (x : D) : Res D := match x with
  | .int i => .ok (.int (-i))
  | _ => .bad
def notD (x : D) : Res D := match x with
  | .bool b => .ok (.bool (!b))
  | _ => .bad
/-- as one flat value -/
def flatD : D → Option V
  | .none => some .non
  | .bool b => some (.bl b)
  | .int i => some (.int i)
  | .str x => some (.str x)
  | _ => none
def eqD (x y : D) : Res Bool := match flatD x with
  | some a => (match flatD y with
    | some b => if scal a b = true then .ok (decide (a = b)) else guard' (SeqAt.shaped x && SeqAt.shaped y) (.ok (PyData.eqv x y))
    | none => guard' (SeqAt.shaped x && SeqAt.shaped y) (.ok (PyData.eqv x y)))
  | none => guard' (SeqAt.shaped x && SeqAt.shaped y) (.ok (PyData.eqv x y))
def isNone : D → Bool
  | .none => true
  | _ => false
def flatAll : List D → Option (List V)
  | [] => some []
  | d :: r => match flatD d with
    | some v => (flatAll r).map (v :: ·)
    | none => none
def inD (x y : D) : Res Bool := match y with
  | .list ys => (match flatD x with
    | some a => (match flatAll ys with
      | some vs => .ok (inV a vs)
      | none => .bad)
    | none => .bad)
  | .tuple ys => (match flatD x with
    | some a => (match flatAll ys with
      | some vs => .ok (inV a vs)
      | none => .bad)
    | none => .bad)
  | .str z => (match x with
    | .str s => (match s.cps.toList with
      | [c] => .ok (decide (c ∈ z.cps.toList))
      | _ => .bad)
    | _ => .bad)
  | _ => .bad
/-- two tuples that can be compared -/
def ordOk (x y : D) : Bool := PySem.W.alike x y && decide (x.depth ≤ 8) && decide (y.depth ≤ 8) && PySem.W.alike x x && PySem.W.alike y y
def ltD (x y : D) : Res Bool := match x with
  | .tuple a => (match y with
    | .tuple b => guard' (ordOk (.tuple a) (.tuple b)) (.ok (PySem.W.dataLt (.tuple a) (.tuple b)))
    | _ => .bad)
  | .int i => (match y with
    | .int j => .ok (decide (i < j))
    | _ => .bad)
  | .str i => (match y with
    | .str j => .ok (decide (i.cps.toList < j.cps.toList))
    | _ => .bad)
  | _ => .bad
def leD (x y : D) : Res Bool := match x with
  | .tuple a => (match y with
    | .tuple b => guard' (ordOk (.tuple a) (.tuple b)) (.ok (!PySem.W.dataLt (.tuple b) (.tuple a)))
    | _ => .bad)
  | .int i => (match y with
    | .int j => .ok (decide (i ≤ j))
    | _ => .bad)
  | .str i => (match y with
    | .str j => .ok (!decide (j.cps.toList < i.cps.toList))
    | _ => .bad)
  | _ => .bad
def cmpB (op : CmpOp) (x y : D) : Res Bool := match op with
  | .Eq => eqD x y
  | .NotEq => do
    let b ← eqD x y
    .ok (!b)
  | .Lt => ltD x y
  | .LtE => leD x y
  | .Gt => ltD y x
  | .GtE => leD y x
  | .Is => guard' (isNone y) (.ok (isNone x))
  | .IsNot => guard' (isNone y) (.ok (!isNone x))
  | .In => inD x y
  | .NotIn => do
    let b ← inD x y
    .ok (!b)
def cmpD (op : CmpOp) (x y : D) : Res D := do
  let b ← cmpB op x y
  .ok (.bool b)
def idxD (x y : D) : Res D := match y with
  | .int i => (match x with
    | .list xs => (match atI xs i with
      | some d => .ok d
      | none => .bad)
    | .tuple xs => (match atI xs i with
      | some d => .ok d
      | none => .bad)
    | .str z => guard' (decide (z.length ≤ lim)) (match atI z.cps.toList i with
      | some c => .ok (.str ⟨#[c]⟩)
      | none => .bad)
    | _ => .bad)
  | _ => .bad
def cutD (xs : List D) (lo hi : Option Int) : List D := (xs.drop (HT.sIx xs.length 0 lo)).take (HT.sIx xs.length xs.length hi - HT.sIx xs.length 0 lo)
def slD (k : Bool) (x : D) (lo hi : Option Int) : Res D := match x with
  | .list xs => guard' k (.ok (.list (cutD xs lo hi)))
  | .tuple xs => guard' (!k) (.ok (.tuple (cutD xs lo hi)))
  | .str z => guard' (!k && decide (z.length ≤ lim)) (.ok (.str (cutS z lo hi)))
  | _ => .bad
def maxOf : List Int → Int
  | [] => 0
  | [a] => a
  | a :: r => max a (maxOf r)
def minOf : List Int → Int
  | [] => 0
  | [a] => a
  | a :: r => min a (minOf r)
def seqOf : D → Option (List D)
  | .list xs => some xs
  | .tuple xs => some xs
  | _ => none
def listOf' : D → Option (List D)
  | .list xs => some xs
  | _ => none
def lenD (x : D) : Res D := match x with
  | .list xs => .ok (.int xs.length)
  | .tuple xs => .ok (.int xs.length)
  | .str z => guard' (decide (z.length ≤ lim)) (.ok (.int z.length))
  | _ => .bad
def intD (x : D) : Res D := match x with
  | .int i => .ok (.int i)
  | .bool b => .ok (.int (if b then 1 else 0))
  | .str z => guard' (decide (z.length ≤ 640)) (match PySem.intText? z with
    | some n => .ok (.int n)
    | none => .bad)
  | _ => .bad
def strD (x : D) : Res D := match x with
  | .int i => guard' (decide (i.natAbs.log2 < 1920)) (.ok (.str (toString i)))
  | _ => .bad
/-- as strD, where no limit of digits is set -/
def strLD (x : D) : Res D := match x with
  | .int i => guard' (decide (i.natAbs < 10 ^ 1000)) (.ok (.str (toString i)))
  | _ => .bad
def listD (x : D) : Res D := match seqOf x with
  | some xs => .ok (.list xs)
  | none => .bad
def tupleD (x : D) : Res D := match seqOf x with
  | some xs => .ok (.tuple xs)
  | none => .bad
def absD (x : D) : Res D := match x with
  | .int i => .ok (.int (if i < 0 then -i else i))
  | _ => .bad
def overInts (x : D) (k : List Int → Res D) : Res D := match x with
  | .list xs => (match intsOf xs with
    | some ns => k ns
    | none => .bad)
  | _ => .bad
def sumD (x : D) : Res D := match x with
  | .list xs => overInts (.list xs) fun ns => .ok (.int ns.sum)
  | .tuple xs => overInts (.list xs) fun ns => .ok (.int ns.sum)
  | _ => .bad
def overBools (x : D) (k : List Bool → Res D) : Res D := match x with
  | .list xs => (match boolsOf xs with
    | some ns => k ns
    | none => .bad)
  | _ => .bad
def isTupN : D → Bool
  | .tuple (_ :: _) => true
  | _ => false
/-- tuples that can be compared, each with an item at least -/
def allOrd (xs : List D) : Bool := xs.all fun a => isTupN a && decide (a.depth ≤ 8) && xs.all fun b => PySem.W.alike a b
def maxTD (x : D) : Res D := match x with
  | .list xs => (match xs with
    | [] => .bad
    | a :: r => guard' (allOrd (a :: r)) (.ok (PySem.W.maxD a r)))
  | _ => .bad
def sortD (x : D) : Res D := match x with
  | .list xs => guard' (allOrd xs && decide (xs.length ≤ lim)) (.ok (.list (xs.mergeSort (PySem.W.dataLe false id))))
  | _ => .bad
def blt1 (b : Bi) (x : D) : Res D := match b with
  | .maxT1 => maxTD x
  | .sorted => sortD x
  | .len => lenD x
  | .list => listD x
  | .tuple => tupleD x
  | .int => intD x
  | .str => strD x
  | .strL => strLD x
  | .abs => absD x
  | .max1 => overInts x fun ns => guard' (!ns.isEmpty) (.ok (.int (maxOf ns)))
  | .min1 => overInts x fun ns => guard' (!ns.isEmpty) (.ok (.int (minOf ns)))
  | .sum => sumD x
  | .all => overBools x fun bs => .ok (.bool (bs.all id))
  | .any => overBools x fun bs => .ok (.bool (bs.any id))
  | _ => .bad
def blt2 (b : Bi) (x y : D) : Res D := match x with
  | .tuple i => (match y with
    | .tuple j => (match b with
      | .maxT2 => guard' (ordOk (.tuple i) (.tuple j)) (.ok (if PySem.W.dataLt (.tuple i) (.tuple j) = true then .tuple j else .tuple i))
      | _ => .bad)
    | _ => .bad)
  | .int i => (match y with
    | .int j => (match b with
      | .max2 => .ok (.int (if j > i then j else i))
      | .min2 => .ok (.int (if j < i then j else i))
      | _ => .bad)
    | _ => .bad)
  | _ => .bad
def bltD (b : Bi) (xs : List D) : Res D := match xs with
  | [x] => blt1 b x
  | [x, y] => blt2 b x y
  | _ => .bad
def isiD (t : Ty) (x : D) : Res D := match x with
  | .none => .ok (.bool false)
  | .bool _ => .ok (.bool (match t with
    | .int => true
    | .bool => true
    | _ => false))
  | .int _ => .ok (.bool (match t with
    | .int => true
    | _ => false))
  | .str _ => .ok (.bool (match t with
    | .str => true
    | _ => false))
  | .list _ => .ok (.bool (match t with
    | .list => true
    | _ => false))
  | .tuple _ => .ok (.bool (match t with
    | .tuple => true
    | _ => false))
  | .dict _ => .bad
def joinD (a : Str) (x : D) : Res D := match seqOf x with
  | some xs => (match strsOf xs with
    | some ys => guard' (decide ((ys.map (·.length)).sum + ys.length * a.length ≤ lim)) (.ok (.str (Txt.join a ys)))
    | none => .bad)
  | none => .bad
/-- the first place of a flat thing -/
def findV (x : V) : List V → Nat → Option Nat
  | [], _ => none
  | y :: r, n => if eqV y x = true then some n else findV x r (n + 1)
def indexD (x y : D) : Res D := match x with
  | .list ys => (match flatD y with
    | some a => (match flatAll ys with
      | some vs => (match findV a vs 0 with
        | some n => .ok (.int (n : Nat))
        | none => .bad)
      | none => .bad)
    | none => .bad)
  | _ => .bad
def mthD (m : Mt) (x y : D) : Res D := match m with
  | .index => indexD x y
  | .join => (match x with
    | .str a => joinD a y
    | _ => .bad)
  | .split => (match x with
    | .str a => (match y with
      | .str b => guard' (!(b.length == 0) && decide (a.length + 2 ≤ lim)) (.ok (.list ((Txt.split a b).map PyData.str)))
      | _ => .bad)
    | _ => .bad)
  | .starts => (match x with
    | .str a => (match y with
      | .str b => .ok (.bool (Txt.startswith a b))
      | _ => .bad)
    | _ => .bad)
/-- whether a thing has the method -/
def rcv (m : Mt) (x : D) : Bool := match x with
  | .str _ => (match m with
    | .index => false
    | _ => true)
  | .list _ => (match m with
    | .index => true
    | _ => false)
  | _ => false
def rngL (lo hi : Int) : List D := (List.range (hi - lo).toNat).map fun i => .int (lo + (i : Nat))
def sm62 (i : Int) : Bool := decide (-(2 ^ 62) ≤ i ∧ i < 2 ^ 62)
def rngD (xs : List D) : Res D := match xs with
  | [.int n] => guard' (sm62 n) (.ok (.list (rngL 0 n)))
  | [.int a, .int b] => guard' (sm62 a && sm62 b) (.ok (.list (rngL a b)))
  | [.int a, .int b, .int c] => guard' (decide (c ≠ 0 ∧ c.natAbs < 1073741824 ∧ 0 ≤ Builtin.Range.rangeSize a b c) && Builtin.Range.small a b c)
      (.ok (.list ((List.range (Builtin.Range.rangeSize a b c).toNat).map fun i => .int (a + (i : Nat) * c))))
  | _ => .bad
def enumFrom : Nat → List D → List D
  | _, [] => []
  | n, d :: r => .tuple [.int n, d] :: enumFrom (n + 1) r
def zipD : List D → List D → List D
  | a :: r, b :: s => .tuple [a, b] :: zipD r s
  | _, _ => []
def itStr (x : D) : Option (List D) := match x with
  | .str z => some (z.cps.toList.map fun c => .str ⟨#[c]⟩)
  | _ => none
def itEnum (x : D) : Option (List D) := match x with
  | .list xs => some (enumFrom 0 xs)
  | .tuple xs => some (enumFrom 0 xs)
  | _ => none
def itZip (x y : D) : Option (List D) := match x with
  | .list xs => (match y with
    | .list ys => some (zipD xs ys)
    | _ => none)
  | .tuple xs => (match y with
    | .tuple ys => some (zipD xs ys)
    | _ => none)
  | _ => none
def itRev (x : D) : Option (List D) := match x with
  | .list xs => some xs.reverse
  | _ => none
def optL (o : Option (List D)) : Res D := match o with
  | some ds => .ok (.list ds)
  | none => .bad
/-- a target takes a thing -/
def setAll : List Nat → List D → Sl → Option Sl
  | [], [], ρ => some ρ
  | i :: is, d :: ds, ρ => setAll is ds (ρ.set i (.sh d))
  | _, _, _ => none
def setTg (t : Tg) (d : D) (ρ : Sl) : Option Sl := match t with
  | .one i => some (ρ.set i (.sh d))
  | .tup is => (match d with
    | .tuple ds => setAll is ds ρ
    | _ => none)
def compL (f : D → Res (Option D)) : List D → Res (List D)
  | [] => .ok []
  | x :: r => (match f x with
    | .ok o => (match compL f r with
      | .ok ys => (match o with
        | some y => .ok (y :: ys)
        | none => .ok ys)
      | _ => .bad)
    | _ => .bad)
def wipeR (ρ : Sl) : List Nat → Sl
  | [] => ρ
  | v :: vs => (wipeR ρ vs).set v .un
def tupOf (r : Res D) (k : List D → Res D) : Res D := match r with
  | .ok d => (match d with
    | .tuple ds => k ds
    | _ => .bad)
  | .exc e => .exc e
  | .bad => .bad
def boolOf (r : Res D) (k : Bool → Res D) : Res D := match r with
  | .ok d => (match d with
    | .bool b => k b
    | _ => .bad)
  | .exc e => .exc e
  | .bad => .bad
def atom : D → Bool
  | .none => true
  | .bool _ => true
  | .int _ => true
  | .str _ => true
  | _ => false
def callD (Γ : Ctx) (j : Nat) (ds : List D) : Res D := match Γ.cals[j]? with
  | some c => c.sem (ds ++ c.dfl)
  | none => .bad
def slot (m : Bool) (ρ : Sl) (i : Nat) : Res D := match ρ[i]? with
  | some s => (match s with
    | .sh d => .ok d
    | .own ds => guard' m (.ok (.list ds))
    | .dic _ => .bad
    | .un => .bad)
  | none => .bad
def slotOwn (ρ : Sl) (i : Nat) : Res D := match ρ[i]? with
  | some s => (match s with
    | .own ds => .ok (.list ds)
    | _ => .bad)
  | none => .bad
/-- a list that is the def's own, or new -/
def lsOf (e : E) (r : Res D) (ρ : Sl) : Res D := match e with
  | .var i => slotOwn ρ i
  | _ => r
def intR (x : D) (k : Int → Res D) : Res D := match x with
  | .int i => k i
  | _ => .bad
def optE (e : E) (r : Res D) (k : Option Int → Res D) : Res D := match e with
  | .non => k none
  | _ => r >>= fun d => intR d fun i => k (some i)
def compD (f : D → Res (Option D)) (x : D) : Res D := match x with
  | .list xs => guard' (decide (xs.length ≤ lim)) (match compL f xs with
    | .ok ys => .ok (.list ys)
    | _ => .bad)
  | _ => .bad
def turn1 (tg : Tg) (ρ : Sl) (d : D) (k : Sl → Res (Option D)) : Res (Option D) := match setTg tg d ρ with
  | some ρ' => k ρ'
  | none => .bad
def turn2 (x : D) (k : Res (Option D)) : Res (Option D) := match x with
  | .bool b => if b = true then k else .ok none
  | _ => .bad
/-- dicts of the def's own -/
def keyOk (k : D) : Bool := match k with
  | .tuple _ => (match nkD k with
    | some n => decide (n.depth ≤ 8)
    | none => false)
  | _ => false
def sameK (k : D) (kv : D × D) : Bool := decide (nkD kv.1 = nkD k)
def dcGet (kvs : List (D × D)) (k : D) : Option D := (kvs.find? (sameK k)).map (·.2)
def dcPut (kvs : List (D × D)) (k v : D) : List (D × D) := if (dcGet kvs k).isSome = true then kvs.map (fun kv => if sameK k kv = true then (kv.1, v) else kv) else kvs ++ [(k, v)]
def slotD {α : Type} (ρ : Sl) (i : Nat) (f : List (D × D) → Res α) : Res α := match ρ[i]? with
  | some s => (match s with
    | .dic kvs => f kvs
    | _ => .bad)
  | none => .bad
def dgetR (o : Option D) : Res D := match o with
  | some d => .ok d
  | none => .bad
/-- what an expression is worth; m: only looked at -/
def ev (Γ : Ctx) : E → Bool → Sl → Res D
  | .non, _, _ => .ok .none
  | .nil, _, _ => .ok (.tuple [])
  | .cons e es, m, ρ => do
    let d ← ev Γ e m ρ
    tupOf (ev Γ es m ρ) fun ds => .ok (.tuple (d :: ds))
  | .var i, m, ρ => slot m ρ i
  | .glob j, _, _ => (match Γ.globs[j]? with
    | some p => .ok p.2
    | none => .bad)
  | .cst c, _, _ => (match c with
    | .none => .ok .none
    | .bool b => .ok (.bool b)
    | .int i => .ok (.int i)
    | .str s => .ok (.str s)
    | _ => .bad)
  | .bin op a b, _, ρ => do
    let x ← ev Γ a true ρ
    let y ← ev Γ b true ρ
    binD op x y
  | .cat a b, _, ρ => do
    let x ← lsOf a (ev Γ a true ρ) ρ
    let y ← lsOf b (ev Γ b true ρ) ρ
    catD x y
  | .neg a, _, ρ => do
    let x ← ev Γ a true ρ
    negD x
  | .not a, _, ρ => do
    let x ← ev Γ a true ρ
    notD x
  | .cmp op a b, _, ρ => do
    let x ← ev Γ a true ρ
    let y ← ev Γ b true ρ
    cmpD op x y
  | .chn o1 o2 a b c, _, ρ => do
    let x ← ev Γ a true ρ
    let y ← ev Γ b true ρ
    let k ← cmpB o1 x y
    if k = true then do
      let z ← ev Γ c true ρ
      cmpD o2 y z
    else .ok (.bool false)
  | .and a b, _, ρ => boolOf (ev Γ a true ρ) fun k => if k = true then boolOf (ev Γ b true ρ) fun k => .ok (.bool k) else .ok (.bool false)
  | .or a b, _, ρ => boolOf (ev Γ a true ρ) fun k => if k = true then .ok (.bool true) else boolOf (ev Γ b true ρ) fun k => .ok (.bool k)
  | .ite c a b, _, ρ => boolOf (ev Γ c true ρ) fun k => if k = true then ev Γ a false ρ else ev Γ b false ρ
  | .tup es, _, ρ => tupOf (ev Γ es false ρ) fun ds => .ok (.tuple ds)
  | .lst es, _, ρ => tupOf (ev Γ es false ρ) fun ds => .ok (.list ds)
  | .idx a b, _, ρ => do
    let x ← ev Γ a true ρ
    let y ← ev Γ b true ρ
    idxD x y
  | .sl k a lo hi, _, ρ => do
    let x ← ev Γ a true ρ
    optE lo (ev Γ lo true ρ) fun l => optE hi (ev Γ hi true ρ) fun h => slD k x l h
  | .call _ j es, _, ρ => tupOf (ev Γ es false ρ) fun ds => callD Γ j ds
  | .callB j es, _, ρ => tupOf (ev Γ es true ρ) fun ds => do
    let d ← callD Γ j ds
    guard' (atom d) (.ok d)
  | .blt b es, _, ρ => tupOf (ev Γ es true ρ) fun ds => bltD b ds
  | .isi t a, _, ρ => do
    let x ← ev Γ a true ρ
    isiD t x
  | .mth m a e, _, ρ => do
    let x ← ev Γ a true ρ
    guard' (rcv m x) (ev Γ e true ρ >>= fun y => mthD m x y)
  | .comp elt tg it own, _, ρ => do
    let xs ← ev Γ it true ρ
    compD (fun d => turn1 tg (wipeR ρ own) d fun ρ' => do
      let y ← ev Γ elt false ρ'
      .ok (some y)) xs
  | .compC elt tg it cnd own, _, ρ => do
    let xs ← ev Γ it true ρ
    compD (fun d => turn1 tg (wipeR ρ own) d fun ρ' => do
      let k ← ev Γ cnd true ρ'
      turn2 k do
        let y ← ev Γ elt false ρ'
        .ok (some y)) xs
  | .iseq a, m, ρ => do
    let x ← ev Γ a m ρ
    optL (seqOf x)
  | .istr a, m, ρ => do
    let x ← ev Γ a m ρ
    optL (itStr x)
  | .irng es, _, ρ => tupOf (ev Γ es true ρ) rngD
  | .ienum a, m, ρ => do
    let x ← ev Γ a m ρ
    optL (itEnum x)
  | .izip a b, m, ρ => do
    let x ← ev Γ a m ρ
    let y ← ev Γ b m ρ
    optL (itZip x y)
  | .irev a, m, ρ => do
    let x ← ev Γ a m ρ
    optL (itRev x)
  | .din ng i a, _, ρ => slotD ρ i fun kvs => do
    let k ← ev Γ a false ρ
    guard' (keyOk k) (.ok (.bool (xor ng (dcGet kvs k).isSome)))
  | .dget i a, _, ρ => slotD ρ i fun kvs => do
    let k ← ev Γ a false ρ
    guard' (keyOk k) (dgetR (dcGet kvs k))
  | .dgetO i a b, _, ρ => slotD ρ i fun kvs => do
    let k ← ev Γ a false ρ
    let x ← ev Γ b false ρ
    guard' (keyOk k) (.ok ((dcGet kvs k).getD x))
  | .dkeys i, _, ρ => slotD ρ i fun kvs => guard' (decide (kvs.length ≤ lim)) (.ok (.list (kvs.map (·.1))))
end Rf

/-! Rf: reflection. Part C: statements; how both are matched with the text. -/
namespace Rf
open PySem L2

inductive S where
  | nil
  | seq (s r : S)
  | asg (i : Nat) (e : E)
  | unp (is : List Nat) (e : E)
  | unpC (is : List Nat) (j : Nat) (es : E)
  | par (i j : Nat) (a b : E)
  | setIx (i : Nat) (ix e : E)
  | app (i : Nat) (e : E)
  | ext (i : Nat) (e : E)
  | dnew (i : Nat)
  | dput (i : Nat) (ix e : E)
  | clr (i : Nat)
  | ifs (c : E) (a b : S)
  | whl (c : E) (b : S)
  | fr (tg : Tg) (it : E) (b : S)
  | ret (e : E)
  | retN
  | frz (i : Nat)
  | brk
  | cont
inductive Fl where
  | nx (ρ : Sl) | ret (d : D) | brk (ρ : Sl) | ct (ρ : Sl) | exc (e : Exc) (ρ : Sl) | bad
def isFresh : E → Bool
  | .lst _ => true
  | .cat _ _ => true
  | .sl k _ _ _ => k
  | .call k _ _ => k
  | .blt b _ => (match b with
    | .list => true
    | .sorted => true
    | _ => false)
  | .mth m _ _ => (match m with
    | .split => true
    | _ => false)
  | .comp _ _ _ _ => true
  | .compC _ _ _ _ _ => true
  | .dkeys _ => true
  | _ => false
def toFl {α : Type} (r : Res α) (ρ : Sl) (k : α → Fl) : Fl := match r with
  | .ok d => k d
  | .exc e => .exc e ρ
  | .bad => .bad
def newSlot (fr : Bool) (d : D) : Slot := match fr with
  | true => (match d with
    | .list ds => .own ds
    | d => .sh d)
  | false => .sh d
def testF (r : Res D) (ρ : Sl) (a b : Fl) : Fl := match r with
  | .ok d => (match d with
    | .bool k => if k = true then a else b
    | _ => .bad)
  | .exc e => .exc e ρ
  | .bad => .bad
def loopW (c : Sl → Res D) (b : Sl → Fl) : Nat → Sl → Fl
  | 0, _ => .bad
  | n + 1, ρ => testF (c ρ) ρ (match b ρ with
    | .nx ρ' => loopW c b n ρ'
    | .ct ρ' => loopW c b n ρ'
    | .brk ρ' => .nx ρ'
    | .ret d => .ret d
    | .exc e ρ' => .exc e ρ'
    | .bad => .bad) (.nx ρ)
def forL (tg : Tg) (b : Sl → Fl) : List D → Sl → Fl
  | [], ρ => .nx ρ
  | d :: r, ρ => (match setTg tg d ρ with
    | some ρ1 => (match b ρ1 with
      | .nx ρ' => forL tg b r ρ'
      | .ct ρ' => forL tg b r ρ'
      | .brk ρ' => .nx ρ'
      | .ret d => .ret d
      | .exc e ρ' => .exc e ρ'
      | .bad => .bad)
    | none => .bad)
def overOwn (ρ : Sl) (i : Nat) (k : List D → Fl) : Fl := match ρ[i]? with
  | some s => (match s with
    | .own ds => k ds
    | _ => .bad)
  | none => .bad
def overDic (ρ : Sl) (i : Nat) (k : List (D × D) → Fl) : Fl := match ρ[i]? with
  | some s => (match s with
    | .dic ds => k ds
    | _ => .bad)
  | none => .bad
def evO (Γ : Ctx) (e : E) (ρ : Sl) : Res D := match e with
  | .var i => slotOwn ρ i
  | e => guard' (isFresh e) (ev Γ e false ρ)
def evK (Γ : Ctx) : Nat → E → Sl → Res D
  | 0, .cons e es, ρ => do
    let d ← evO Γ e ρ
    tupOf (ev Γ es false ρ) fun ds => .ok (.tuple (d :: ds))
  | k + 1, .cons e es, ρ => do
    let d ← ev Γ e false ρ
    tupOf (evK Γ k es ρ) fun ds => .ok (.tuple (d :: ds))
  | _, _, _ => .bad
def retD (Γ : Ctx) (fr : Fr) (e : E) (ρ : Sl) : Res D := match fr with
  | .sh => ev Γ e false ρ
  | .own => evO Γ e ρ
  | .tup k => (match e with
    | .tup es => evK Γ k es ρ
    | _ => .bad)
def frzS (i : Nat) (ρ : Sl) : Sl := match ρ[i]? with
  | some s => (match s with
    | .own ds => ρ.set i (.sh (.list ds))
    | _ => ρ)
  | none => ρ
/-- a tuple whose k-th part is a list of the taker's own -/
def setAllK : Nat → List Nat → List D → Sl → Option Sl
  | 0, i :: is, d :: ds, ρ => setAll is ds (ρ.set i (newSlot true d))
  | k + 1, i :: is, d :: ds, ρ => setAllK k is ds (ρ.set i (.sh d))
  | _, _, _, _ => none
def frK (Γ : Ctx) (j : Nat) : Option Nat := match Γ.cals[j]? with
  | some c => (match c.fr with
    | .tup k => some k
    | _ => none)
  | none => none
def optF (o : Option Sl) : Fl := match o with
  | some ρ => .nx ρ
  | none => .bad
def guardF (c : Bool) (r : Fl) : Fl := if c = true then r else .bad
def unpD (is : List Nat) (x : D) (ρ : Sl) : Fl := match x with
  | .tuple ds => optF (setAll is ds ρ)
  | .list ds => optF (setAll is ds ρ)
  | _ => .bad
def unpKD (k : Option Nat) (is : List Nat) (x : D) (ρ : Sl) : Fl := match k with
  | some k => (match x with
    | .tuple ds => optF (setAllK k is ds ρ)
    | _ => .bad)
  | none => .bad
def listF (x : D) (k : List D → Fl) : Fl := match x with
  | .list ds => k ds
  | _ => .bad
def intF (x : D) (k : Int → Fl) : Fl := match x with
  | .int i => k i
  | _ => .bad
def fuel : Nat := 2 ^ 62
def exec (Γ : Ctx) (fr : Fr) : S → Sl → Fl
  | .nil, ρ => .nx ρ
  | .seq s r, ρ => (match exec Γ fr s ρ with
    | .nx ρ' => exec Γ fr r ρ'
    | .ret d => .ret d
    | .brk ρ' => .brk ρ'
    | .ct ρ' => .ct ρ'
    | .exc e ρ' => .exc e ρ'
    | .bad => .bad)
  | .asg i e, ρ => toFl (ev Γ e false ρ) ρ fun d => .nx (ρ.set i (newSlot (isFresh e) d))
  | .unp is e, ρ => toFl (ev Γ e true ρ) ρ fun d => unpD is d ρ
  | .unpC is j es, ρ => toFl (ev Γ (.call false j es) false ρ) ρ fun d => unpKD (frK Γ j) is d ρ
  | .par i j a b, ρ => toFl (ev Γ a false ρ) ρ fun x => toFl (ev Γ b false ρ) ρ fun y => .nx ((ρ.set i (.sh x)).set j (.sh y))
  | .setIx i ix e, ρ => toFl (ev Γ e false ρ) ρ fun x => overOwn ρ i fun ds => toFl (ev Γ ix true ρ) ρ fun y => intF y fun k =>
      (match ixN ds.length k with
      | some j => .nx (ρ.set i (.own (ds.set j x)))
      | none => .bad)
  | .app i e, ρ => overOwn ρ i fun ds => toFl (ev Γ e false ρ) ρ fun x => guardF (decide (ds.length < lim)) (.nx (ρ.set i (.own (ds ++ [x]))))
  | .ext i e, ρ => overOwn ρ i fun ds => toFl (ev Γ e false ρ) ρ fun x => listF x fun es => guardF (decide (ds.length + es.length ≤ lim)) (.nx (ρ.set i (.own (ds ++ es))))
  | .dnew i, ρ => .nx (ρ.set i (.dic []))
  | .dput i ix e, ρ => overDic ρ i fun kvs => toFl (ev Γ e false ρ) ρ fun x => toFl (ev Γ ix false ρ) ρ fun k => guardF (keyOk k && decide (kvs.length < lim)) (.nx (ρ.set i (.dic (dcPut kvs k x))))
  | .clr i, ρ => overOwn ρ i fun _ => .nx (ρ.set i (.own []))
  | .ifs c a b, ρ => testF (ev Γ c true ρ) ρ (exec Γ fr a ρ) (exec Γ fr b ρ)
  | .whl c b, ρ => loopW (ev Γ c true) (exec Γ fr b) fuel ρ
  | .fr tg it b, ρ => toFl (ev Γ it false ρ) ρ fun x => listF x fun ds => forL tg (exec Γ fr b) ds ρ
  | .ret e, ρ => toFl (retD Γ fr e ρ) ρ .ret
  | .retN, _ => (match fr with
    | .sh => .ret .none
    | _ => .bad)
  | .frz i, ρ => .nx (frzS i ρ)
  | .brk, ρ => .brk ρ
  | .cont, ρ => .ct ρ
def endD (fr : Fr) (f : Fl) : Res D := match f with
  | .nx _ => (match fr with
    | .sh => .ok .none
    | _ => .bad)
  | .ret d => .ok d
  | .exc e _ => .exc e
  | _ => .bad
/-- what a def is worth: k names in all -/
def run (Γ : Ctx) (fr : Fr) (k : Nat) (b : S) (ds : List D) : Res D :=
  endD fr (exec Γ fr b (ds.map Slot.sh ++ List.replicate (k - ds.length) .un))

/-! ### the text taken apart -/
def asName : Expr → Option Str
  | .Name x _ => some x
  | _ => none
def asConst : Expr → Option Const
  | .Constant c _ _ => some c
  | _ => none
def asBin : Expr → Option (Expr × Operator × Expr)
  | .BinOp a o b _ => some (a, o, b)
  | _ => none
def asUn : Expr → Option (UnaryOp × Expr)
  | .UnaryOp o a _ => some (o, a)
  | _ => none
def asCmp1 : Expr → Option (Expr × CmpOp × Expr)
  | .Compare a [o] [b] _ => some (a, o, b)
  | _ => none
def asCmp2 : Expr → Option (Expr × CmpOp × CmpOp × Expr × Expr)
  | .Compare a [o, o2] [b, c] _ => some (a, o, o2, b, c)
  | _ => none
def asBool : Expr → Option (BoolOp × List Expr × Pos)
  | .BoolOp o es p => some (o, es, p)
  | _ => none
def asIf : Expr → Option (Expr × Expr × Expr)
  | .IfExp c a b _ => some (c, a, b)
  | _ => none
def asTup : Expr → Option (List Expr)
  | .Tuple es _ _ => some es
  | _ => none
def asLst : Expr → Option (List Expr)
  | .List es _ => some es
  | _ => none
def asSub : Expr → Option (Expr × Expr)
  | .Subscript a b _ => some (a, b)
  | _ => none
def asSlice : Expr → Option (Option Expr × Option Expr)
  | .Slice a b none _ => some (a, b)
  | _ => none
def asCall : Expr → Option (Str × List Expr)
  | .Call (.Name x _) es [] _ => some (x, es)
  | _ => none
def asMeth : Expr → Option (Expr × Str × List Expr × Pos × Pos)
  | .Call (.Attribute o m p) es [] q => some (o, m, es, p, q)
  | _ => none
def asComp : Expr → Option (Expr × Expr × Expr × List Expr × Scope × Pos)
  | .ListComp e [⟨tg, it, ifs, 0⟩] sc p => some (e, tg, it, ifs, sc, p)
  | _ => none
section
variable {t : Expr}
theorem asName_eq {x : Str} (h : asName t = some x) : ∃ p, t = .Name x p := by
  cases t <;> simp only [asName, Option.some.injEq, reduceCtorEq] at h
  subst h; exact ⟨_, rfl⟩
theorem asConst_eq {x : Const} (h : asConst t = some x) : ∃ k p, t = .Constant x k p := by
  cases t <;> simp only [asConst, Option.some.injEq, reduceCtorEq] at h
  subst h; exact ⟨_, _, rfl⟩
theorem asBin_eq {x} (h : asBin t = some x) : ∃ p, t = .BinOp x.1 x.2.1 x.2.2 p := by
  cases t <;> simp only [asBin, Option.some.injEq, reduceCtorEq] at h
  subst h; exact ⟨_, rfl⟩
theorem asUn_eq {x} (h : asUn t = some x) : ∃ p, t = .UnaryOp x.1 x.2 p := by
  cases t <;> simp only [asUn, Option.some.injEq, reduceCtorEq] at h
  subst h; exact ⟨_, rfl⟩
theorem asCmp1_eq {x} (h : asCmp1 t = some x) : ∃ p, t = .Compare x.1 [x.2.1] [x.2.2] p := by
  unfold asCmp1 at h
  split at h
  · simp only [Option.some.injEq] at h
    subst h; exact ⟨_, rfl⟩
  · cases h
theorem asCmp2_eq {x} (h : asCmp2 t = some x) : ∃ p, t = .Compare x.1 [x.2.1, x.2.2.1] [x.2.2.2.1, x.2.2.2.2] p := by
  unfold asCmp2 at h
  split at h
  · simp only [Option.some.injEq] at h
    subst h; exact ⟨_, rfl⟩
  · cases h
theorem asBool_eq {x} (h : asBool t = some x) : t = .BoolOp x.1 x.2.1 x.2.2 := by
  cases t <;> simp only [asBool, Option.some.injEq, reduceCtorEq] at h
  subst h; rfl
theorem asIf_eq {x} (h : asIf t = some x) : ∃ p, t = .IfExp x.1 x.2.1 x.2.2 p := by
  cases t <;> simp only [asIf, Option.some.injEq, reduceCtorEq] at h
  subst h; exact ⟨_, rfl⟩
theorem asTup_eq {x} (h : asTup t = some x) : ∃ k p, t = .Tuple x k p := by
  cases t <;> simp only [asTup, Option.some.injEq, reduceCtorEq] at h
  subst h; exact ⟨_, _, rfl⟩
theorem asLst_eq {x} (h : asLst t = some x) : ∃ p, t = .List x p := by
  cases t <;> simp only [asLst, Option.some.injEq, reduceCtorEq] at h
  subst h; exact ⟨_, rfl⟩
theorem asSub_eq {x} (h : asSub t = some x) : ∃ p, t = .Subscript x.1 x.2 p := by
  cases t <;> simp only [asSub, Option.some.injEq, reduceCtorEq] at h
  subst h; exact ⟨_, rfl⟩
theorem asSlice_eq {x} (h : asSlice t = some x) : ∃ p, t = .Slice x.1 x.2 none p := by
  unfold asSlice at h
  split at h
  · simp only [Option.some.injEq] at h
    subst h; exact ⟨_, rfl⟩
  · cases h
theorem asCall_eq {x} (h : asCall t = some x) : ∃ p q, t = .Call (.Name x.1 p) x.2 [] q := by
  unfold asCall at h
  split at h
  · simp only [Option.some.injEq] at h
    subst h; exact ⟨_, _, rfl⟩
  · cases h
theorem asMeth_eq {x} (h : asMeth t = some x) : t = .Call (.Attribute x.1 x.2.1 x.2.2.2.1) x.2.2.1 [] x.2.2.2.2 := by
  unfold asMeth at h
  split at h
  · simp only [Option.some.injEq] at h
    subst h; rfl
  · cases h
theorem asComp_eq {x} (h : asComp t = some x) : t = .ListComp x.1 [⟨x.2.1, x.2.2.1, x.2.2.2.1, 0⟩] x.2.2.2.2.1 x.2.2.2.2.2 := by
  unfold asComp at h
  split at h
  · simp only [Option.some.injEq] at h
    subst h; rfl
  · cases h
end

/-! ### matching -/
def visB (sc : Scope) (x : Str) : Bool := match sc.names.lookup x with
  | some .local => true
  | some .cell => true
  | some .free => true
  | _ => false
def locB (sc : Scope) (x : Str) : Bool := match sc.names.lookup x with
  | some .local => true
  | some .cell => true
  | _ => false
def glB (sc : Scope) (x : Str) : Bool := match sc.names.lookup x with
  | some .globalImplicit => true
  | _ => false
def nmOk (x : Str) : Bool := !(x == ("__debug__" : Str)) && !(x == ("__classdict__" : Str)) && !(x == ("__name__" : Str))
def Bi.name : Bi → Str
  | .len => "len" | .list => "list" | .tuple => "tuple" | .int => "int" | .str => "str" | .strL => "str" | .abs => "abs"
  | .max2 => "max" | .min2 => "min" | .max1 => "max" | .min1 => "min" | .sum => "sum" | .all => "all" | .any => "any" | .maxT2 => "max" | .maxT1 => "max" | .sorted => "sorted"
def Mt.name : Mt → Str
  | .join => "join" | .split => "split" | .starts => "startswith" | .index => "index"
def Ty.name : Ty → Str
  | .int => "int" | .bool => "bool" | .str => "str" | .list => "list" | .tuple => "tuple"
def cnt : E → Nat
  | .cons _ es => cnt es + 1
  | _ => 0
def notStar : Expr → Bool
  | .Starred _ _ => false
  | _ => true
def notSet : Expr → Bool
  | .Set _ _ _ => false
  | _ => true
def notSlice : Expr → Bool
  | .Slice _ _ none _ => false
  | _ => true
def notCall0 (t : Expr) : Bool := match asCall t with
  | some (_, []) => false
  | _ => true
/-- fit for a test -/
def tst : E → Bool
  | .ite _ _ _ => false
  | _ => true
def lstE : E → Bool
  | .var _ => true
  | e => isFresh e
def ownL (N : List Str) (own : List Nat) : List (Str × Nat) := own.map fun i => (N.getD i "", i)
def mTgs (N : List Str) (sc : Scope) : List Nat → List Expr → Bool
  | [], [] => true
  | i :: is, t :: ts => (match asName t with
    | some x => decide (N[i]? = some x) && locB sc x
    | none => false) && mTgs N sc is ts
  | _, _ => false
def mTg (N : List Str) (sc : Scope) (tg : Tg) (t : Expr) : Bool := match tg with
  | .one i => (match asName t with
    | some x => decide (N[i]? = some x) && locB sc x
    | none => false)
  | .tup is => (match asTup t with
    | some ts => mTgs N sc is ts
    | none => false)
def tgIn (tg : Tg) (own : List Nat) : Bool := match tg with
  | .one i => own.contains i
  | .tup is => is.all fun i => own.contains i
def isNon : E → Bool
  | .non => true
  | _ => false
def isTg2 (t : Expr) : Bool := (asTup t).isSome
def mVar (N : List Str) (i : Nat) (sc : Scope) (t : Expr) : Bool := match asName t with
  | some x => decide (N[i]? = some x) && visB sc x && nmOk x
  | none => false
mutual
def mE (Γ : Ctx) (N : List Str) : E → Scope → Expr → Bool
  | .var i, sc, t => (match asName t with
    | some x => decide (N[i]? = some x) && visB sc x && nmOk x
    | none => false)
  | .glob j, sc, t => (match asName t with
    | some x => (match Γ.globs[j]? with
      | some p => decide (p.1 = x) && glB sc x && nmOk x
      | none => false)
    | none => false)
  | .cst c, _, t => (match asConst t with
    | some c' => decide (c = c')
    | none => false)
  | .bin op a b, sc, t => (match asBin t with
    | some (x, o, y) => decide (op = o) && mE Γ N a sc x && mE Γ N b sc y
    | none => false)
  | .cat a b, sc, t => (match asBin t with
    | some (x, o, y) => decide (Operator.Add = o) && lstE a && lstE b && mE Γ N a sc x && mE Γ N b sc y
    | none => false)
  | .neg a, sc, t => (match asUn t with
    | some (o, x) => decide (UnaryOp.USub = o) && mE Γ N a sc x
    | none => false)
  | .not a, sc, t => (match asUn t with
    | some (o, x) => decide (UnaryOp.Not = o) && tst a && mE Γ N a sc x
    | none => false)
  | .cmp op a b, sc, t => (match asCmp1 t with
    | some (x, o, y) => decide (op = o) && !behindInMarks o y && mE Γ N a sc x && mE Γ N b sc y
    | none => false)
  | .chn o1 o2 a b c, sc, t => (match asCmp2 t with
    | some (x, p1, p2, y, z) => decide (o1 = p1) && decide (o2 = p2) && !lastMarks [p1, p2] [y, z] && mE Γ N a sc x && mE Γ N b sc y && mE Γ N c sc z
    | none => false)
  | .and a b, sc, t => (match asBool t with
    | some (.And, [x, y], _) => tst a && tst b && mE Γ N a sc x && mE Γ N b sc y
    | some (.And, x :: y :: z :: r, p) => tst a && tst b && mE Γ N a sc x && mE Γ N b sc (.BoolOp .And (y :: z :: r) p)
    | _ => false)
  | .or a b, sc, t => (match asBool t with
    | some (.Or, [x, y], _) => tst a && tst b && mE Γ N a sc x && mE Γ N b sc y
    | some (.Or, x :: y :: z :: r, p) => tst a && tst b && mE Γ N a sc x && mE Γ N b sc (.BoolOp .Or (y :: z :: r) p)
    | _ => false)
  | .ite c a b, sc, t => (match asIf t with
    | some (x, y, z) => tst c && mE Γ N c sc x && mE Γ N a sc y && mE Γ N b sc z
    | none => false)
  | .tup es, sc, t => (match asTup t with
    | some xs => decide (cnt es ≤ 1000) && mEs Γ N es sc xs
    | none => false)
  | .lst es, sc, t => (match asLst t with
    | some xs => decide (cnt es ≤ 1000) && mEs Γ N es sc xs
    | none => false)
  | .idx a b, sc, t => (match asSub t with
    | some (x, y) => notSlice y && mE Γ N a sc x && mE Γ N b sc y
    | none => false)
  | .sl _ a lo hi, sc, t => (match asSub t with
    | some (x, y) => (match asSlice y with
      | some (l, h) => mE Γ N a sc x && (match l with
        | none => isNon lo
        | some u => mE Γ N lo sc u) && (match h with
        | none => isNon hi
        | some u => mE Γ N hi sc u)
      | none => false)
    | none => false)
  | .call k j es, sc, t => (match asCall t with
    | some (x, ys) => (match Γ.cals[j]? with
      | some c => decide (c.name = x) && (!k || decide (c.fr = .own)) && glB sc x && nmOk x && decide (0 < cnt es ∧ cnt es + c.dfl.length = c.n) && mEs Γ N es sc ys
      | none => false)
    | none => false)
  | .callB j es, sc, t => (match asCall t with
    | some (x, ys) => (match Γ.cals[j]? with
      | some c => decide (c.name = x) && glB sc x && nmOk x && decide (0 < cnt es ∧ cnt es + c.dfl.length = c.n) && mEs Γ N es sc ys
      | none => false)
    | none => false)
  | .blt b es, sc, t => (match asCall t with
    | some (x, ys) => (!decide (b = .strL) || Γ.dig) && decide (b.name = x) && Γ.bl.contains x && glB sc x && decide (0 < cnt es) && mEs Γ N es sc ys
    | none => false)
  | .isi ty a, sc, t => (match asCall t with
    | some (x, [y, z]) => decide (("isinstance" : Str) = x) && Γ.bl.contains x && glB sc x && notStar y && mE Γ N a sc y && (match asName z with
      | some n => decide (ty.name = n) && Γ.bl.contains n && glB sc n
      | none => false)
    | _ => false)
  | .mth m a e, sc, t => (match asMeth t with
    | some (o, n, [y], p, q) => decide (m.name = n) && (p.endLine == q.line) && notCall0 o && notStar y && mE Γ N a sc o && mE Γ N e sc y
    | _ => false)
  | .comp elt tg it own, sc, t => (match asComp t with
    | some (e, x, i, [], s2, _) => blkC N sc s2 (ownL N own) && mTg N s2 tg x && tgIn tg own && mI Γ N it sc x i && mE Γ N elt s2 e
    | _ => false)
  | .compC elt tg it cnd own, sc, t => (match asComp t with
    | some (e, x, i, [c], s2, _) => blkC N sc s2 (ownL N own) && mTg N s2 tg x && tgIn tg own && mI Γ N it sc x i && tst cnd && mE Γ N cnd s2 c && mE Γ N elt s2 e
    | _ => false)
  | .din ng i a, sc, t => (match asCmp1 t with
    | some (x, o, y) => decide (o = if ng = true then CmpOp.NotIn else CmpOp.In) && !behindInMarks o y && mE Γ N a sc x && mVar N i sc y
    | none => false)
  | .dget i a, sc, t => (match asSub t with
    | some (x, y) => notSlice y && mVar N i sc x && mE Γ N a sc y
    | none => false)
  | .dgetO i a b, sc, t => (match asMeth t with
    | some (o, n, [y, z], p, q) => decide (("get" : Str) = n) && (p.endLine == q.line) && notCall0 o && notStar y && notStar z && mVar N i sc o && mE Γ N a sc y && mE Γ N b sc z
    | _ => false)
  | .dkeys i, sc, t => (match asCall t with
    | some (x, [y]) => decide (("list" : Str) = x) && Γ.bl.contains x && glB sc x && notStar y && mVar N i sc y
    | _ => false)
  | _, _, _ => false
def mEs (Γ : Ctx) (N : List Str) : E → Scope → List Expr → Bool
  | .nil, _, [] => true
  | .cons e es, sc, t :: ts => notStar t && mE Γ N e sc t && mEs Γ N es sc ts
  | _, _, _ => false
def mI (Γ : Ctx) (N : List Str) : E → Scope → Expr → Expr → Bool
  | .iseq a, sc, _, t => notSet t && mE Γ N a sc t
  | .istr a, sc, _, t => notSet t && mE Γ N a sc t
  | .irng es, sc, _, t => (match asCall t with
    | some (x, ys) => decide (("range" : Str) = x) && Γ.bl.contains x && glB sc x && decide (0 < cnt es ∧ cnt es < 4) && mEs Γ N es sc ys
    | none => false)
  | .ienum a, sc, tg, t => (match asCall t with
    | some (x, [y]) => decide (("enumerate" : Str) = x) && Γ.bl.contains x && glB sc x && isTg2 tg && notStar y && mE Γ N a sc y
    | _ => false)
  | .izip a b, sc, tg, t => (match asCall t with
    | some (x, [y, z]) => decide (("zip" : Str) = x) && Γ.bl.contains x && glB sc x && isTg2 tg && notStar y && notStar z && mE Γ N a sc y && mE Γ N b sc z
    | _ => false)
  | .irev a, sc, _, t => (match asCall t with
    | some (x, [y]) => decide (("reversed" : Str) = x) && Γ.bl.contains x && glB sc x && notStar y && mE Γ N a sc y
    | _ => false)
  | _, _, _, _ => false
end
def asAsg : Stmt → Option (Expr × Expr × Pos)
  | .Assign [t] e p => some (t, e, p)
  | _ => none
def asDict0 : Expr → Bool
  | .Dict [] [] _ => true
  | _ => false
def asMeth0 : Expr → Option (Expr × Str × Pos × Pos)
  | .Call (.Attribute o n p) [] [] q => some (o, n, p, q)
  | _ => none
def asExpr : Stmt → Option Expr
  | .Expr e _ => some e
  | _ => none
def asIfS : Stmt → Option (Expr × List Stmt × List Stmt)
  | .If c a b _ => some (c, a, b)
  | _ => none
def asWhl : Stmt → Option (Expr × List Stmt)
  | .While c a [] _ => some (c, a)
  | _ => none
def asFor : Stmt → Option (Expr × Expr × List Stmt)
  | .For t i a [] _ => some (t, i, a)
  | _ => none
def asRet : Stmt → Option (Option Expr)
  | .Return e _ => some e
  | _ => none
def isBrk : Stmt → Bool
  | .Break _ => true
  | _ => false
def isCont : Stmt → Bool
  | .Continue _ => true
  | _ => false
section
variable {s : Stmt}
theorem asAsg_eq {x} (h : asAsg s = some x) : s = .Assign [x.1] x.2.1 x.2.2 := by
  unfold asAsg at h
  split at h
  · simp only [Option.some.injEq] at h
    subst h; rfl
  · cases h
theorem asDict0_eq {e : Expr} (h : asDict0 e = true) : ∃ p, e = .Dict [] [] p := by
  unfold asDict0 at h
  split at h
  · exact ⟨_, rfl⟩
  · cases h
theorem asMeth0_eq {e : Expr} {x} (h : asMeth0 e = some x) : e = .Call (.Attribute x.1 x.2.1 x.2.2.1) [] [] x.2.2.2 := by
  unfold asMeth0 at h
  split at h
  · simp only [Option.some.injEq] at h
    subst h; rfl
  · cases h
theorem asExpr_eq {x} (h : asExpr s = some x) : ∃ p, s = .Expr x p := by
  cases s <;> simp only [asExpr, Option.some.injEq, reduceCtorEq] at h
  subst h; exact ⟨_, rfl⟩
theorem asIfS_eq {x} (h : asIfS s = some x) : ∃ p, s = .If x.1 x.2.1 x.2.2 p := by
  cases s <;> simp only [asIfS, Option.some.injEq, reduceCtorEq] at h
  subst h; exact ⟨_, rfl⟩
theorem asWhl_eq {x} (h : asWhl s = some x) : ∃ p, s = .While x.1 x.2 [] p := by
  unfold asWhl at h
  split at h
  · simp only [Option.some.injEq] at h
    subst h; exact ⟨_, rfl⟩
  · cases h
theorem asFor_eq {x} (h : asFor s = some x) : ∃ p, s = .For x.1 x.2.1 x.2.2 [] p := by
  unfold asFor at h
  split at h
  · simp only [Option.some.injEq] at h
    subst h; exact ⟨_, rfl⟩
  · cases h
theorem asRet_eq {x} (h : asRet s = some x) : ∃ p, s = .Return x p := by
  cases s <;> simp only [asRet, Option.some.injEq, reduceCtorEq] at h
  subst h; exact ⟨_, rfl⟩
theorem isBrk_eq (h : isBrk s = true) : ∃ p, s = .Break p := by
  cases s <;> simp only [isBrk, reduceCtorEq] at h
  exact ⟨_, rfl⟩
theorem isCont_eq (h : isCont s = true) : ∃ p, s = .Continue p := by
  cases s <;> simp only [isCont, reduceCtorEq] at h
  exact ⟨_, rfl⟩
end
def isLocB (sc : Scope) (x : Str) : Bool := match sc.names.lookup x with
  | some .local => true
  | _ => false
def lineOf : Expr → Nat
  | .Name _ p => p.line
  | _ => 0
/-- a, b = x, y is done by swapped stores -/
def parB (sc : Scope) (x y : Expr) (a b : Expr) : Bool :=
  (match asName x with
  | some n => isLocB sc n
  | none => false) && (match asName y with
  | some n => isLocB sc n
  | none => false) && (lineOf y == lineOf x) && notStar a && notStar b && !(foldedForSure 8 a && foldedForSure 8 b) && !(constantsAlone 8 a && constantsAlone 8 b)
def isComp : E → Bool
  | .comp _ _ _ _ => true
  | .compC _ _ _ _ _ => true
  | _ => false
def isCompE : Expr → Bool
  | .ListComp _ _ _ _ => true
  | .SetComp _ _ _ _ => true
  | .DictComp _ _ _ _ _ => true
  | _ => false
def celB (sc : Scope) (x : Str) : Bool := match sc.names.lookup x with
  | some .cell => true
  | _ => false
/-- name = [..] on one line, the name a local that the block does not bear -/
def swT (sc : Scope) (x : Str) (t v : Expr) : Bool := match asComp v with
  | some (_, _, _, _, s2, p) => isLocB sc x && (lineOf t == p.line) && !(s2.names.any fun (n, k) => n == x && (k == .local || k == .cell))
  | none => false
def notTup (t : Expr) : Bool := (asTup t).isNone
mutual
def mS (Γ : Ctx) (N : List Str) (sc : Scope) : S → Stmt → Bool
  | .asg i e, s => (match asAsg s with
    | some (t, v, _) => (match asName t with
      | some x => decide (N[i]? = some x) && locB sc x && (!isCompE v || (isComp e && (swT sc x t v || celB sc x))) && mE Γ N e sc v
      | none => false)
    | none => false)
  | .unp is e, s => (match asAsg s with
    | some (t, v, _) => (match asTup t with
      | some ts => notTup v && mTgs N sc is ts && mE Γ N e sc v
      | none => false)
    | none => false)
  | .unpC is j es, s => (match asAsg s with
    | some (t, v, _) => (match asTup t with
      | some ts => mTgs N sc is ts && decide is.Nodup && mE Γ N (.call false j es) sc v
      | none => false)
    | none => false)
  | .par i j a b, s => (match asAsg s with
    | some (t, v, _) => (match asTup t with
      | some [x, y] => (match asTup v with
        | some [a', b'] => mTgs N sc [i, j] [x, y] && decide (i ≠ j) && parB sc x y a' b' && mE Γ N a sc a' && mE Γ N b sc b'
        | _ => false)
      | _ => false)
    | none => false)
  | .setIx i ix e, s => (match asAsg s with
    | some (t, v, _) => (match asSub t with
      | some (o, k) => notSlice k && mE Γ N (.var i) sc o && mE Γ N ix sc k && mE Γ N e sc v
      | none => false)
    | none => false)
  | .app i e, s => (match asExpr s with
    | some t => (match asMeth t with
      | some (o, n, [y], p, q) => decide (("append" : Str) = n) && (p.endLine == q.line) && notStar y && mE Γ N (.var i) sc o && mE Γ N e sc y
      | _ => false)
    | none => false)
  | .ext i e, s => (match asExpr s with
    | some t => (match asMeth t with
      | some (o, n, [y], p, q) => decide (("extend" : Str) = n) && (p.endLine == q.line) && notStar y && isFresh e && mE Γ N (.var i) sc o && mE Γ N e sc y
      | _ => false)
    | none => false)
  | .dnew i, s => (match asAsg s with
    | some (t, v, _) => (match asName t with
      | some x => decide (N[i]? = some x) && locB sc x && asDict0 v
      | none => false)
    | none => false)
  | .dput i ix e, s => (match asAsg s with
    | some (t, v, _) => (match asSub t with
      | some (o, k) => notSlice k && mE Γ N (.var i) sc o && mE Γ N ix sc k && mE Γ N e sc v
      | none => false)
    | none => false)
  | .clr i, s => (match asExpr s with
    | some t => (match asMeth0 t with
      | some (o, n, p, q) => decide (("clear" : Str) = n) && (p.endLine == q.line) && mE Γ N (.var i) sc o
      | none => false)
    | none => false)
  | .ifs c a b, s => (match asIfS s with
    | some (t, x, y) => tst c && mE Γ N c sc t && mB Γ N sc a x && mB Γ N sc b y
    | none => false)
  | .whl c b, s => (match asWhl s with
    | some (t, x) => tst c && mE Γ N c sc t && mB Γ N sc b x
    | none => false)
  | .fr tg it b, s => (match asFor s with
    | some (t, i, x) => mTg N sc tg t && mI Γ N it sc t i && mB Γ N sc b x
    | none => false)
  | .ret e, s => (match asRet s with
    | some (some t) => mE Γ N e sc t
    | _ => false)
  | .retN, s => (match asRet s with
    | some none => true
    | _ => false)
  | .brk, s => isBrk s
  | .cont, s => isCont s
  | _, _ => false
def mB (Γ : Ctx) (N : List Str) (sc : Scope) : S → List Stmt → Bool
  | .nil, [] => true
  | .seq (.frz _) r, l => mB Γ N sc r l
  | .seq s r, t :: l => mS Γ N sc s t && mB Γ N sc r l
  | _, _ => false
end
end Rf

/-! Rf: reflection. Part D: an expression's rule of the layer does what the evaluator tells. -/
namespace Rf
open PySem L2
variable [PWd]
abbrev RT := Hp → Hp → Hp → V → D → Prop
def XVal (ct : Str → Option Addr) (H : Hp) (cls : Value) (dd : Option Addr) (e : Exc) : Prop :=
  ∃ C a fs, ct e.cls = some C ∧ cls = .ref C ∧ dd = some a ∧ H a = some (.xd fs) ∧ Paired (fun (p : Str × V) (q : Str × D) => p.1 = q.1 ∧ flatD q.2 = some p.2) fs e.args
def RSh (K : PySem.W.Frag) : RT := fun _ S' _ v d => Dp K S' v d
def RFr (K : PySem.W.Frag) : RT := fun H0 S' H' v d => ∃ p xs ds, v = .ref p ∧ d = .list ds ∧ H' p = some (.lst xs) ∧ S' p = none ∧ H0 p = none ∧ DpAll K S' xs ds
def RRd (K : PySem.W.Frag) : RT := fun _ S' H' v d => match d with
  | .list ds => ∃ a xs, v = .ref a ∧ SqL K H' a xs ∧ DpAll K S' xs ds
  | d => Dp K S' v d
def RLs (K : PySem.W.Frag) : RT := fun _ S' H' v d => ∃ p xs ds, v = .ref p ∧ d = .list ds ∧ H' p = some (.lst xs) ∧ DpAll K S' xs ds
def RTu (K : PySem.W.Frag) (k : Nat) : RT := fun H0 S' H' v d => ∃ a vs ds p xs es, v = .ref a ∧ d = .tuple ds ∧ H' a = some (.tup vs) ∧ S' a = none ∧ H0 a = none ∧ vs.length = ds.length ∧
  vs[k]? = some (.ref p) ∧ ds[k]? = some (.list es) ∧ H' p = some (.lst xs) ∧ S' p = none ∧ H0 p = none ∧ DpAll K S' xs es ∧
  ∀ (j : Nat) (dj : D), j ≠ k → ds[j]? = some dj → ∃ vj, vs[j]? = some vj ∧ Dp K S' vj dj
def RV (K : PySem.W.Frag) : Fr → RT
  | .sh => RSh K
  | .own => RFr K
  | .tup k => RTu K k
def Mn (R : RT) : Prop := ∀ H H1 S' H' v d, Same H H1 → R H1 S' H' v d → R H S' H' v d
section
variable {K : PySem.W.Frag}
theorem mn_sh : Mn (RSh K) := fun _ _ _ _ _ _ _ h => h
theorem mn_rd : Mn (RRd K) := fun _ _ _ _ _ _ _ h => h
theorem mn_ls : Mn (RLs K) := fun _ _ _ _ _ _ _ h => h
theorem mn_fr : Mn (RFr K) := fun _ _ _ _ _ _ s ⟨p, xs, ds, a, b, c, d, e, f⟩ => ⟨p, xs, ds, a, b, c, d, s.free e, f⟩
theorem mn_tu {k : Nat} : Mn (RTu K k) := fun _ _ _ _ _ _ s ⟨a, vs, ds, p, xs, es, h1, h2, h3, h4, h5, h6, h7, h8, h9, h10, h11, h12, h13⟩ =>
  ⟨a, vs, ds, p, xs, es, h1, h2, h3, h4, s.free h5, h6, h7, h8, h9, h10, s.free h11, h12, h13⟩
theorem mn_rv : ∀ fr : Fr, Mn (RV K fr)
  | .sh => mn_sh
  | .own => mn_fr
  | .tup _ => mn_tu
theorem rd_of_sh {H0 S H : Hp} {v : V} {d : D} (x : Same S H) (h : Dp K S v d) : RRd K H0 S H v d := by
  cases h with
  | non => exact .non
  | bl b => exact .bl b
  | int i => exact .int i
  | str x => exact .str x
  | lst a b => exact ⟨_, _, rfl, x.seq a, b⟩
  | tup a b => exact .tup a b
theorem dp_of_rd {H0 S H : Hp} {v : V} {d : D} (x : Same S H) (h : RRd K H0 S H v d) : Dp K H v d := by
  cases d with
  | list ds => obtain ⟨a, xs, rfl, h1, h2⟩ := h; exact .lst h1 (dps_mono x _ _ h2)
  | tuple ds => exact dp_mono x _ _ h
  | none => exact dp_mono x _ _ h
  | bool b => exact dp_mono x _ _ h
  | int i => exact dp_mono x _ _ h
  | str z => exact dp_mono x _ _ h
  | dict z => cases (show Dp K S v (.dict z) from h)
theorem rd_ext {H0 S H S' H' : Hp} {v : V} {d : D} (x : Ext S H S' H') (h : RRd K H0 S H v d) : RRd K H0 S' H' v d := by
  cases d with
  | list ds => obtain ⟨a, xs, e, h1, h2⟩ := h; exact ⟨a, xs, e, x.h.seq h1, dps_mono x.s _ _ h2⟩
  | tuple ds => exact dp_mono x.s _ _ h
  | none => exact dp_mono x.s _ _ h
  | bool b => exact dp_mono x.s _ _ h
  | int i => exact dp_mono x.s _ _ h
  | str z => exact dp_mono x.s _ _ h
  | dict z => cases (show Dp K S v (.dict z) from h)
theorem ls_ext {H0 S H S' H' : Hp} {v : V} {d : D} (x : Ext S H S' H') (h : RLs K H0 S H v d) : RLs K H0 S' H' v d := by
  obtain ⟨p, xs, ds, a, b, c, e⟩ := h
  exact ⟨p, xs, ds, a, b, x.h _ _ c, dps_mono x.s _ _ e⟩
/-- what is new may be handed on as something that nobody changes any more -/
theorem fr_share {H0 S H S' H' : Hp} {v : V} {d : D} (x : Ext S H S' H') (h : RFr K H S' H' v d) : ∃ S'', Ext S H S'' H' ∧ Same S' S'' ∧ Dp K S'' v d := by
  obtain ⟨p, xs, ds, rfl, rfl, h1, h2, h3, h4⟩ := h
  have sm : Same S' (upd S' p (.lst xs)) := upd_of_none h2
  refine ⟨upd S' p (.lst xs), ⟨x.s.trans sm, fun a o e => ?_, x.h, fun a o e => ?_⟩, sm, .lst (SqL.of upd_same) (dps_mono sm _ _ h4)⟩
  · by_cases q : a = p
    · subst q
      rw [upd_same] at e
      rw [← e]; exact h1
    · rw [upd_ne q] at e
      exact x.sub _ _ e
  · by_cases q : a = p
    · subst q; exact .inr h3
    · rw [upd_ne q] at e
      exact x.new _ _ e
theorem dps_of_parts {S : Hp} : ∀ {ds : List D} {vs : List V}, vs.length = ds.length → (∀ (j : Nat) (dj : D), ds[j]? = some dj → ∃ vj, vs[j]? = some vj ∧ Dp K S vj dj) → DpAll K S vs ds
  | [], [], _, _ => .nil
  | [], _ :: _, h, _ => by simp at h
  | _ :: _, [], h, _ => by simp at h
  | d :: ds, v :: vs, h, f => by
    obtain ⟨w, e1, e2⟩ := f 0 d rfl
    simp at e1; subst e1
    exact .cons e2 (dps_of_parts (by simpa using h) fun j dj e => by simpa using f (j + 1) dj (by simpa using e))
theorem tu_share {k : Nat} {S H S' H' : Hp} {v : V} {d : D} (x : Ext S H S' H') (h : RTu K k H S' H' v d) : ∃ S'', Ext S H S'' H' ∧ Same S' S'' ∧ Dp K S'' v d := by
  obtain ⟨a, vs, ds, p, xs, es, rfl, rfl, h3, h4, h5, h6, h7, h8, h9, h10, h11, h12, h13⟩ := h
  have ne : a ≠ p := ne_of h3 h9 (by intro z; cases z)
  have sm1 : Same S' (upd S' p (.lst xs)) := upd_of_none h10
  have ha : (upd S' p (.lst xs)) a = none := by rw [upd_ne ne]; exact h4
  have sm2 : Same (upd S' p (.lst xs)) (upd (upd S' p (.lst xs)) a (.tup vs)) := upd_of_none ha
  refine ⟨upd (upd S' p (.lst xs)) a (.tup vs), ⟨(x.s.trans sm1).trans sm2, fun b o e => ?_, x.h, fun b o e => ?_⟩, sm1.trans sm2, .tup (SqT.of upd_same) (dps_of_parts h6 fun j dj e => ?_)⟩
  · by_cases q : b = a
    · subst q
      rw [upd_same] at e
      rw [← e]; exact h3
    · rw [upd_ne q] at e
      by_cases q2 : b = p
      · subst q2
        rw [upd_same] at e
        rw [← e]; exact h9
      · rw [upd_ne q2] at e
        exact x.sub _ _ e
  · by_cases q : b = a
    · subst q; exact .inr h5
    · rw [upd_ne q] at e
      by_cases q2 : b = p
      · subst q2; exact .inr h11
      · rw [upd_ne q2] at e
        exact x.new _ _ e
  · by_cases q : j = k
    · subst q
      rw [h8] at e
      cases e
      exact ⟨_, h7, .lst (SqL.of (by rw [upd_ne ne.symm, upd_same])) (dps_mono (sm1.trans sm2) _ _ h12)⟩
    · obtain ⟨vj, e1, e2⟩ := h13 j dj q e
      exact ⟨vj, e1, dp_mono (sm1.trans sm2) _ _ e2⟩
theorem rv_share {S H S' H' : Hp} {v : V} {d : D} : ∀ {fr : Fr}, Ext S H S' H' → RV K fr H S' H' v d → ∃ S'', Ext S H S'' H' ∧ Same S' S'' ∧ Dp K S'' v d
  | .sh, x, h => ⟨S', x, Same.refl S', h⟩
  | .own, x, h => fr_share (H0 := H) x h
  | .tup _, x, h => tu_share x h
end

/-! ### outcomes -/
section
variable (ct : Str → Option Addr) (W : WX) (σ : L2.St) (S H : Hp)
def Pst (R : RT) (Q : VK) (r : Res D) : Prop := match r with
  | .ok d => ∀ v S' H', Ext S H S' H' → R H S' H' v d → Q v H'
  | .exc e => ∀ cls dd S' H', Ext S H S' H' → XVal ct H' cls dd e → W cls dd σ H'
  | .bad => False
def PstA (RA : Hp → Hp → List V → List D → Prop) (Q : List V → Hp → Prop) (r : Res D) : Prop := match r with
  | .ok d => ∀ ds, d = .tuple ds → ∀ vs S' H', Ext S H S' H' → RA S' H' vs ds → Q vs H'
  | .exc e => ∀ cls dd S' H', Ext S H S' H' → XVal ct H' cls dd e → W cls dd σ H'
  | .bad => False
def PstB (Q : Bool → Hp → Prop) (r : Res D) : Prop := match r with
  | .ok d => (match d with
    | .bool b => ∀ S' H', Ext S H S' H' → Q b H'
    | _ => False)
  | .exc e => ∀ cls dd S' H', Ext S H S' H' → XVal ct H' cls dd e → W cls dd σ H'
  | .bad => False
end
section
variable {ct : Str → Option Addr} {W : WX} {σ : L2.St} {S H S1 H1 : Hp} {R : RT} {Q : VK} {r : Res D}
theorem Pst.shift (m : Mn R) (x : Ext S H S1 H1) (h : Pst ct W σ S H R Q r) : Pst ct W σ S1 H1 R Q r := by
  cases r with
  | ok d => exact fun v S' H' y q => h v S' H' (x.trans y) (m _ _ _ _ _ _ x.h q)
  | exc e => exact fun c dd S' H' y q => h c dd S' H' (x.trans y) q
  | bad => exact h
end
def EvP (X : Cx) (ct : Str → Option Addr) (W : WX) (te : TE) (R : RT) (f : Sl → Res D) : Prop :=
  ∀ (S H : Hp) (σ : L2.St) (ρ : Sl) (Q : VK), Rp X.K S H σ ρ → Pst ct W σ S H R Q (f ρ) → te σ H Q
def AvP (X : Cx) (ct : Str → Option Addr) (W : WX) (ta : TA) (RA : Hp → Hp → List V → List D → Prop) (f : Sl → Res D) : Prop :=
  ∀ (S H : Hp) (σ : L2.St) (ρ : Sl) (Q : List V → Hp → Prop), Rp X.K S H σ ρ → PstA ct W σ S H RA Q (f ρ) → ta σ H Q
def TvP (X : Cx) (ct : Str → Option Addr) (W : WX) (tt : TT) (f : Sl → Res D) : Prop :=
  ∀ (S H : Hp) (σ : L2.St) (ρ : Sl) (Q : Bool → Hp → Prop), Rp X.K S H σ ρ → PstB ct W σ S H Q (f ρ) → tt σ H Q
def RRdA (K : PySem.W.Frag) (S H : Hp) : List V → List D → Prop
  | [], [] => True
  | v :: vs, d :: ds => RRd K H S H v d ∧ RRdA K S H vs ds
  | _, _ => False
section
variable {X : Cx} {ct : Str → Option Addr} {W : WX} {te : TE} {R R1 : RT} {f : Sl → Res D} {S H : Hp} {σ : L2.St} {ρ : Sl} {Q : VK}
theorem EvP.bind {k : D → Res D} {Kt : VK} (h : EvP X ct W te R1 f) (r : Rp X.K S H σ ρ) (m : Mn R) (hp : Pst ct W σ S H R Q (f ρ >>= k))
    (next : ∀ d v S1 H1, f ρ = .ok d → Ext S H S1 H1 → R1 H S1 H1 v d → Rp X.K S1 H1 σ ρ → Pst ct W σ S1 H1 R Q (k d) → Kt v H1) : te σ H Kt := by
  refine h S H σ ρ _ r ?_
  cases e : f ρ with
  | ok d =>
    rw [e] at hp
    exact fun v S1 H1 x q => next d v S1 H1 e x q (r.ext x) (Pst.shift m x hp)
  | exc z => rw [e] at hp; exact hp
  | bad => rw [e] at hp; exact hp
theorem EvP.imp (h : EvP X ct W te R1 f) (i : ∀ H S' H' v d, Same S' H' → R1 H S' H' v d → R H S' H' v d) : EvP X ct W te R f := fun S H σ ρ Q r hp => by
  refine h S H σ ρ Q r ?_
  cases e : f ρ with
  | ok d =>
    rw [e] at hp
    exact fun v S1 H1 x q => hp v S1 H1 x (i _ _ _ _ _ x.sub q)
  | exc z => rw [e] at hp; exact hp
  | bad => rw [e] at hp; exact hp
theorem EvP.share (h : EvP X ct W te (RFr X.K) f) : EvP X ct W te (RSh X.K) f := fun S H σ ρ Q r hp => by
  refine h S H σ ρ Q r ?_
  cases e : f ρ with
  | ok d =>
    rw [e] at hp
    intro v S1 H1 x q
    obtain ⟨S2, y, _, z⟩ := fr_share (H0 := H) x q
    exact hp v S2 H1 y z
  | exc z => rw [e] at hp; exact hp
  | bad => rw [e] at hp; exact hp
theorem EvP.rd (h : EvP X ct W te (RSh X.K) f) : EvP X ct W te (RRd X.K) f := h.imp fun _ _ _ _ _ s q => rd_of_sh s q
theorem EvP.ls (h : EvP X ct W te (RFr X.K) f) : EvP X ct W te (RLs X.K) f := h.imp fun _ _ _ _ _ _ ⟨p, xs, ds, a, b, c, _, _, e⟩ => ⟨p, xs, ds, a, b, c, e⟩
theorem AvP.bind {ta : TA} {RA : Hp → Hp → List V → List D → Prop} {k : List D → Res D} {Kt : List V → Hp → Prop} (h : AvP X ct W ta RA f) (r : Rp X.K S H σ ρ) (m : Mn R) (hp : Pst ct W σ S H R Q (tupOf (f ρ) k))
    (next : ∀ ds vs S1 H1, f ρ = .ok (.tuple ds) → Ext S H S1 H1 → RA S1 H1 vs ds → Rp X.K S1 H1 σ ρ → Pst ct W σ S1 H1 R Q (k ds) → Kt vs H1) : ta σ H Kt := by
  refine h S H σ ρ _ r ?_
  cases e : f ρ with
  | ok d =>
    rw [e] at hp
    intro ds ed
    subst ed
    exact fun vs S1 H1 x q => next ds vs S1 H1 e x q (r.ext x) (Pst.shift m x hp)
  | exc z => rw [e] at hp; exact hp
  | bad => rw [e] at hp; exact hp
end
/-- guard' -/
theorem guard_ok {α : Type} {c : Bool} {r : Res α} {a : α} (h : guard' c r = .ok a) : c = true ∧ r = .ok a := by
  unfold guard' at h
  split at h
  · exact ⟨by assumption, h⟩
  · cases h
theorem pst_guard {ct : Str → Option Addr} {W : WX} {σ : L2.St} {S H : Hp} {R : RT} {Q : VK} {r : Res D} {c : Bool} (h : Pst ct W σ S H R Q (guard' c r)) : c = true ∧ Pst ct W σ S H R Q r := by
  unfold guard' at h
  split at h
  · exact ⟨by assumption, h⟩
  · exact h.elim
theorem lim_eq : lim = sizeLine := by rw [sizeLine_eq]; rfl

/-! ### what stands around -/
def spOf (K : PySem.W.Frag) (ct : Str → Option Addr) (c : Cal) : Sp := fun vs H Q E => ∃ S ds, Same S H ∧ DpAll K S vs ds ∧ ds.length = c.n ∧ Pst ct (fun cls dd _ H' => E cls dd H') [] S H (RV K c.fr) Q (c.sem ds)
def CalOk (P : Program) (w : World) (K : PySem.W.Frag) (mg : Str → Option Value) (base : Heap) (ct : Str → Option Addr) (k : Nat) (c : Cal) : Prop :=
  ∃ (f : Addr) (fd : FuncData) (ps : List Str) (ds : List Value) (dvs : List V), FnOk P w K mg base (L2.CX P w) k f fd ps (spOf K ct c) ∧ mg c.name = some (.ref f) ∧ PySem.W.keepIn K (.ref f) = true ∧ Binds K fd ps ds ∧ Vals dvs ds ∧ ∀ S, DpAll K S dvs c.dfl
/-- the program and the world are those that dicts tell of -/
structure Pq (X : Cx) : Prop where
  p : X.prog = PWd.P
  w : X.w = PWd.w
structure Stc (X : Cx) (ct : Str → Option Addr) (k : Nat) (Γ : Ctx) (N : List Str) (sc : Scope) (W : WX) : Prop where
  hN : X.N = N
  nd : N.Nodup
  kind : X.env.scope.kind = .function
  loc : ∀ x, sc.names.lookup x = some .local → X.env.scope.names.lookup x = some .local
  cel : ∀ x, sc.names.lookup x = some .cell → X.env.scope.names.lookup x = some .cell ∧ X.fn x = true
  fre : ∀ x, sc.names.lookup x = some .free → X.env.scope.names.lookup x = some .free ∨ X.env.scope.names.lookup x = some .cell
  glo : ∀ x, sc.names.lookup x = some .globalImplicit → X.env.scope.names.lookup x = some .globalImplicit
  calm : X.calm = true
  bl : ∀ x ∈ Γ.bl, X.mg x = none
  dig : Γ.dig = true → PySem.W.nsIn X.K cStatics "sys.int_max_str_digits" = some none
  globs : ∀ p ∈ Γ.globs, ∃ u v, X.mg p.1 = some u ∧ RelV v u ∧ flatD p.2 = some v
  cals : ∀ c ∈ Γ.cals, CalOk X.prog X.w X.K X.mg X.base ct k c
  room : Room k X.A
  tk : Takes X W
  pq : Pq X
section
variable {X : Cx} {ct : Str → Option Addr} {k : Nat} {Γ : Ctx} {N : List Str} {sc : Scope} {W : WX} {x : Str}
theorem Stc.vis (s : Stc X ct k Γ N sc W) (h : visB sc x = true) : Vis X.env.scope x := by
  unfold visB at h
  split at h
  · exact .inl (s.loc _ (by assumption))
  · exact .inr (.inl (s.cel _ (by assumption)).1)
  · rcases s.fre _ (by assumption) with q | q
    · exact .inr (.inr q)
    · exact .inr (.inl q)
  · cases h
theorem Stc.gl (s : Stc X ct k Γ N sc W) (h : glB sc x = true) : Gl X x := by
  unfold glB at h
  split at h
  · exact s.glo _ (by assumption)
  · cases h
theorem Stc.lc (s : Stc X ct k Γ N sc W) (h : locB sc x = true) : Loc X.env.scope x ∧ (X.fn x = true ∨ X.env.scope.names.lookup x = some .local) := by
  unfold locB at h
  split at h
  · have q := s.loc _ (by assumption)
    exact ⟨.inl q, .inr q⟩
  · have q := s.cel _ (by assumption)
    exact ⟨.inr q.1, .inl q.2⟩
  · cases h
theorem nm_of (h : nmOk x = true) : (x == ("__debug__" : Str)) = false ∧ (x == ("__classdict__" : Str)) = false ∧ x ≠ "__name__" := by
  unfold nmOk at h
  rw [Bool.and_eq_true, Bool.and_eq_true] at h
  refine ⟨by simpa using h.1.1, by simpa using h.1.2, by simpa using h.2⟩
end
section
variable {env : Env} {t : Expr} {ts : List Expr}
theorem star_cons (h : notStar t = true) : starEach (t :: ts) env = (false, eval t env) :: starEach ts env := by
  cases t <;> first | rfl | cases h
theorem star_none {Γ : Ctx} {N : List Str} {sc : Scope} (pos : Pos) : ∀ {es : E} {ts : List Expr}, mEs Γ N es sc ts = true → (backTo pos (starEach ts env)).any (·.1) = false
  | .nil, [], _ => rfl
  | .cons e es, t :: ts, h => by
    unfold mEs at h
    rw [Bool.and_eq_true, Bool.and_eq_true] at h
    rw [star_cons h.1.1]
    show ((false : Bool) || (backTo pos (starEach ts env)).any (·.1)) = false
    rw [star_none pos h.2]
    rfl
  | .nil, _ :: _, h => by simp [mEs] at h
  | .cons _ _, [], h => by simp [mEs] at h
  | .non, _, h => by simp [mEs] at h
  | .var _, _, h => by simp [mEs] at h
  | .glob _, _, h => by simp [mEs] at h
  | .cst _, _, h => by simp [mEs] at h
  | .bin _ _ _, _, h => by simp [mEs] at h
  | .cat _ _, _, h => by simp [mEs] at h
  | .neg _, _, h => by simp [mEs] at h
  | .not _, _, h => by simp [mEs] at h
  | .cmp _ _ _, _, h => by simp [mEs] at h
  | .chn _ _ _ _ _, _, h => by simp [mEs] at h
  | .and _ _, _, h => by simp [mEs] at h
  | .or _ _, _, h => by simp [mEs] at h
  | .ite _ _ _, _, h => by simp [mEs] at h
  | .tup _, _, h => by simp [mEs] at h
  | .lst _, _, h => by simp [mEs] at h
  | .idx _ _, _, h => by simp [mEs] at h
  | .sl _ _ _ _, _, h => by simp [mEs] at h
  | .call _ _ _, _, h => by simp [mEs] at h
  | .callB _ _, _, h => by simp [mEs] at h
  | .blt _ _, _, h => by simp [mEs] at h
  | .isi _ _, _, h => by simp [mEs] at h
  | .mth _ _ _, _, h => by simp [mEs] at h
  | .comp _ _ _ _, _, h => by simp [mEs] at h
  | .compC _ _ _ _ _, _, h => by simp [mEs] at h
  | .iseq _, _, h => by simp [mEs] at h
  | .istr _, _, h => by simp [mEs] at h
  | .irng _, _, h => by simp [mEs] at h
  | .ienum _, _, h => by simp [mEs] at h
  | .izip _ _, _, h => by simp [mEs] at h
  | .irev _, _, h => by simp [mEs] at h
theorem base_ok {m : Str} {u : Sem Value} (h : notCall0 t = true) : attributeBase t m env u = u := by
  unfold attributeBase
  split
  · unfold notCall0 asCall at h
    simp at h
  · rfl
theorem plain_ix (h : notSlice t = true) : PlainIx t := fun o i => by
  unfold subscripted
  split
  · simp [notSlice] at h
  · cases (by assumption : false = true)
  · rfl
end
end Rf

/-! Rf: reflection. Part E: one theorem for each kind of expression. -/
namespace Rf
open PySem L2
variable [PWd]

structure Snd (X : Cx) (ct : Str → Option Addr) (Γ : Ctx) (W : WX) (e : E) (t : Expr) : Prop where
  pe : ∃ te, PE X t te ∧ EvP X ct W te (RSh X.K) (ev Γ e false) ∧ EvP X ct W te (RRd X.K) (ev Γ e true) ∧ (lstE e = true → EvP X ct W te (RLs X.K) (fun ρ => lsOf e (ev Γ e true ρ) ρ)) ∧ (isFresh e = true → EvP X ct W te (RFr X.K) (ev Γ e false))
  pt : tst e = true → ∃ tt, PT X t tt ∧ TvP X ct W tt (ev Γ e true) ∧ ∀ op vs p, t = .BoolOp op vs p → PW X t tt
structure SndL (X : Cx) (ct : Str → Option Addr) (Γ : Ctx) (W : WX) (e : E) (ts : List Expr) : Prop where
  sh : ∃ ta, PA X ts ta ∧ AvP X ct W ta (fun S' _ vs ds => DpAll X.K S' vs ds) (ev Γ e false)
  rd : ∃ ta, PA X ts ta ∧ AvP X ct W ta (fun S' H' vs ds => RRdA X.K S' H' vs ds) (ev Γ e true)
def ItD (K : PySem.W.Frag) (J : L2.It) (T S' : Hp) (ds : List D) : Prop := ∀ (i : Nat) (S2 H2 : Hp), Same T H2 → Same S' S2 → Same S2 H2 →
  (∀ d, ds[i]? = some d → J.go i H2 ∧ ∀ x H3, J.yld i H2 x H3 → ∃ S3, Ext S2 H2 S3 H3 ∧ Dp K S3 x d) ∧ (ds.length ≤ i → J.stop i H2)
section
variable (ct : Str → Option Addr) (W : WX) (σ : L2.St) (S H : Hp)
def PstI (K : PySem.W.Frag) (T : Bool) (R : L2.It → Hp → Prop) (r : Res D) : Prop := match r with
  | .ok d => (match d with
    | .list ds => ∀ J S' H', Ext S H S' H' → ItD K J (if T = true then H' else S') S' ds → R J H'
    | _ => False)
  | .exc e => ∀ cls dd S' H', Ext S H S' H' → XVal ct H' cls dd e → W cls dd σ H'
  | .bad => False
end
def IvP (X : Cx) (ct : Str → Option Addr) (W : WX) (wi : TI) (T : Bool) (f : Sl → Res D) : Prop :=
  ∀ (S H : Hp) (σ : L2.St) (ρ : Sl) (R : L2.It → Hp → Prop), Rp X.K S H σ ρ → PstI ct W σ S H X.K T R (f ρ) → wi σ H R
structure SndI (X : Cx) (ct : Str → Option Addr) (Γ : Ctx) (W : WX) (e : E) (tg t : Expr) : Prop where
  pi : ∀ m : Bool, ∃ wi, PI X tg t wi ∧ IvP X ct W wi m (ev Γ e m)
  nf : ∀ x, foldedSetIterable t X.env x = pure x

section
variable {X : Cx} {ct : Str → Option Addr} {Γ : Ctx} {W : WX} {te ta tb tc : TE} {f fa fb fc : Sl → Res D} {e : E} {t : Expr}
theorem tv_of (h : EvP X ct W te (RSh X.K) f) : TvP X ct W (tB te) f := fun S H σ ρ Q r hp => by
  refine h S H σ ρ _ r ?_
  cases q : f ρ with
  | ok d =>
    rw [q] at hp
    intro v S1 H1 x z
    cases d with
    | bool b =>
      cases (show Dp X.K S1 v (.bool b) from z)
      exact ⟨b, rfl, hp S1 H1 x⟩
    | _ => exact False.elim hp
  | exc z => rw [q] at hp; exact hp
  | bad => rw [q] at hp; exact hp
theorem Snd.plain (hp : PE X t te) (h : EvP X ct W te (RSh X.K) (ev Γ e false)) (hm : ∀ ρ, ev Γ e true ρ = ev Γ e false ρ) (hl : lstE e = false)
    (ht : ∀ whole, isTrue t X.env whole = (do let v ← whole; standAt t.pos; holding [v] (truthy v))) (nb : ∀ op vs p, t ≠ .BoolOp op vs p) (nf : isFresh e = false) : Snd X ct Γ W e t := by
  have em : ev Γ e true = ev Γ e false := funext hm
  refine ⟨⟨te, hp, h, by rw [em]; exact h.rd, fun q => (by rw [hl] at q; cases q), fun q => (by rw [nf] at q; cases q)⟩, fun _ => ⟨tB te, pt_val hp ht, by rw [em]; exact tv_of h, fun op vs p q => absurd q (nb op vs p)⟩⟩
theorem Snd.new (hp : PE X t te) (h : EvP X ct W te (RFr X.K) (ev Γ e false)) (hm : ∀ ρ, ev Γ e true ρ = ev Γ e false ρ) (hv : ∀ r ρ, lsOf e r ρ = r)
    (ht : ∀ whole, isTrue t X.env whole = (do let v ← whole; standAt t.pos; holding [v] (truthy v))) (nb : ∀ op vs p, t ≠ .BoolOp op vs p) : Snd X ct Γ W e t := by
  have em : ev Γ e true = ev Γ e false := funext hm
  refine ⟨⟨te, hp, h.share, by rw [em]; exact h.share.rd, fun _ => ?_, fun _ => h⟩, fun _ => ⟨tB te, pt_val hp ht, by rw [em]; exact tv_of h.share, fun op vs p q => absurd q (nb op vs p)⟩⟩
  have z : (fun ρ => lsOf e (ev Γ e true ρ) ρ) = ev Γ e false := funext fun ρ => by rw [hv, em]
  rw [z]
  exact h.ls

/-! ### operators -/
theorem ev2 {r : R2} {R : RT} {Ra Rb : RT} {g : D → D → Res D} (ha : EvP X ct W ta Ra fa) (hb : EvP X ct W tb Rb fb) (m : Mn R) (hx : ∀ H S H1 S2 H2 v d, Ext S H1 S2 H2 → Ra H S H1 v d → Ra H S2 H2 v d) (mb : Mn Rb)
    (hr : ∀ x y v u H0 S H σ Q, Same S H → Ra H0 S H v x → Rb H0 S H u y → Pst ct W σ S H R Q (g x y) → r v u H Q) :
    EvP X ct W (tOp r ta tb) R (fun ρ => fa ρ >>= fun x => fb ρ >>= fun y => g x y) := fun S H σ ρ Q rp hp => by
  refine ha.bind rp m hp fun x v S1 H1 _ e1 r1 rp1 hp1 => ?_
  refine hb.bind rp1 m hp1 fun y u S2 H2 _ e2 r2 rp2 hp2 => ?_
  exact hr x y v u H S2 H2 σ Q rp2.sub (hx _ _ _ _ _ _ _ e2 r1) (mb _ _ _ _ _ _ e1.h r2) hp2
theorem ev1 {r : V → Hp → VK → Prop} {R Ra : RT} {g : D → Res D} (ha : EvP X ct W ta Ra fa) (m : Mn R)
    (hr : ∀ x v H0 S H σ Q, Same S H → Ra H0 S H v x → Pst ct W σ S H R Q (g x) → r v H Q) : EvP X ct W (tUn r ta) R (fun ρ => fa ρ >>= g) := fun S H σ ρ Q rp hp => by
  refine ha.bind rp m hp fun x v S1 H1 _ e1 r1 rp1 hp1 => ?_
  exact hr x v H S1 H1 σ Q rp1.sub r1 hp1
section
variable {K : PySem.W.Frag} {H0 S H : Hp} {v u : V} {i : Int}
theorem rd_int (h : RRd K H0 S H v (.int i)) : v = .int i := by
  cases (show Dp K S v (.int i) from h); rfl
theorem rd_bl {b : Bool} (h : RRd K H0 S H v (.bool b)) : v = .bl b := by
  cases (show Dp K S v (.bool b) from h); rfl
theorem rd_str {z : Str} (h : RRd K H0 S H v (.str z)) : v = .str z := by
  cases (show Dp K S v (.str z) from h); rfl
theorem rd_non (h : RRd K H0 S H v .none) : v = .non := by
  cases (show Dp K S v .none from h); rfl
theorem rd_tup {ds : List D} (h : RRd K H0 S H v (.tuple ds)) : ∃ a xs, v = .ref a ∧ SqT K S a xs ∧ DpAll K S xs ds := by
  cases (show Dp K S v (.tuple ds) from h) with
  | tup a b => exact ⟨_, _, rfl, a, b⟩
theorem rd_lst {ds : List D} (h : RRd K H0 S H v (.list ds)) : ∃ a xs, v = .ref a ∧ SqL K H a xs ∧ DpAll K S xs ds := h
theorem flat_v {d : D} {a : V} (h : RRd K H0 S H v d) (e : flatD d = some a) : v = a ∧ flatV a = true := by
  cases d with
  | none => cases e; exact ⟨rd_non h, rfl⟩
  | bool b => cases e; exact ⟨rd_bl h, rfl⟩
  | int i => cases e; exact ⟨rd_int h, rfl⟩
  | str z => cases e; exact ⟨rd_str h, rfl⟩
  | list ds => cases e
  | tuple ds => cases e
  | dict z => cases e
theorem flat_dp {d : D} {a : V} (h : Dp K S v d) (e : flatD d = some a) : v = a ∧ flatV a = true := by
  cases h with
  | non => cases e; exact ⟨rfl, rfl⟩
  | bl b => cases e; exact ⟨rfl, rfl⟩
  | int i => cases e; exact ⟨rfl, rfl⟩
  | str z => cases e; exact ⟨rfl, rfl⟩
  | lst a b => cases e
  | tup a b => cases e
theorem flat_all : ∀ {ds : List D} {vs as : List V}, DpAll K S vs ds → flatAll ds = some as → vs = as ∧ as.all flatV = true
  | [], _, _, h, e => by cases h; cases e; exact ⟨rfl, rfl⟩
  | d :: ds, _, as, h, e => by
    cases h with
    | cons h1 h2 =>
      unfold flatAll at e
      cases q : flatD d with
      | none => rw [q] at e; cases e
      | some a =>
        rw [q] at e
        cases q2 : flatAll ds with
        | none => rw [q2] at e; cases e
        | some bs =>
          rw [q2] at e
          cases e
          obtain ⟨rfl, f1⟩ := flat_dp h1 q
          obtain ⟨rfl, f2⟩ := flat_all h2 q2
          exact ⟨rfl, by rw [List.all_cons, f1, f2]; rfl⟩
end
theorem lim_le {n : Nat} (h : decide (n ≤ lim) = true) : n ≤ sizeLine := by
  have q := of_decide_eq_true h
  rwa [lim_eq] at q
theorem op_bin (op : Operator) : ∃ r : R2, OpR X (binaryOp op) r ∧ ∀ x y v u H0 S H σ Q, Same S H → RRd X.K H0 S H v x → RRd X.K H0 S H u y → Pst ct W σ S H (RSh X.K) Q (binD op x y) → r v u H Q := by
  have none_ : ∃ r : R2, OpR X (binaryOp op) r ∧ ∀ v u H Q, r v u H Q ↔ False := ⟨fun _ _ _ _ => False, fun _ _ _ _ _ _ _ _ _ _ _ _ h => h.elim, fun _ _ _ _ => Iff.rfl⟩
  cases op with
  | Add =>
    refine ⟨_, OpR.or (OpR.or op_add op_add_str) op_catA, fun x y v u H0 S H σ Q sm hx hy hp => ?_⟩
    cases x with
    | int i =>
      cases y with
      | int j => exact .inl (.inl ⟨i, j, rd_int hx, rd_int hy, hp _ S H (Ext.refl sm) (.int _)⟩)
      | _ => exact hp.elim
    | str a =>
      cases y with
      | str b =>
        obtain ⟨h1, h2⟩ := pst_guard hp
        exact .inl (.inr ⟨a, b, rd_str hx, rd_str hy, lim_le h1, h2 _ S H (Ext.refl sm) (.str _)⟩)
      | _ => exact hp.elim
    | tuple a =>
      cases y with
      | tuple b =>
        obtain ⟨h1, h2⟩ := pst_guard hp
        obtain ⟨p, xs, rfl, s1, d1⟩ := rd_tup hx
        obtain ⟨q, ys, rfl, s2, d2⟩ := rd_tup hy
        refine .inr ⟨p, q, xs, ys, rfl, rfl, same_t sm s1, same_t sm s2, by rw [dps_len d1, dps_len d2]; exact lim_le h1, fun e => ?_, fun _ e => ?_, fun _ _ l hl => ?_⟩
        · subst e
          have e2 : a = [] := by
            have := dps_len d1
            exact List.length_eq_zero_iff.mp this.symm
          subst e2
          exact h2 _ S H (Ext.refl sm) (.tup s2 d2)
        · subst e
          have e2 : b = [] := by
            have := dps_len d2
            exact List.length_eq_zero_iff.mp this.symm
          subst e2
          rw [List.append_nil] at h2
          exact h2 _ S H (Ext.refl sm) (.tup s1 d1)
        · have x := Ext.laid (o := HO.tup (xs ++ ys)) sm hl
          exact h2 _ _ _ x (.tup (SqT.of upd_same) (dps_append (dps_mono x.s _ _ d1) (dps_mono x.s _ _ d2)))
      | _ => exact hp.elim
    | _ => exact hp.elim
  | Sub =>
    refine ⟨_, op_sub, fun x y v u H0 S H σ Q sm hx hy hp => ?_⟩
    cases x with
    | int i =>
      cases y with
      | int j => exact ⟨i, j, rd_int hx, rd_int hy, hp _ S H (Ext.refl sm) (.int _)⟩
      | _ => exact hp.elim
    | str a => cases y <;> exact hp.elim
    | tuple a => cases y <;> exact hp.elim
    | _ => exact hp.elim
  | Mult =>
    refine ⟨_, OpR.or op_mul op_mulW, fun x y v u H0 S H σ Q sm hx hy hp => ?_⟩
    cases x with
    | int i =>
      cases y with
      | int j =>
        obtain ⟨h1, h2⟩ := pst_guard hp
        unfold mulOk at h1
        rw [Bool.or_eq_true] at h1
        rcases h1 with h1 | h1
        · have z := of_decide_eq_true h1
          exact .inl ⟨i, j, rd_int hx, rd_int hy, z, h2 _ S H (Ext.refl sm) (.int _)⟩
        · have z := of_decide_eq_true h1
          exact .inr ⟨i, j, rd_int hx, rd_int hy, z, h2 _ S H (Ext.refl sm) (.int _)⟩
      | _ => exact hp.elim
    | str a => cases y <;> exact hp.elim
    | tuple a => cases y <;> exact hp.elim
    | _ => exact hp.elim
  | FloorDiv =>
    refine ⟨_, op_fdivW, fun x y v u H0 S H σ Q sm hx hy hp => ?_⟩
    cases x with
    | int i =>
      cases y with
      | int j =>
        obtain ⟨h1, h2⟩ := pst_guard hp
        have z := of_decide_eq_true h1
        exact ⟨i, j, rd_int hx, rd_int hy, z, h2 _ S H (Ext.refl sm) (.int _)⟩
      | _ => exact hp.elim
    | str a => cases y <;> exact hp.elim
    | tuple a => cases y <;> exact hp.elim
    | _ => exact hp.elim
  | Mod =>
    refine ⟨_, op_mod, fun x y v u H0 S H σ Q sm hx hy hp => ?_⟩
    cases x with
    | int i =>
      cases y with
      | int j =>
        obtain ⟨h1, h2⟩ := pst_guard hp
        have z := of_decide_eq_true h1
        exact ⟨i, j, rd_int hx, rd_int hy, z, h2 _ S H (Ext.refl sm) (.int _)⟩
      | _ => exact hp.elim
    | str a => cases y <;> exact hp.elim
    | tuple a => cases y <;> exact hp.elim
    | _ => exact hp.elim
  | Pow =>
    refine ⟨_, OpR.or op_pow (opI (fun _ _ _ _ _ _ _ hc q => PyProof.Rows.pow_int hc.1 hc.2 q) : OpR X (binaryOp .Pow) (rI (fun i j => 0 ≤ j ∧ (Builtin.Int.intBits i : Int) * j ≤ 2 ^ 27) fun i j => .int (i ^ j.toNat))), fun x y v u H0 S H σ Q sm hx hy hp => ?_⟩
    cases x with
    | int i =>
      cases y with
      | int j =>
        obtain ⟨h1, h2⟩ := pst_guard hp
        rw [Bool.or_eq_true] at h1
        rcases h1 with h1 | h1
        · have z := of_decide_eq_true h1
          exact .inl ⟨i, j, rd_int hx, rd_int hy, z, h2 _ S H (Ext.refl sm) (.int _)⟩
        · have z := of_decide_eq_true h1
          exact .inr ⟨i, j, rd_int hx, rd_int hy, z, h2 _ S H (Ext.refl sm) (.int _)⟩
      | _ => exact hp.elim
    | str a => cases y <;> exact hp.elim
    | tuple a => cases y <;> exact hp.elim
    | _ => exact hp.elim
  | RShift =>
    refine ⟨_, op_shr, fun x y v u H0 S H σ Q sm hx hy hp => ?_⟩
    cases x with
    | int i =>
      cases y with
      | int j =>
        obtain ⟨h1, h2⟩ := pst_guard hp
        have z := of_decide_eq_true h1
        exact ⟨i, j, rd_int hx, rd_int hy, z, h2 _ S H (Ext.refl sm) (.int _)⟩
      | _ => exact hp.elim
    | str a => cases y <;> exact hp.elim
    | tuple a => cases y <;> exact hp.elim
    | _ => exact hp.elim
  | _ =>
    obtain ⟨r, ho, hr⟩ := none_
    refine ⟨r, ho, fun x y v u H0 S H σ Q sm hx hy hp => ?_⟩
    cases x <;> first | exact hp.elim | (cases y <;> exact hp.elim)
theorem snd_bin {op : Operator} {a b : E} {x y : Expr} {pos : Pos} (ha : Snd X ct Γ W a x) (hb : Snd X ct Γ W b y) : Snd X ct Γ W (.bin op a b) (.BinOp x op y pos) := by
  obtain ⟨ta, pa, _, ra, _⟩ := ha.pe
  obtain ⟨tb, pb, _, rb, _⟩ := hb.pe
  obtain ⟨r, ho, hr⟩ := op_bin (X := X) (ct := ct) (W := W) op
  exact Snd.plain (pe_op ho pa pb) (ev2 ra rb mn_sh (fun _ _ _ _ _ _ _ x q => rd_ext x q) mn_rd hr) (fun _ => rfl) rfl (fun _ => rfl) (fun _ _ _ q => by cases q) rfl
end
end Rf

/-! Rf: reflection. Part EA: tuples are compared; the greatest; sorted. -/
namespace Rf
open PySem L2
open PySem.W (alike dataLt maxD dataLe EachIs)
variable [PWd]
theorem ord_ok {x y : D} (h : ordOk x y = true) : alike x y = true ∧ x.depth ≤ 8 ∧ y.depth ≤ 8 ∧ alike x x = true ∧ alike y y = true := by
  unfold ordOk at h
  rw [Bool.and_eq_true, Bool.and_eq_true, Bool.and_eq_true, Bool.and_eq_true] at h
  exact ⟨h.1.1.1.1, of_decide_eq_true h.1.1.1.2, of_decide_eq_true h.1.1.2, h.1.2, h.2⟩
theorem ord_sym {x y : D} (h : ordOk x y = true) : ordOk y x = true := by
  obtain ⟨h1, h2, h3, h4, h5⟩ := ord_ok h
  unfold ordOk
  rw [PySem.W.alike_comm, h1, h4, h5, decide_eq_true h2, decide_eq_true h3]
  rfl
theorem tup_none {a : List D} : (PyData.tuple a) ≠ .none := fun e => nomatch e
section
variable {X : Cx}
/-! ### <, <= -/
def rOrd (X : Cx) (g : D → D → Bool) : R2 := fun x y H Q => ∃ a b, Dp X.K H x (.tuple a) ∧ Dp X.K H y (.tuple b) ∧ ordOk (.tuple a) (.tuple b) = true ∧ Q (.bl (g (.tuple a) (.tuple b))) H
theorem min_room {u a b : Nat} (h1 : a ≤ 8) (hu : u + 64 < cLine) : u + min a b < cLine := by
  have := Nat.min_le_left a b
  omega
theorem op_ltT (hu : X.A.units + 64 < cLine) : OpR X (compareOp .Lt) (rOrd X fun x y => dataLt x y) := by
  intro pins s σ H x y v u Q I rx ry h
  obtain ⟨a, b, h1, h2, ho, q⟩ := h
  obtain ⟨as, ra⟩ := Dp.reads I _ _ _ h1 rx
  obtain ⟨bs, rb⟩ := Dp.reads I _ _ _ h2 ry
  obtain ⟨o1, o2, o3, o4, o5⟩ := ord_ok ho
  exact PySem.W.lt_data ra rb o1 tup_none (min_room o2 hu) ⟨.bl _, H, I, rfl, q⟩
theorem op_gtT (hu : X.A.units + 64 < cLine) : OpR X (compareOp .Gt) (rOrd X fun x y => dataLt y x) := by
  intro pins s σ H x y v u Q I rx ry h
  obtain ⟨a, b, h1, h2, ho, q⟩ := h
  obtain ⟨as, ra⟩ := Dp.reads I _ _ _ h1 rx
  obtain ⟨bs, rb⟩ := Dp.reads I _ _ _ h2 ry
  obtain ⟨o1, o2, o3, o4, o5⟩ := ord_ok ho
  exact PySem.W.gt_data ra rb o1 tup_none (min_room o2 hu) ⟨.bl _, H, I, rfl, q⟩
theorem op_leT' (hu : X.A.units + 64 < cLine) : OpR X (compareOp .LtE) (rOrd X fun x y => !dataLt y x) := by
  intro pins s σ H x y v u Q I rx ry h
  obtain ⟨a, b, h1, h2, ho, q⟩ := h
  obtain ⟨as, ra⟩ := Dp.reads I _ _ _ h1 rx
  obtain ⟨bs, rb⟩ := Dp.reads I _ _ _ h2 ry
  obtain ⟨o1, o2, o3, o4, o5⟩ := ord_ok ho
  exact PySem.W.le_data ra rb o1 tup_none (min_room o2 hu) ⟨.bl _, H, I, rfl, q⟩
theorem op_geT' (hu : X.A.units + 64 < cLine) : OpR X (compareOp .GtE) (rOrd X fun x y => !dataLt x y) := by
  intro pins s σ H x y v u Q I rx ry h
  obtain ⟨a, b, h1, h2, ho, q⟩ := h
  obtain ⟨as, ra⟩ := Dp.reads I _ _ _ h1 rx
  obtain ⟨bs, rb⟩ := Dp.reads I _ _ _ h2 ry
  obtain ⟨o1, o2, o3, o4, o5⟩ := ord_ok ho
  exact PySem.W.ge_data ra rb o1 tup_none (min_room o2 hu) ⟨.bl _, H, I, rfl, q⟩
end
/-! ### the greater of two -/
section
open PyProof.Rows
variable {prog : Program} {w : World} {A : Around} {E : Value → Shared → Prop} {s : Shared}
theorem max_two_data {a b : Value} {da db : PyData} {as bs : List Addr} {Q : Value → Shared → Prop} (hh : A.handled = none) (ra : Reads s.heap a da as) (rb : Reads s.heap b db bs) (hal : PySem.W.AlikeAll [da, db]) (hu : A.units + 1 + PyData.depthAll [da, db] < cLine)
    (h : ∀ h' tk, (∀ c o, s.heap.get? c = some o → h'.get? c = some o) → Q (if dataLt da db = true then b else a) { s with heap := h', toks := tk }) :
    wpAny (model prog w) A (call (.builtin "max") [a, b]) Q E s := by
  have hname : (toString "max" ++ toString ".loop" : String) = "max.loop" := by decide
  refine call_function_tree F.kind_max F.plain_max F.entry_max (F.args_max2 _ _) ?_
  show wpAny _ A.in1 (Builtin.Builtins.bindParams "max" ["key", "default"] 0 ⟨[], []⟩ >>= _) _ _ s
  refine wpAny_bind (wpAny_of_eq (show Builtin.Builtins.bindParams "max" ["key", "default"] 0 ⟨[], []⟩ = pure [none, none] from rfl) ?_)
  show wpAny _ A.in1 (newTuple [a, b] >>= _) _ _ s
  refine wpAny_bind (wpAny_newObj_type ?_)
  have hT : (s.heap.push { cls := .type "tuple", data := .seq #[a, b] }).IsTuple s.heap.objs.size #[a, b] := ⟨_, Heap.get?_push_size _ rfl, rfl, 0, rfl⟩
  have kp : ∀ c o, s.heap.get? c = some o → (s.heap.push { cls := .type "tuple", data := .seq #[a, b] }).get? c = some o := fun c o e => Heap.get?_push_of_some _ e
  have hr : ReadsAll (s.heap.push { cls := .type "tuple", data := .seq #[a, b] }) (#[a, b] : Array Value).toList [da, db] (as ++ (bs ++ [])) := .cons (Reads.keeps kp ra) (.cons (Reads.keeps kp rb) .nil)
  refine wpAny_bind (PySem.W.iter_tupleW (A := A.in1) (s := { s with heap := s.heap.push { cls := .type "tuple", data := .seq #[a, b] } }) hh hT fun s₂ e W st hfp hw hk => ?_)
  refine wpAny_bind (wpAny_newObj_type ?_)
  have hSf : s₂.heap.objs.size ∉ [_, s.heap.objs.size] := fun hm => Nat.lt_irrefl _ (hfp _ hm)
  rw [hname]
  refine wpAny_pure ⟨plainId_quiet F.plain_max_loop _, codeAny_max_loop_firstH W (s.heap.push { cls := .type "tuple", data := .seq #[a, b] }) hw _ (PySem.W.cmpIn_gt (A := A.in1) (s := { s with heap := s.heap.push { cls := .type "tuple", data := .seq #[a, b] } }) hr hal (by show A.units + 1 + _ < _; exact hu)) s₂.heap.objs.size hSf (fresh_in hk) _ (show 0 < 2 by decide) (fun b o e => Heap.get?_push_of_some _ (hk b o e)) (W.frame 0 s₂ _ s₂.toks st (Nat.le_refl _) fun b _ o e => Heap.get?_push_of_some _ e) (Heap.get?_push_size _ rfl) fun v s' hP hm => ?_⟩
  have m := Moved.drop_new (tk := s₂.toks) hm (Nat.le_refl _)
  obtain ⟨h', tk, rfl, hk'⟩ := PySem.W.moved_old e rfl m
  have hv : v = if dataLt da db = true then b else a := by
    have e1 : (#[a, b] : Array Value)[argBest (fun i j => dataLt ([da, db].getD j .none) ([da, db].getD i .none)) 1]? = some v := hP
    by_cases c : dataLt da db = true
    · have e2 : argBest (fun i j => dataLt ([da, db].getD j .none) ([da, db].getD i .none)) 1 = 1 := by simp [argBest, c]
      rw [e2] at e1
      rw [if_pos c]
      exact (Option.some.inj e1).symm
    · have e2 : argBest (fun i j => dataLt ([da, db].getD j .none) ([da, db].getD i .none)) 1 = 0 := by simp [argBest, c]
      rw [e2] at e1
      rw [if_neg c]
      exact (Option.some.inj e1).symm
  rw [hv]
  exact h h' tk fun c o e => hk' c o (kp c o e)
end
section
variable {X : Cx}
def rMaxT2 (X : Cx) : List V → Hp → VK → Prop := fun vs H Q => ∃ x y a b, vs = [x, y] ∧ Dp X.K H x (.tuple a) ∧ Dp X.K H y (.tuple b) ∧ ordOk (.tuple a) (.tuple b) = true ∧ Q (if dataLt (.tuple a) (.tuple b) = true then y else x) H
theorem cr_maxT2 (hc : X.calm = true) (hu : X.A.units + 64 < cLine) : CallR X (.builtin "max") (rMaxT2 X) := by
  intro pins s σ H vs us Q I r h
  obtain ⟨x, y, a, b, rfl, h1, h2, ho, q⟩ := h
  obtain ⟨u, w, rfl, rx, ry⟩ := vals2 r
  obtain ⟨as, ra⟩ := Dp.reads I _ _ _ h1 rx
  obtain ⟨bs, rb⟩ := Dp.reads I _ _ _ h2 ry
  obtain ⟨o1, o2, o3, o4, o5⟩ := ord_ok ho
  refine max_two_data (I.ok.hd hc) ra rb ⟨fun x hx y hy => ?_, fun x hx => ?_⟩ ?_ fun h' tk k => ⟨_, H, I.kept k, ?_, q⟩
  · simp at hx hy
    rcases hx with rfl | rfl <;> rcases hy with rfl | rfl
    · exact o4
    · exact o1
    · rw [PySem.W.alike_comm]; exact o1
    · exact o5
  · simp at hx
    rcases hx with rfl | rfl <;> exact tup_none
  · show X.A.units + 1 + max (PyData.tuple a).depth (max (PyData.tuple b).depth 0) < cLine
    have : max (PyData.tuple a).depth (max (PyData.tuple b).depth 0) ≤ 8 := Nat.max_le.mpr ⟨o2, Nat.max_le.mpr ⟨o3, Nat.zero_le _⟩⟩
    omega
  · by_cases c : dataLt (.tuple a) (.tuple b) = true
    · rw [if_pos c, if_pos c]; exact ry
    · rw [if_neg c, if_neg c]; exact rx
theorem maxD_mem : ∀ {r : List D} {d : D}, maxD d r ∈ d :: r
  | [], d => List.mem_cons_self
  | e :: r, d => by
    have h : maxD d (e :: r) = maxD (if dataLt d e then e else d) r := rfl
    rw [h]
    have m := maxD_mem (r := r) (d := if dataLt d e then e else d)
    rcases List.mem_cons.mp m with q | q
    · rw [q]
      split
      · exact List.mem_cons_of_mem _ List.mem_cons_self
      · exact List.mem_cons_self
    · exact List.mem_cons_of_mem _ (List.mem_cons_of_mem _ q)
theorem all_ord {ds : List D} (h : allOrd ds = true) : (∀ a ∈ ds, isTupN a = true ∧ a.depth ≤ 8) ∧ ∀ a ∈ ds, ∀ b ∈ ds, alike a b = true := by
  unfold allOrd at h
  have h := List.all_eq_true.mp h
  refine ⟨fun a ha => ?_, fun a ha b hb => ?_⟩
  · have q := h a ha
    rw [Bool.and_eq_true, Bool.and_eq_true] at q
    exact ⟨q.1.1, of_decide_eq_true q.1.2⟩
  · have q := h a ha
    rw [Bool.and_eq_true] at q
    exact List.all_eq_true.mp q.2 b hb
theorem tupN_ex {a : D} (h : isTupN a = true) : ∃ x r, a = .tuple (x :: r) := by
  unfold isTupN at h
  split at h
  · exact ⟨_, _, rfl⟩
  · cases h
theorem depth_all : ∀ {ds : List D}, (∀ a ∈ ds, a.depth ≤ 8) → PyData.depthAll ds ≤ 8
  | [], _ => Nat.zero_le _
  | d :: ds, h => by
    show max d.depth (PyData.depthAll ds) ≤ 8
    exact Nat.max_le.mpr ⟨h d List.mem_cons_self, depth_all fun a ha => h a (List.mem_cons_of_mem _ ha)⟩
theorem vals_atV : ∀ {xs : List V} {us : List Value} {i : Nat} {u : Value}, Vals xs us → us[i]? = some u → ∃ x, xs[i]? = some x ∧ RelV x u
  | [], _, _, _, r, e => by cases r; simp at e
  | x :: xs, _, 0, _, r, e => by
    cases r with
    | cons r1 r2 =>
      simp at e; subst e
      exact ⟨x, rfl, r1⟩
  | x :: xs, _, i + 1, _, r, e => by
    cases r with
    | cons r1 r2 =>
      obtain ⟨y, a, b⟩ := vals_atV (i := i) r2 (by simpa using e)
      exact ⟨y, by simpa using a, b⟩
def rMaxT1 (X : Cx) : List V → Hp → VK → Prop := fun vs H Q => ∃ a xs d r, vs = [.ref a] ∧ SqL X.K H a xs ∧ DpAll X.K H xs (d :: r) ∧ allOrd (d :: r) = true ∧ ∀ (i : Nat) x, xs[i]? = some x → (d :: r)[i]? = some (maxD d r) → Q x H
theorem cr_maxT1 (hc : X.calm = true) (hu : X.A.units + 64 < cLine) : CallR X (.builtin "max") (rMaxT1 X) := by
  intro pins s σ H vs us Q I r0 h
  obtain ⟨a, xs, d, r, rfl, hs, hd, ho, q⟩ := h
  rw [Vals.ref1 r0]
  obtain ⟨its, rv, hl, hz⟩ := I.list hs
  obtain ⟨as, rs⟩ := Dp.readsAll I _ _ _ hd rv
  obtain ⟨o1, o2⟩ := all_ord ho
  refine PySem.W.max_list_data (I.ok.hd hc) hl.isList (by simpa using rs) ⟨o2, fun x hx => ?_⟩ ?_ fun i v h' tk bs e1 r1 k => ?_
  · obtain ⟨y, z, rfl⟩ := tupN_ex (o1 x hx).1
    exact tup_none
  · have := depth_all fun a ha => (o1 a ha).2
    omega
  · have e1 : its[i]? = some v := by simpa using e1
    obtain ⟨x, ex, rx⟩ := vals_atV rv e1
    obtain ⟨di, ei, hi⟩ := dps_atV hd ex
    obtain ⟨cs, r2⟩ := Dp.reads I _ _ _ hi rx
    have e : di = maxD d r := PySem.W.alike_unique _ _ _ _ _ (o2 _ (List.mem_of_getElem? ei) _ maxD_mem) (PyProof.Rows.Reads.keeps k r2) r1
    exact ⟨x, H, I.kept k, rx, q i x ex (by rw [ei, e])⟩
/-! ### sorted -/
def rSorted (X : Cx) : List V → Hp → VK → Prop := fun vs H Q => ∃ a xs ds, vs = [.ref a] ∧ SqL X.K H a xs ∧ DpAll X.K H xs ds ∧ allOrd ds = true ∧ ds.length ≤ sizeLine ∧
  ∀ q ys, H q = none → (∀ S, DpAll X.K S xs ds → DpAll X.K S ys (ds.mergeSort (dataLe false id))) → Q (.ref q) (upd H q (.lst ys))
theorem each_zip {K : PySem.W.Frag} {H : Hp} : ∀ {xs : List V} {ds : List D} {us : List Value}, DpAll K H xs ds → Vals xs us → EachIs (fun v (b : V × D) => RelV b.1 v) us (xs.zip ds)
  | [], _, _, h, r => by cases h; cases r; exact .nil
  | x :: xs, _, _, h, r => by
    cases h with
    | cons h1 h2 =>
      cases r with
      | cons r1 r2 => exact .cons r1 (each_zip h2 r2)
theorem each_reads {pins : List (Addr × Obj)} {s : Shared} {σ : L2.St} {H : Hp} (I : Inv X pins σ H s) : ∀ {xs : List V} {ds : List D} {us : List Value}, DpAll X.K H xs ds → Vals xs us → EachIs (fun v (b : V × D) => ∃ as, Reads s.heap v b.2 as) us (xs.zip ds)
  | [], _, _, h, r => by cases h; cases r; exact .nil
  | x :: xs, _, _, h, r => by
    cases h with
    | cons h1 h2 =>
      cases r with
      | cons r1 r2 => exact .cons (Dp.reads I _ _ _ h1 r1) (each_reads I h2 r2)
theorem zip_snd {K : PySem.W.Frag} {H : Hp} : ∀ {xs : List V} {ds : List D}, DpAll K H xs ds → (xs.zip ds).map Prod.snd = ds
  | [], _, h => by cases h; rfl
  | x :: xs, _, h => by
    cases h with
    | cons h1 h2 =>
      rw [List.zip_cons_cons, List.map_cons, zip_snd h2]
theorem dps_zip {K : PySem.W.Frag} {H : Hp} : ∀ {xs : List V} {ds : List D}, DpAll K H xs ds → ∀ p ∈ xs.zip ds, Dp K H p.1 p.2
  | [], _, h, p, hp => by cases h; cases hp
  | x :: xs, _, h, p, hp => by
    cases h with
    | cons h1 h2 =>
      rw [List.zip_cons_cons] at hp
      rcases List.mem_cons.mp hp with e | e
      · subst e; exact h1
      · exact dps_zip h2 p e
theorem dps_pairs {K : PySem.W.Frag} {H : Hp} : ∀ {l : List (V × D)}, (∀ p ∈ l, Dp K H p.1 p.2) → DpAll K H (l.map Prod.fst) (l.map Prod.snd)
  | [], _ => .nil
  | p :: l, h => .cons (h p List.mem_cons_self) (dps_pairs fun q hq => h q (List.mem_cons_of_mem _ hq))
theorem vals_each : ∀ {us : List Value} {l : List (V × D)}, EachIs (fun v (b : V × D) => RelV b.1 v) us l → Vals (l.map Prod.fst) us
  | _, _, .nil => .nil
  | _, _, .cons h t => .cons h (vals_each t)
theorem cr_sorted (hu : X.A.units + 64 < cLine) : CallR X (.builtin "sorted") (rSorted X) := by
  intro pins s σ H vs us Q I r0 h
  obtain ⟨a, xs, ds, rfl, hs, hd, ho, hl64, q⟩ := h
  rw [Vals.ref1 r0]
  obtain ⟨its, rv, hl, hz⟩ := I.list hs
  obtain ⟨o1, o2⟩ := all_ord ho
  have ez := zip_snd hd
  have hlen : (xs.zip ds).length = ds.length := by
    rw [← List.length_map (f := Prod.snd), ez]
  refine PySem.W.sorted_data (vs := its) (bs := xs.zip ds) (enc := Prod.snd) (R := fun v (b : V × D) => RelV b.1 v) hl.isList (each_zip hd rv) (each_reads I hd rv) ?_ ?_ (by rw [hlen]; exact hl64) (fun b hb => ?_) fun out e1 e2 => ?_
  · rw [ez]; exact o2
  · rw [ez]; exact .inl fun d hd' => tupN_ex (o1 d hd').1
  · have : b.2.depth ≤ 8 := (o1 b.2 (by rw [← ez]; exact List.mem_map.mpr ⟨b, hb, rfl⟩)).2
    omega
  · obtain ⟨n, hn⟩ := PyProof.Rows.sortedAll_at s.heap its (List.toArray out)
    have hms : ((xs.zip ds).mergeSort (dataLe false Prod.snd)).map Prod.snd = ds.mergeSort (dataLe false id) := by
      refine (List.map_mergeSort (r := dataLe false Prod.snd) (s := dataLe false id) (f := Prod.snd) (l := xs.zip ds) (fun a _ b _ => rfl)).trans ?_
      rw [ez]
    refine ⟨.ref (s.heap.objs.size + 1), upd H (s.heap.objs.size + 1) (.lst (((xs.zip ds).mergeSort (dataLe false Prod.snd)).map Prod.fst)), I.laid (t' := s.toks) (fun b u e => PyProof.Rows.sortedAll_old e) (Nat.le_succ _) ⟨?_, out, n, vals_each e2, hn⟩, rfl, q _ _ (I.hok.fresh (Nat.le_succ _)) fun S hS => ?_⟩
    · rw [List.length_map, List.length_mergeSort, hlen]; exact hl64
    · rw [← hms]
      exact dps_pairs fun p hp => dps_zip hS p (List.mem_mergeSort.mp hp)
end
end Rf

/-! Rf: reflection. Part F: one theorem for each kind of expression, further. -/
namespace Rf
open PySem L2
variable [PWd]
section
variable {X : Cx} {ct : Str → Option Addr} {k : Nat} {Γ : Ctx} {N : List Str} {sc : Scope} {W : WX} {te ta tb tc : TE} {f fa fb fc : Sl → Res D} {e a b c : E} {t x y z : Expr} {pos : Pos}
theorem tv_rd (h : EvP X ct W te (RRd X.K) f) : TvP X ct W (tB te) f := fun S H σ ρ Q r hp => by
  refine h S H σ ρ _ r ?_
  cases q : f ρ with
  | ok d =>
    rw [q] at hp
    intro v S1 H1 x z
    cases d with
    | bool b => exact ⟨b, rd_bl z, hp S1 H1 x⟩
    | _ => exact False.elim hp
  | exc z => rw [q] at hp; exact hp
  | bad => rw [q] at hp; exact hp
theorem snd_var (s : Stc X ct k Γ N sc W) {i : Nat} {n : Str} (h1 : N[i]? = some n) (h2 : visB sc n = true) (h3 : nmOk n = true) : Snd X ct Γ W (.var i) (.Name n pos) := by
  have hp : PE X (.Name n pos) (tVar i) := pe_var (by rw [s.hN]; exact h1) (s.vis h2) (nm_of h3).1 (nm_of h3).2.1
  have hr : EvP X ct W (tVar i) (RRd X.K) (ev Γ (.var i) true) := fun S H σ ρ Q r hp => by
    have hp : Pst ct W σ S H (RRd X.K) Q (slot true ρ i) := hp
    unfold slot at hp
    cases q : ρ[i]? with
    | none => rw [q] at hp; exact hp.elim
    | some u =>
      rw [q] at hp
      cases u with
      | un => exact hp.elim
      | dic _ => exact hp.elim
      | sh d =>
        obtain ⟨v, e1, e2⟩ := r.sh q
        exact ⟨v, e1, hp v S H (Ext.refl r.sub) (rd_of_sh (H0 := H) r.sub e2)⟩
      | own ds =>
        obtain ⟨p, xs, e1, e2, e3, e4⟩ := r.own q
        exact ⟨_, e1, hp _ S H (Ext.refl r.sub) ⟨p, xs, rfl, SqL.of e2, e4⟩⟩
  refine ⟨⟨_, hp, fun S H σ ρ Q r hp => ?_, hr, fun _ S H σ ρ Q r hp => ?_, fun q => by cases q⟩, fun _ => ⟨_, pt_val hp, tv_rd hr, fun _ _ _ q => by cases q⟩⟩
  · have hp : Pst ct W σ S H (RSh X.K) Q (slot false ρ i) := hp
    unfold slot at hp
    cases q : ρ[i]? with
    | none => rw [q] at hp; exact hp.elim
    | some u =>
      rw [q] at hp
      cases u with
      | un => exact hp.elim
      | dic _ => exact hp.elim
      | sh d =>
        obtain ⟨v, e1, e2⟩ := r.sh q
        exact ⟨v, e1, hp v S H (Ext.refl r.sub) e2⟩
      | own ds => exact hp.elim
  · have hp : Pst ct W σ S H (RLs X.K) Q (slotOwn ρ i) := hp
    unfold slotOwn at hp
    cases q : ρ[i]? with
    | none => rw [q] at hp; exact hp.elim
    | some u =>
      rw [q] at hp
      cases u with
      | un => exact hp.elim
      | dic _ => exact hp.elim
      | sh d => exact hp.elim
      | own ds =>
        obtain ⟨p, xs, e1, e2, e3, e4⟩ := r.own q
        exact ⟨_, e1, hp _ S H (Ext.refl r.sub) ⟨p, xs, ds, rfl, rfl, e2, e4⟩⟩
theorem dp_flat {K : PySem.W.Frag} {S : Hp} {d : D} {v : V} (h : flatD d = some v) : Dp K S v d := by
  cases d <;> cases h
  · exact .non
  · exact .bl _
  · exact .int _
  · exact .str _
theorem snd_glob (s : Stc X ct k Γ N sc W) {j : Nat} {n : Str} {d : D} (h1 : Γ.globs[j]? = some (n, d)) (h2 : glB sc n = true) (h3 : nmOk n = true) : Snd X ct Γ W (.glob j) (.Name n pos) := by
  obtain ⟨u, v, m, r, q⟩ := s.globs _ (List.mem_of_getElem? h1)
  refine Snd.plain (pe_glob (s.gl h2) m r (nm_of h3).1) (fun S H σ ρ Q r hp => ?_) (fun _ => rfl) rfl (fun _ => rfl) (fun _ _ _ q => by cases q) rfl
  have hp : Pst ct W σ S H (RSh X.K) Q (match Γ.globs[j]? with
    | some p => .ok p.2
    | none => .bad) := hp
  rw [h1] at hp
  exact hp v S H (Ext.refl r.sub) (dp_flat q)
theorem snd_cst {cc : Const} {j : Nat} : Snd X ct Γ W (.cst cc) (.Constant cc j pos) := by
  have no : ∀ te, PE X (.Constant cc j pos) te → EvP X ct W te (RSh X.K) (ev Γ (.cst cc) false) → Snd X ct Γ W (.cst cc) (.Constant cc j pos) := fun te h1 h2 =>
    Snd.plain h1 h2 (fun _ => rfl) rfl (fun _ => rfl) (fun _ _ _ q => by cases q) rfl
  have bad_ : (∀ ρ, ev Γ (.cst cc) false ρ = .bad) → Snd X ct Γ W (.cst cc) (.Constant cc j pos) := fun hb =>
    no (fun _ _ _ => False) ⟨fun _ _ _ _ _ _ q => q.elim⟩ fun S H σ ρ Q r hp => by rw [hb ρ] at hp; exact hp
  cases cc with
  | none => exact no _ pe_non fun S H σ ρ Q r hp => hp _ S H (Ext.refl r.sub) .non
  | bool b => exact no _ pe_bl fun S H σ ρ Q r hp => hp _ S H (Ext.refl r.sub) (.bl b)
  | int i => exact no _ pe_int fun S H σ ρ Q r hp => hp _ S H (Ext.refl r.sub) (.int i)
  | str i => exact no _ pe_str fun S H σ ρ Q r hp => hp _ S H (Ext.refl r.sub) (.str i)
  | _ => exact bad_ fun _ => rfl
theorem snd_cat (la : lstE a = true) (lb : lstE b = true) (ha : Snd X ct Γ W a x) (hb : Snd X ct Γ W b y) : Snd X ct Γ W (.cat a b) (.BinOp x .Add y pos) := by
  obtain ⟨ta, pa, _, _, ra, _⟩ := ha.pe
  obtain ⟨tb, pb, _, _, rb, _⟩ := hb.pe
  refine Snd.new (pe_op op_cat pa pb) (ev2 (g := catD) (ra la) (rb lb) mn_fr (fun _ _ _ _ _ _ _ x q => ls_ext x q) mn_ls ?_) (fun _ => rfl) (fun _ _ => rfl) (fun _ => rfl) (fun _ _ _ q => by cases q)
  intro u w v1 v2 H0 S H σ Q sm hx hy hp
  obtain ⟨p, xs, ds, rfl, rfl, h1, h2⟩ := hx
  obtain ⟨q, ys, es, rfl, rfl, h3, h4⟩ := hy
  obtain ⟨g1, g2⟩ := pst_guard hp
  refine ⟨p, q, xs, ys, rfl, rfl, h1, h3, by rw [dps_len h2, dps_len h4]; exact lim_le g1, fun l hl => ?_⟩
  exact g2 _ S _ (Ext.made sm hl) ⟨l, _, _, rfl, rfl, upd_same, Same.free sm hl, hl, dps_append h2 h4⟩
theorem snd_neg (ha : Snd X ct Γ W a x) : Snd X ct Γ W (.neg a) (.UnaryOp .USub x pos) := by
  obtain ⟨ta, pa, _, ra, _⟩ := ha.pe
  refine Snd.plain (pe_un un_neg pa) (ev1 (g := negD) ra mn_sh ?_) (fun _ => rfl) rfl (fun _ => rfl) (fun _ _ _ q => by cases q) rfl
  intro u v H0 S H σ Q sm hx hp
  cases u with
  | int i => exact ⟨i, rd_int hx, hp _ S H (Ext.refl sm) (.int _)⟩
  | _ => exact hp.elim
theorem snd_not (la : tst a = true) (ha : Snd X ct Γ W a x) : Snd X ct Γ W (.not a) (.UnaryOp .Not x pos) := by
  obtain ⟨ta, pa, _, ra, _⟩ := ha.pe
  obtain ⟨tt, pt, qt, _⟩ := ha.pt la
  have h : EvP X ct W (tNotV ta) (RSh X.K) (ev Γ (.not a) false) := fun S H σ ρ Q rp hp => by
    refine ra.bind (k := notD) rp mn_sh hp fun u v S1 H1 _ e1 r1 rp1 hp1 => ?_
    cases u with
    | bool b => exact ⟨b, rd_bl r1, hp1 _ S1 H1 (Ext.refl rp1.sub) (.bl _)⟩
    | _ => exact hp1.elim
  refine ⟨⟨_, pe_not pa, h, h.rd, fun q => (by cases q), fun q => (by cases q)⟩, fun _ => ⟨_, pt_not pt, fun S H σ ρ Q rp hp => ?_, fun _ _ _ q => by cases q⟩⟩
  refine qt S H σ ρ _ rp ?_
  have hp : PstB ct W σ S H Q (ev Γ a true ρ >>= notD) := hp
  cases q : ev Γ a true ρ with
  | ok d =>
    rw [q] at hp
    cases d with
    | bool b => exact hp
    | _ => exact False.elim hp
  | exc z => rw [q] at hp; exact hp
  | bad => rw [q] at hp; exact hp

/-! ### comparisons -/
theorem sc_dec {K : PySem.W.Frag} {H0 S H : Hp} {d1 d2 : D} {v u p q : V} (h1 : RRd K H0 S H v d1) (h2 : RRd K H0 S H u d2) (e1 : flatD d1 = some p) (e2 : flatD d2 = some q) : v = p ∧ u = q := ⟨(flat_v h1 e1).1, (flat_v h2 e2).1⟩
/-- a comparison's rule; g: what it tells -/
def CmpR (X : Cx) (op : CmpOp) (g : D → D → Res Bool) : Prop := ∃ r : R2, OpR X (compareOp op) r ∧ ∀ x y v u H0 S H (Q : VK) b, Same S H → RRd X.K H0 S H v x → RRd X.K H0 S H u y → g x y = .ok b → Q (.bl b) H → r v u H Q
theorem eq_cases {d1 d2 : D} {b : Bool} (h : eqD d1 d2 = .ok b) : (∃ p q, flatD d1 = some p ∧ flatD d2 = some q ∧ scal p q = true ∧ b = decide (p = q)) ∨ (SeqAt.shaped d1 = true ∧ SeqAt.shaped d2 = true ∧ b = PyData.eqv d1 d2) := by
  have z : ∀ {r : Res Bool}, guard' (SeqAt.shaped d1 && SeqAt.shaped d2) (.ok (PyData.eqv d1 d2)) = .ok b → (SeqAt.shaped d1 = true ∧ SeqAt.shaped d2 = true ∧ b = PyData.eqv d1 d2) := fun q => by
    obtain ⟨q1, q2⟩ := guard_ok q
    rw [Bool.and_eq_true] at q1
    cases q2
    exact ⟨q1.1, q1.2, rfl⟩
  unfold eqD at h
  split at h
  · rename_i p e1
    split at h
    · rename_i q e2
      split at h
      · rename_i sc_
        cases h
        exact .inl ⟨p, q, e1, e2, sc_, rfl⟩
      · exact .inr (z (r := .bad) h)
    · exact .inr (z (r := .bad) h)
  · exact .inr (z (r := .bad) h)
theorem not_ok {r : Res Bool} {b : Bool} (h : (r >>= fun b => Res.ok (!b)) = .ok b) : ∃ b', r = .ok b' ∧ b = !b' := by
  cases r with
  | ok b' => cases h; exact ⟨b', rfl, rfl⟩
  | exc e => cases h
  | bad => cases h
theorem in_cases {d1 d2 : D} {b : Bool} (h : inD d1 d2 = .ok b) : (∃ ys p vs, (d2 = .list ys ∨ d2 = .tuple ys) ∧ flatD d1 = some p ∧ flatAll ys = some vs ∧ b = inV p vs) ∨ (∃ s z c, d1 = .str s ∧ d2 = .str z ∧ s.cps.toList = [c] ∧ b = decide (c ∈ z.cps.toList)) := by
  cases d2 with
  | list ys =>
    have h : (match flatD d1 with
      | some a => (match flatAll ys with
        | some vs => .ok (inV a vs)
        | none => .bad)
      | none => .bad : Res Bool) = .ok b := h
    cases e1 : flatD d1 with
    | none => rw [e1] at h; cases h
    | some p =>
      rw [e1] at h
      cases e2 : flatAll ys with
      | none => rw [e2] at h; cases h
      | some vs => rw [e2] at h; cases h; exact .inl ⟨ys, p, vs, .inl rfl, rfl, e2, rfl⟩
  | tuple ys =>
    have h : (match flatD d1 with
      | some a => (match flatAll ys with
        | some vs => .ok (inV a vs)
        | none => .bad)
      | none => .bad : Res Bool) = .ok b := h
    cases e1 : flatD d1 with
    | none => rw [e1] at h; cases h
    | some p =>
      rw [e1] at h
      cases e2 : flatAll ys with
      | none => rw [e2] at h; cases h
      | some vs => rw [e2] at h; cases h; exact .inl ⟨ys, p, vs, .inr rfl, rfl, e2, rfl⟩
  | str z =>
    cases d1 with
    | str s =>
      have h : (match s.cps.toList with
        | [c] => .ok (decide (c ∈ z.cps.toList))
        | _ => .bad : Res Bool) = .ok b := h
      split at h
      · cases h; exact .inr ⟨s, z, _, rfl, rfl, by assumption, rfl⟩
      · cases h
    | _ => cases h
  | _ => cases h
theorem seq_in {K : PySem.W.Frag} {H0 S H : Hp} {d1 d2 : D} {v u p : V} {ys : List D} {vs : List V} (sm : Same S H) (h1 : RRd K H0 S H v d1) (h2 : RRd K H0 S H u d2) (e : d2 = .list ys ∨ d2 = .tuple ys) (e1 : flatD d1 = some p) (e2 : flatAll ys = some vs) :
    v = p ∧ flatV p = true ∧ vs.all flatV = true ∧ ∃ a, u = .ref a ∧ (SqL K H a vs ∨ SqT K H a vs) := by
  obtain ⟨rfl, f⟩ := flat_v h1 e1
  rcases e with rfl | rfl
  · obtain ⟨a, xs, rfl, s, q⟩ := rd_lst h2
    obtain ⟨rfl, g⟩ := flat_all q e2
    exact ⟨rfl, f, g, a, rfl, .inl s⟩
  · obtain ⟨a, xs, rfl, s, q⟩ := rd_tup h2
    obtain ⟨rfl, g⟩ := flat_all q e2
    exact ⟨rfl, f, g, a, rfl, .inr (same_t sm s)⟩
theorem one_sign {s : Str} {c : Nat} (h : s.cps.toList = [c]) : s = ⟨#[c]⟩ := by
  cases s with
  | mk cps =>
    congr 1
    exact Array.toList_inj.mp h
theorem cmp_rule (hu : X.A.units + 64 < cLine) (op : CmpOp) : CmpR X op (cmpB op) := by
  cases op with
  | Eq =>
    refine ⟨_, OpR.or op_eq (op_eqD hu), fun d1 d2 v u H0 S H Q b sm h1 h2 hb q => ?_⟩
    rcases eq_cases hb with ⟨p, r, e1, e2, e3, rfl⟩ | ⟨e1, e2, rfl⟩
    · obtain ⟨rfl, rfl⟩ := sc_dec h1 h2 e1 e2
      exact .inl ⟨e3, q⟩
    · exact .inr ⟨d1, d2, dp_of_rd sm h1, dp_of_rd sm h2, e1, e2, q⟩
  | NotEq =>
    refine ⟨_, OpR.or op_ne (op_neD hu), fun d1 d2 v u H0 S H Q b sm h1 h2 hb q => ?_⟩
    obtain ⟨b', hb', rfl⟩ := not_ok hb
    rcases eq_cases hb' with ⟨p, r, e1, e2, e3, rfl⟩ | ⟨e1, e2, rfl⟩
    · obtain ⟨rfl, rfl⟩ := sc_dec h1 h2 e1 e2
      exact .inl ⟨e3, q⟩
    · exact .inr ⟨d1, d2, dp_of_rd sm h1, dp_of_rd sm h2, e1, e2, q⟩
  | Lt =>
    refine ⟨_, OpR.or (OpR.or op_lt op_lt_str) (op_ltT hu), fun d1 d2 v u H0 S H Q b sm h1 h2 hb q => ?_⟩
    cases d1 with
    | int i =>
      cases d2 with
      | int j => cases hb; exact .inl (.inl ⟨i, j, rd_int h1, rd_int h2, q⟩)
      | _ => cases hb
    | str i =>
      cases d2 with
      | str j => cases hb; exact .inl (.inr ⟨i, j, rd_str h1, rd_str h2, q⟩)
      | _ => cases hb
    | tuple i =>
      cases d2 with
      | tuple j =>
        obtain ⟨g1, g2⟩ := guard_ok hb
        cases g2
        exact .inr ⟨i, j, dp_of_rd sm h1, dp_of_rd sm h2, g1, q⟩
      | _ => cases hb
    | _ => cases hb
  | LtE =>
    refine ⟨_, OpR.or (OpR.or op_le op_le_str) (op_leT' hu), fun d1 d2 v u H0 S H Q b sm h1 h2 hb q => ?_⟩
    cases d1 with
    | int i =>
      cases d2 with
      | int j => cases hb; exact .inl (.inl ⟨i, j, rd_int h1, rd_int h2, q⟩)
      | _ => cases hb
    | str i =>
      cases d2 with
      | str j => cases hb; exact .inl (.inr ⟨i, j, rd_str h1, rd_str h2, q⟩)
      | _ => cases hb
    | tuple i =>
      cases d2 with
      | tuple j =>
        obtain ⟨g1, g2⟩ := guard_ok hb
        cases g2
        exact .inr ⟨i, j, dp_of_rd sm h1, dp_of_rd sm h2, g1, q⟩
      | _ => cases hb
    | _ => cases hb
  | Gt =>
    refine ⟨_, OpR.or (OpR.or op_gt op_gt_str) (op_gtT hu), fun d1 d2 v u H0 S H Q b sm h1 h2 hb q => ?_⟩
    cases d2 with
    | int i =>
      cases d1 with
      | int j => cases hb; exact .inl (.inl ⟨j, i, rd_int h1, rd_int h2, q⟩)
      | _ => cases hb
    | str i =>
      cases d1 with
      | str j => cases hb; exact .inl (.inr ⟨j, i, rd_str h1, rd_str h2, q⟩)
      | _ => cases hb
    | tuple i =>
      cases d1 with
      | tuple j =>
        obtain ⟨g1, g2⟩ := guard_ok hb
        cases g2
        exact .inr ⟨j, i, dp_of_rd sm h1, dp_of_rd sm h2, ord_sym g1, q⟩
      | _ => cases hb
    | _ => cases hb
  | GtE =>
    refine ⟨_, OpR.or (OpR.or op_ge op_ge_str) (op_geT' hu), fun d1 d2 v u H0 S H Q b sm h1 h2 hb q => ?_⟩
    cases d2 with
    | int i =>
      cases d1 with
      | int j => cases hb; exact .inl (.inl ⟨j, i, rd_int h1, rd_int h2, q⟩)
      | _ => cases hb
    | str i =>
      cases d1 with
      | str j => cases hb; exact .inl (.inr ⟨j, i, rd_str h1, rd_str h2, q⟩)
      | _ => cases hb
    | tuple i =>
      cases d1 with
      | tuple j =>
        obtain ⟨g1, g2⟩ := guard_ok hb
        cases g2
        exact .inr ⟨j, i, dp_of_rd sm h1, dp_of_rd sm h2, ord_sym g1, q⟩
      | _ => cases hb
    | _ => cases hb
  | Is =>
    refine ⟨_, op_isN, fun d1 d2 v u H0 S H Q b sm h1 h2 hb q => ?_⟩
    obtain ⟨g1, g2⟩ := guard_ok hb
    cases g2
    cases d2 with
    | none =>
      refine ⟨rd_non h2, ?_⟩
      have z : decide (v = .non) = isNone d1 := by
        cases d1 with
        | none => rw [rd_non h1]; rfl
        | bool b => rw [rd_bl h1]; rfl
        | int b => rw [rd_int h1]; rfl
        | str b => rw [rd_str h1]; rfl
        | list ds => obtain ⟨a, xs, rfl, _⟩ := rd_lst h1; rfl
        | tuple ds => obtain ⟨a, xs, rfl, _⟩ := rd_tup h1; rfl
        | dict z => cases (show Dp X.K S v (.dict z) from h1)
      rw [z]; exact q
    | _ => cases g1
  | IsNot =>
    refine ⟨_, op_notN, fun d1 d2 v u H0 S H Q b sm h1 h2 hb q => ?_⟩
    obtain ⟨g1, g2⟩ := guard_ok hb
    cases g2
    cases d2 with
    | none =>
      refine ⟨rd_non h2, ?_⟩
      have z : decide (v = .non) = isNone d1 := by
        cases d1 with
        | none => rw [rd_non h1]; rfl
        | bool b => rw [rd_bl h1]; rfl
        | int b => rw [rd_int h1]; rfl
        | str b => rw [rd_str h1]; rfl
        | list ds => obtain ⟨a, xs, rfl, _⟩ := rd_lst h1; rfl
        | tuple ds => obtain ⟨a, xs, rfl, _⟩ := rd_tup h1; rfl
        | dict z => cases (show Dp X.K S v (.dict z) from h1)
      rw [z]; exact q
    | _ => cases g1
  | In =>
    refine ⟨_, OpR.or op_in_seq op_in_sign, fun d1 d2 v u H0 S H Q b sm h1 h2 hb q => ?_⟩
    rcases in_cases hb with ⟨ys, p, vs, e, e1, e2, rfl⟩ | ⟨s, z, c, rfl, rfl, e, rfl⟩
    · obtain ⟨rfl, f1, f2, a, rfl, sq⟩ := seq_in sm h1 h2 e e1 e2
      exact .inl ⟨a, vs, rfl, sq, f1, f2, q⟩
    · exact .inr ⟨c, z, by rw [rd_str h1, one_sign e], rd_str h2, q⟩
  | NotIn =>
    refine ⟨_, OpR.or op_notIn_seq op_notIn_sign, fun d1 d2 v u H0 S H Q b sm h1 h2 hb q => ?_⟩
    obtain ⟨b', hb', rfl⟩ := not_ok hb
    rcases in_cases hb' with ⟨ys, p, vs, e, e1, e2, rfl⟩ | ⟨s, z, c, rfl, rfl, e, rfl⟩
    · obtain ⟨rfl, f1, f2, a, rfl, sq⟩ := seq_in sm h1 h2 e e1 e2
      exact .inl ⟨a, vs, rfl, sq, f1, f2, q⟩
    · exact .inr ⟨c, z, by rw [rd_str h1, one_sign e], rd_str h2, q⟩
theorem no_exc_cmp {op : CmpOp} {d1 d2 : D} {e : Exc} : cmpB op d1 d2 ≠ .exc e := by
  have eq_ : ∀ d1 d2 : D, eqD d1 d2 ≠ .exc e := fun d1 d2 h => by
    unfold eqD guard' at h
    repeat' split at h
    all_goals cases h
  have in_ : ∀ d1 d2 : D, inD d1 d2 ≠ .exc e := fun d1 d2 h => by
    unfold inD at h
    repeat' split at h
    all_goals cases h
  have lt_ : ∀ d1 d2 : D, ltD d1 d2 ≠ .exc e := fun d1 d2 h => by
    unfold ltD guard' at h
    repeat' split at h
    all_goals cases h
  have le_ : ∀ d1 d2 : D, leD d1 d2 ≠ .exc e := fun d1 d2 h => by
    unfold leD guard' at h
    repeat' split at h
    all_goals cases h
  intro h
  cases op with
  | Eq => exact eq_ _ _ h
  | NotEq =>
    have h : (eqD d1 d2 >>= fun b => Res.ok (!b)) = .exc e := h
    cases q : eqD d1 d2 with
    | ok b => rw [q] at h; cases h
    | exc z => rw [q] at h; cases h; exact eq_ _ _ q
    | bad => rw [q] at h; cases h
  | Lt => exact lt_ _ _ h
  | LtE => exact le_ _ _ h
  | Gt => exact lt_ _ _ h
  | GtE => exact le_ _ _ h
  | Is => have h : guard' (isNone d2) (.ok (isNone d1)) = .exc e := h; unfold guard' at h; split at h <;> cases h
  | IsNot => have h : guard' (isNone d2) (.ok (!isNone d1)) = .exc e := h; unfold guard' at h; split at h <;> cases h
  | In => exact in_ _ _ h
  | NotIn =>
    have h : (inD d1 d2 >>= fun b => Res.ok (!b)) = .exc e := h
    cases q : inD d1 d2 with
    | ok b => rw [q] at h; cases h
    | exc z => rw [q] at h; cases h; exact in_ _ _ q
    | bad => rw [q] at h; cases h
theorem cmp_val {op : CmpOp} {ct : Str → Option Addr} {σ : L2.St} {S H : Hp} {Q : VK} {d1 d2 : D} (sm : Same S H) (hp : Pst ct W σ S H (RSh X.K) Q (cmpD op d1 d2)) : ∃ b, cmpB op d1 d2 = .ok b ∧ Q (.bl b) H := by
  have hp : Pst ct W σ S H (RSh X.K) Q (cmpB op d1 d2 >>= fun b => .ok (.bool b)) := hp
  cases q : cmpB op d1 d2 with
  | ok b => rw [q] at hp; exact ⟨b, rfl, hp _ S H (Ext.refl sm) (.bl b)⟩
  | exc z => exact (no_exc_cmp q).elim
  | bad => rw [q] at hp; exact hp.elim
theorem snd_cmp (hu : X.A.units + 64 < cLine) {op : CmpOp} (hm : behindInMarks op y = false) (ha : Snd X ct Γ W a x) (hb : Snd X ct Γ W b y) : Snd X ct Γ W (.cmp op a b) (.Compare x [op] [y] pos) := by
  obtain ⟨ta, pa, _, ra, _⟩ := ha.pe
  obtain ⟨tb, pb, _, rb, _⟩ := hb.pe
  obtain ⟨r, ho, hr⟩ := cmp_rule hu op
  have h : EvP X ct W (tOp r ta tb) (RSh X.K) (ev Γ (.cmp op a b) false) := ev2 (g := cmpD op) ra rb mn_sh (fun _ _ _ _ _ _ _ x q => rd_ext x q) mn_rd (fun d1 d2 v u H0 S H σ Q sm h1 h2 hp => by
    obtain ⟨b, e, q⟩ := cmp_val sm hp
    exact hr d1 d2 v u H0 S H Q b sm h1 h2 e q)
  exact ⟨⟨_, pe_cmpR ho pa pb hm, h, h.rd, fun q => (by cases q), fun q => (by cases q)⟩, fun _ => ⟨_, pt_cmpR ho pa pb hm, tv_of h, fun _ _ _ q => by cases q⟩⟩
theorem snd_chn (hu : X.A.units + 64 < cLine) {o1 o2 : CmpOp} (hm : lastMarks [o1, o2] [y, z] = false) (ha : Snd X ct Γ W a x) (hb : Snd X ct Γ W b y) (hc : Snd X ct Γ W c z) : Snd X ct Γ W (.chn o1 o2 a b c) (.Compare x [o1, o2] [y, z] pos) := by
  obtain ⟨ta, pa, _, ra, _⟩ := ha.pe
  obtain ⟨tb, pb, _, rb, _⟩ := hb.pe
  obtain ⟨tc, pc, _, rc, _⟩ := hc.pe
  obtain ⟨r, ho, hr⟩ := cmp_rule hu o1
  obtain ⟨r', ho', hr'⟩ := cmp_rule hu o2
  have h : EvP X ct W (tChain r r' ta tb tc) (RSh X.K) (ev Γ (.chn o1 o2 a b c) false) := fun S H σ ρ Q rp hp => by
    refine ra.bind rp mn_sh hp fun d1 v1 S1 H1 _ e1 r1 rp1 hp1 => ?_
    refine rb.bind rp1 mn_sh hp1 fun d2 v2 S2 H2 _ e2 r2 rp2 hp2 => ?_
    cases q : cmpB o1 d1 d2 with
    | exc w => exact (no_exc_cmp q).elim
    | bad => rw [q] at hp2; exact hp2.elim
    | ok k =>
      rw [q] at hp2
      refine hr d1 d2 v1 v2 H S2 H2 _ k rp2.sub (rd_ext e2 r1) r2 q ⟨k, rfl, ?_⟩
      cases k with
      | false =>
        rw [if_neg Bool.false_ne_true]
        exact hp2 _ S2 H2 (Ext.refl rp2.sub) (.bl false)
      | true =>
        rw [if_pos rfl]
        have hp3 : Pst ct W σ S2 H2 (RSh X.K) Q (ev Γ c true ρ >>= fun w => cmpD o2 d2 w) := hp2
        refine rc.bind rp2 mn_sh hp3 fun d3 v3 S3 H3 _ e3 r3 rp3 hp4 => ?_
        obtain ⟨b', e, w⟩ := cmp_val rp3.sub hp4
        exact hr' d2 d3 v2 v3 H S3 H3 Q b' rp3.sub (rd_ext e3 r2) r3 e w
  exact ⟨⟨_, pe_chain ho ho' pa pb pc hm, h, h.rd, fun q => (by cases q), fun q => (by cases q)⟩, fun _ => ⟨_, pt_chain ho ho' pa pb pc hm, tv_of h, fun _ _ _ q => by cases q⟩⟩
end
end Rf

/-! Rf: reflection. Part G: and, or, if, displays, items, cuts, calls. -/
namespace Rf
open PySem L2
variable [PWd]
section
variable {X : Cx} {ct : Str → Option Addr} {k : Nat} {Γ : Ctx} {N : List Str} {sc : Scope} {W : WX} {te ta tb tc : TE} {f fa fb fc : Sl → Res D} {e a b c es lo hi : E} {t x y z : Expr} {ts : List Expr} {pos : Pos}

/-! ### and, or -/
structure SndO (X : Cx) (ct : Str → Option Addr) (Γ : Ctx) (W : WX) (op : BoolOp) (e : E) (ts : List Expr) (p : Pos) : Prop where
  pe : ∃ te, PE X (.BoolOp op ts p) te ∧ EvP X ct W te (RRd X.K) (ev Γ e true)
  pt : ∃ tt, PW X (.BoolOp op ts p) tt ∧ TvP X ct W tt (ev Γ e true)
theorem SndO.one (op : BoolOp) (lb : tst b = true) (hb : Snd X ct Γ W b y) : SndO X ct Γ W op b [y] pos := by
  obtain ⟨tb, pb, _, rb, _⟩ := hb.pe
  obtain ⟨tt, pt, qt, _⟩ := hb.pt lb
  refine ⟨⟨tb, pe_one pb, rb⟩, tt, ?_, qt⟩
  cases op with
  | And => exact pw_and1 pt
  | Or => exact pw_or1 pt
theorem SndO.more {op : BoolOp} (lb : tst b = true) (hb : Snd X ct Γ W b (.BoolOp op ts pos)) : SndO X ct Γ W op b ts pos := by
  obtain ⟨tb, pb, _, rb, _⟩ := hb.pe
  obtain ⟨tt, pt, qt, w⟩ := hb.pt lb
  exact ⟨⟨tb, pb, rb⟩, tt, w _ _ _ rfl, qt⟩
theorem boolOf_pst {σ : L2.St} {S H : Hp} {R : RT} {Q : VK} {r : Res D} {g : Bool → Res D} (hp : Pst ct W σ S H R Q (boolOf r g)) :
    Pst ct W σ S H R Q (r >>= fun d => match d with
      | .bool b => g b
      | _ => .bad) := by
  cases r with
  | ok d => cases d <;> exact hp
  | exc e => exact hp
  | bad => exact hp
theorem bool_bind {S H : Hp} {σ : L2.St} {ρ : Sl} {Q : VK} {g : Bool → Res D} {Kt : VK} (ha : EvP X ct W te (RRd X.K) f) (rp : Rp X.K S H σ ρ) (hp : Pst ct W σ S H (RSh X.K) Q (boolOf (f ρ) g))
    (next : ∀ b S1 H1, Ext S H S1 H1 → Rp X.K S1 H1 σ ρ → Pst ct W σ S1 H1 (RSh X.K) Q (g b) → Kt (.bl b) H1) : te σ H Kt := by
  refine ha.bind rp mn_sh (boolOf_pst hp) fun d v S1 H1 _ e1 r1 rp1 hp1 => ?_
  cases d with
  | bool b =>
    rw [rd_bl r1]
    exact next b S1 H1 e1 rp1 hp1
  | _ => exact hp1.elim
theorem tv_bind {S H : Hp} {σ : L2.St} {ρ : Sl} {Q : Bool → Hp → Prop} {tt : TT} {g : Bool → Res D} {Kt : Bool → Hp → Prop} (ha : TvP X ct W tt f) (rp : Rp X.K S H σ ρ) (hp : PstB ct W σ S H Q (boolOf (f ρ) g))
    (next : ∀ b S1 H1, Ext S H S1 H1 → Rp X.K S1 H1 σ ρ → PstB ct W σ S1 H1 Q (g b) → Kt b H1) : tt σ H Kt := by
  refine ha S H σ ρ _ rp ?_
  cases q : f ρ with
  | ok d =>
    rw [q] at hp
    cases d with
    | bool b =>
      intro S1 H1 x
      refine next b S1 H1 x (rp.ext x) ?_
      have hp : PstB ct W σ S H Q (g b) := hp
      cases w : g b with
      | ok d2 =>
        rw [w] at hp
        cases d2 with
        | bool b2 => exact fun S2 H2 y => hp S2 H2 (x.trans y)
        | _ => exact hp
      | exc e => rw [w] at hp; exact fun c dd S2 H2 y => hp c dd S2 H2 (x.trans y)
      | bad => rw [w] at hp; exact hp
    | _ => exact False.elim hp
  | exc e => rw [q] at hp; exact hp
  | bad => rw [q] at hp; exact hp
theorem snd_and (la : tst a = true) (ha : Snd X ct Γ W a x) (hb : SndO X ct Γ W .And b (y :: ts) pos) : Snd X ct Γ W (.and a b) (.BoolOp .And (x :: y :: ts) pos) := by
  obtain ⟨ta, pa, _, ra, _⟩ := ha.pe
  obtain ⟨tu, pu, qu, _⟩ := ha.pt la
  obtain ⟨tb, pb, rb⟩ := hb.pe
  obtain ⟨tt, pt, qt⟩ := hb.pt
  have h : EvP X ct W (tAndV ta tb) (RSh X.K) (ev Γ (.and a b) false) := fun S H σ ρ Q rp hp => by
    show ta σ H (fun x H1 => ∃ c, x = .bl c ∧ if c = true then tb σ H1 Q else Q (.bl false) H1)
    refine bool_bind ra rp hp fun v S1 H1 e1 rp1 hp1 => ⟨v, rfl, ?_⟩
    cases v with
    | false => exact hp1 _ S1 H1 (Ext.refl rp1.sub) (.bl false)
    | true => exact bool_bind rb rp1 hp1 fun v S2 H2 e2 rp2 hp2 => hp2 _ S2 H2 (Ext.refl rp2.sub) (.bl v)
  have h2 : TvP X ct W (tAnd tu tt) (ev Γ (.and a b) true) := fun S H σ ρ Q rp hp => by
    show tu σ H (fun c H1 => if c = true then tt σ H1 Q else Q false H1)
    refine tv_bind qu rp hp fun v S1 H1 e1 rp1 hp1 => ?_
    cases v with
    | false => exact hp1 S1 H1 (Ext.refl rp1.sub)
    | true => exact tv_bind qt rp1 hp1 fun v S2 H2 e2 rp2 hp2 => hp2 S2 H2 (Ext.refl rp2.sub)
  refine ⟨⟨_, pe_and pa pb, h, h.rd, fun q => (by cases q), fun q => (by cases q)⟩, fun _ => ⟨_, PW.pt (pw_and pu pt), h2, fun op vs p q => ?_⟩⟩
  cases q
  exact pw_and pu pt
theorem snd_or (la : tst a = true) (ha : Snd X ct Γ W a x) (hb : SndO X ct Γ W .Or b (y :: ts) pos) : Snd X ct Γ W (.or a b) (.BoolOp .Or (x :: y :: ts) pos) := by
  obtain ⟨ta, pa, _, ra, _⟩ := ha.pe
  obtain ⟨tu, pu, qu, _⟩ := ha.pt la
  obtain ⟨tb, pb, rb⟩ := hb.pe
  obtain ⟨tt, pt, qt⟩ := hb.pt
  have h : EvP X ct W (tOrV ta tb) (RSh X.K) (ev Γ (.or a b) false) := fun S H σ ρ Q rp hp => by
    show ta σ H (fun x H1 => ∃ c, x = .bl c ∧ if c = true then Q (.bl true) H1 else tb σ H1 Q)
    refine bool_bind ra rp hp fun v S1 H1 e1 rp1 hp1 => ⟨v, rfl, ?_⟩
    cases v with
    | true => exact hp1 _ S1 H1 (Ext.refl rp1.sub) (.bl true)
    | false => exact bool_bind rb rp1 hp1 fun v S2 H2 e2 rp2 hp2 => hp2 _ S2 H2 (Ext.refl rp2.sub) (.bl v)
  have h2 : TvP X ct W (tOr tu tt) (ev Γ (.or a b) true) := fun S H σ ρ Q rp hp => by
    show tu σ H (fun c H1 => if c = true then Q true H1 else tt σ H1 Q)
    refine tv_bind qu rp hp fun v S1 H1 e1 rp1 hp1 => ?_
    cases v with
    | true => exact hp1 S1 H1 (Ext.refl rp1.sub)
    | false => exact tv_bind qt rp1 hp1 fun v S2 H2 e2 rp2 hp2 => hp2 S2 H2 (Ext.refl rp2.sub)
  refine ⟨⟨_, pe_or pa pb, h, h.rd, fun q => (by cases q), fun q => (by cases q)⟩, fun _ => ⟨_, PW.pt (pw_or pu pt), h2, fun op vs p q => ?_⟩⟩
  cases q
  exact pw_or pu pt
theorem Pst.toB {σ : L2.St} {S H : Hp} {R : RT} {Q : VK} {r : Res D} {g : Bool → Res D} (hp : Pst ct W σ S H R Q (boolOf r g)) {Kt : Bool → Hp → Prop} (m : Mn R) (next : ∀ b S1 H1, Ext S H S1 H1 → Pst ct W σ S1 H1 R Q (g b) → Kt b H1) : PstB ct W σ S H Kt r := by
  cases r with
  | ok d =>
    cases d with
    | bool b => exact fun S1 H1 x => next b S1 H1 x (Pst.shift m x hp)
    | _ => exact False.elim hp
  | exc e => exact hp
  | bad => exact hp
theorem snd_ite (lc : tst c = true) (hc : Snd X ct Γ W c x) (ha : Snd X ct Γ W a y) (hb : Snd X ct Γ W b z) : Snd X ct Γ W (.ite c a b) (.IfExp x y z pos) := by
  obtain ⟨tt, pt, qt, _⟩ := hc.pt lc
  obtain ⟨ta, pa, sa, _⟩ := ha.pe
  obtain ⟨tb, pb, sb, _⟩ := hb.pe
  have h : EvP X ct W (tIf tt ta tb) (RSh X.K) (ev Γ (.ite c a b) false) := fun S H σ ρ Q rp hp => by
    refine qt S H σ ρ _ rp (Pst.toB hp mn_sh fun v S1 H1 e1 hp1 => ?_)
    cases v with
    | true => exact sa S1 H1 σ ρ Q (rp.ext e1) hp1
    | false => exact sb S1 H1 σ ρ Q (rp.ext e1) hp1
  exact ⟨⟨_, pe_ifExp pt pa pb, h, h.rd, fun q => (by cases q), fun q => (by cases q)⟩, fun q => by cases q⟩

/-! ### lists of expressions -/
theorem sndL_nil : SndL X ct Γ W .nil [] := ⟨⟨_, pa_nil, fun S H σ ρ Q rp hp => hp [] rfl [] S H (Ext.refl rp.sub) .nil⟩, ⟨_, pa_nil, fun S H σ ρ Q rp hp => hp [] rfl [] S H (Ext.refl rp.sub) trivial⟩⟩
theorem PstA.shift {σ : L2.St} {S H S1 H1 : Hp} {RA : Hp → Hp → List V → List D → Prop} {Q : List V → Hp → Prop} {r : Res D} (x : Ext S H S1 H1) (h : PstA ct W σ S H RA Q r) : PstA ct W σ S1 H1 RA Q r := by
  cases r with
  | ok d => exact fun ds e vs S' H' y q => h ds e vs S' H' (x.trans y) q
  | exc e => exact fun c dd S' H' y q => h c dd S' H' (x.trans y) q
  | bad => exact h
theorem rdA_ext {K : PySem.W.Frag} {S H S' H' : Hp} (x : Ext S H S' H') : ∀ {vs : List V} {ds : List D}, RRdA K S H vs ds → RRdA K S' H' vs ds
  | [], [], _ => trivial
  | v :: vs, d :: ds, h => ⟨rd_ext x h.1, rdA_ext x h.2⟩
  | [], _ :: _, h => h.elim
  | _ :: _, [], h => h.elim
theorem sndL_cons (hs : notStar x = true) (he : Snd X ct Γ W e x) (hl : SndL X ct Γ W es ts) : SndL X ct Γ W (.cons e es) (x :: ts) := by
  obtain ⟨te, pe_, se, re, _⟩ := he.pe
  refine ⟨?_, ?_⟩
  · obtain ⟨tr, pr, sr⟩ := hl.sh
    refine ⟨_, pa_cons pe_ pr (star_cons hs), fun S H σ ρ Q rp hp => ?_⟩
    refine se S H σ ρ _ rp ?_
    have hp : PstA ct W σ S H (fun S' _ vs ds => DpAll X.K S' vs ds) Q (ev Γ e false ρ >>= fun d => tupOf (ev Γ es false ρ) fun ds => .ok (.tuple (d :: ds))) := hp
    cases q : ev Γ e false ρ with
    | exc w => rw [q] at hp; exact hp
    | bad => rw [q] at hp; exact hp
    | ok d =>
      rw [q] at hp
      intro v S1 H1 x1 r1
      refine sr S1 H1 σ ρ _ (rp.ext x1) ?_
      have hp : PstA ct W σ S1 H1 (fun S' _ vs ds => DpAll X.K S' vs ds) Q (tupOf (ev Γ es false ρ) fun ds => .ok (.tuple (d :: ds))) := PstA.shift x1 hp
      cases q2 : ev Γ es false ρ with
      | exc w => rw [q2] at hp; exact hp
      | bad => rw [q2] at hp; exact hp
      | ok d2 =>
        rw [q2] at hp
        intro ds ed
        subst ed
        exact fun vs S2 H2 x2 r2 => hp (d :: ds) rfl (v :: vs) S2 H2 x2 (.cons (dp_mono x2.s _ _ r1) r2)
  · obtain ⟨tr, pr, sr⟩ := hl.rd
    refine ⟨_, pa_cons pe_ pr (star_cons hs), fun S H σ ρ Q rp hp => ?_⟩
    refine re S H σ ρ _ rp ?_
    have hp : PstA ct W σ S H (fun S' H' vs ds => RRdA X.K S' H' vs ds) Q (ev Γ e true ρ >>= fun d => tupOf (ev Γ es true ρ) fun ds => .ok (.tuple (d :: ds))) := hp
    cases q : ev Γ e true ρ with
    | exc w => rw [q] at hp; exact hp
    | bad => rw [q] at hp; exact hp
    | ok d =>
      rw [q] at hp
      intro v S1 H1 x1 r1
      refine sr S1 H1 σ ρ _ (rp.ext x1) ?_
      have hp : PstA ct W σ S1 H1 (fun S' H' vs ds => RRdA X.K S' H' vs ds) Q (tupOf (ev Γ es true ρ) fun ds => .ok (.tuple (d :: ds))) := PstA.shift x1 hp
      cases q2 : ev Γ es true ρ with
      | exc w => rw [q2] at hp; exact hp
      | bad => rw [q2] at hp; exact hp
      | ok d2 =>
        rw [q2] at hp
        intro ds ed
        subst ed
        exact fun vs S2 H2 x2 r2 => hp (d :: ds) rfl (v :: vs) S2 H2 x2 ⟨rd_ext x2 r1, r2⟩
theorem ev_cnt {m : Bool} {ρ : Sl} : ∀ {es : E} {ts : List Expr} {ds : List D}, mEs Γ N es sc ts = true → ev Γ es m ρ = .ok (.tuple ds) → ds.length = cnt es := by
  intro es
  induction es with
  | nil =>
    intro ts ds h q
    cases q; rfl
  | cons e es _ ih =>
    intro ts ds h q
    cases ts with
    | nil => simp [mEs] at h
    | cons t ts =>
      unfold mEs at h
      rw [Bool.and_eq_true] at h
      have q : (ev Γ e m ρ >>= fun d => tupOf (ev Γ es m ρ) fun ds => .ok (.tuple (d :: ds))) = .ok (.tuple ds) := q
      cases q1 : ev Γ e m ρ with
      | exc w => rw [q1] at q; cases q
      | bad => rw [q1] at q; cases q
      | ok d =>
        rw [q1] at q
        have q : (tupOf (ev Γ es m ρ) fun ds => .ok (.tuple (d :: ds))) = .ok (.tuple ds) := q
        cases q2 : ev Γ es m ρ with
        | exc w => rw [q2] at q; cases q
        | bad => rw [q2] at q; cases q
        | ok d2 =>
          rw [q2] at q
          cases d2 with
          | tuple ds2 =>
            cases q
            show ds2.length + 1 = cnt es + 1
            rw [ih h.2 q2]
          | _ => cases q
  | _ => intro ts ds h q; simp [mEs] at h
theorem le1000 {n m : Nat} (h : n = m) (h2 : m ≤ 1000) : n ≤ sizeLine := by
  rw [sizeLine_eq]; omega
theorem snd_tup {kk : Nat} (hm : mEs Γ N es sc ts = true) (hc : cnt es ≤ 1000) (hl : SndL X ct Γ W es ts) : Snd X ct Γ W (.tup es) (.Tuple ts kk pos) := by
  obtain ⟨ta, pa, sa⟩ := hl.sh
  refine Snd.plain (pe_tup pa) (fun S H σ ρ Q rp hp => ?_) (fun _ => rfl) rfl (fun _ => rfl) (fun _ _ _ q => by cases q) rfl
  refine sa.bind rp mn_sh hp fun ds vs S1 H1 q e1 r1 rp1 hp1 => ⟨le1000 ((dps_len r1).trans (ev_cnt hm q)) hc, fun p hp2 => ?_⟩
  have x := Ext.laid (o := HO.tup vs) rp1.sub hp2
  exact hp1 _ _ _ x (.tup (SqT.of upd_same) (dps_mono x.s _ _ r1))
theorem snd_lst (hm : mEs Γ N es sc ts = true) (hc : cnt es ≤ 1000) (hl : SndL X ct Γ W es ts) : Snd X ct Γ W (.lst es) (.List ts pos) := by
  obtain ⟨ta, pa, sa⟩ := hl.sh
  refine Snd.new (pe_lst pa) (fun S H σ ρ Q rp hp => ?_) (fun _ => rfl) (fun _ _ => rfl) (fun _ => rfl) (fun _ _ _ q => by cases q)
  refine sa.bind rp mn_fr hp fun ds vs S1 H1 q e1 r1 rp1 hp1 => ⟨le1000 ((dps_len r1).trans (ev_cnt hm q)) hc, fun p hp2 => ?_⟩
  exact hp1 _ _ _ (Ext.made rp1.sub hp2) ⟨p, vs, ds, rfl, rfl, upd_same, Same.free rp1.sub hp2, hp2, r1⟩

/-! ### items, cuts -/
theorem dps_atI {K : PySem.W.Frag} {S : Hp} {ds : List D} {vs : List V} {i : Int} {d : D} (h : DpAll K S vs ds) (e : atI ds i = some d) : ∃ v, atI vs i = some v ∧ Dp K S v d := by
  unfold atI at e ⊢
  rw [dps_len h]
  cases q : ixN ds.length i with
  | none => rw [q] at e; cases e
  | some j =>
    rw [q] at e
    exact dps_at h e
theorem snd_idx (hs : notSlice y = true) (ha : Snd X ct Γ W a x) (hb : Snd X ct Γ W b y) : Snd X ct Γ W (.idx a b) (.Subscript x y pos) := by
  obtain ⟨ta, pa, _, ra, _⟩ := ha.pe
  obtain ⟨tb, pb, _, rb, _⟩ := hb.pe
  have ht : ∀ whole, isTrue (.Subscript x y pos) X.env whole = (do let v ← whole; standAt (Expr.Subscript x y pos).pos; holding [v] (truthy v)) := fun _ => rfl
  refine Snd.plain (pe_ix ix_seq pa pb (plain_ix hs)) (ev2 (g := idxD) ra rb mn_sh (fun _ _ _ _ _ _ _ x q => rd_ext x q) mn_rd ?_) (fun _ => rfl) rfl ht (fun _ _ _ q => by cases q) rfl
  intro d1 d2 v u H0 S H σ Q sm h1 h2 hp
  cases d2 with
  | int i =>
    cases d1 with
    | list xs =>
      obtain ⟨p, ys, rfl, s1, q1⟩ := rd_lst h1
      have hp : Pst ct W σ S H (RSh X.K) Q (match atI xs i with
        | some d => .ok d
        | none => .bad) := hp
      cases w : atI xs i with
      | none => rw [w] at hp; exact hp.elim
      | some d =>
        rw [w] at hp
        obtain ⟨v', e1, e2⟩ := dps_atI q1 w
        exact .inl ⟨p, ys, i, v', rfl, rd_int h2, s1, e1, hp v' S H (Ext.refl sm) e2⟩
    | tuple xs =>
      obtain ⟨p, ys, rfl, s1, q1⟩ := rd_tup h1
      have hp : Pst ct W σ S H (RSh X.K) Q (match atI xs i with
        | some d => .ok d
        | none => .bad) := hp
      cases w : atI xs i with
      | none => rw [w] at hp; exact hp.elim
      | some d =>
        rw [w] at hp
        obtain ⟨v', e1, e2⟩ := dps_atI q1 w
        exact .inr (.inl ⟨p, ys, i, v', rfl, rd_int h2, same_t sm s1, e1, hp v' S H (Ext.refl sm) e2⟩)
    | str s =>
      obtain ⟨g1, g2⟩ := pst_guard hp
      cases w : atI s.cps.toList i with
      | none => rw [w] at g2; exact g2.elim
      | some d =>
        rw [w] at g2
        exact .inr (.inr ⟨s, i, d, rd_str h1, rd_int h2, lim_le g1, w, g2 _ S H (Ext.refl sm) (.str _)⟩)
    | _ => exact hp.elim
  | _ => exact hp.elim
def OvP (X : Cx) (ct : Str → Option Addr) (W : WX) (to : TO) (e : E) (f : Sl → Res D) : Prop :=
  ∀ (S H : Hp) (σ : L2.St) (ρ : Sl) (Q : VK) (R : RT) (g : Option Int → Res D) (Kt : Option Int → Hp → Prop), Rp X.K S H σ ρ → Mn R → Pst ct W σ S H R Q (optE e (f ρ) g) →
    (∀ o S1 H1, Ext S H S1 H1 → Rp X.K S1 H1 σ ρ → Pst ct W σ S1 H1 R Q (g o) → Kt o H1) → to σ H Kt
def SndP (X : Cx) (ct : Str → Option Addr) (Γ : Ctx) (W : WX) (e : E) (t : Option Expr) : Prop := ∃ to, PO X t to ∧ OvP X ct W to e (ev Γ e true)
theorem sndP_none : SndP X ct Γ W .non none := ⟨_, po_none, fun S H σ ρ Q R g Kt rp m hp next => next none S H (Ext.refl rp.sub) rp hp⟩
theorem sndP_some (hn : e ≠ .non) (h : Snd X ct Γ W e t) : SndP X ct Γ W e (some t) := by
  obtain ⟨te, pe_, _, re, _⟩ := h.pe
  refine ⟨_, po_some pe_, fun S H σ ρ Q R g Kt rp m hp next => ?_⟩
  have z : optE e (ev Γ e true ρ) g = (ev Γ e true ρ >>= fun d => intR d fun i => g (some i)) := by
    cases e <;> first | rfl | exact absurd rfl hn
  rw [z] at hp
  refine re.bind rp m hp fun d v S1 H1 _ e1 r1 rp1 hp1 => ?_
  cases d with
  | int i => exact ⟨i, rd_int r1, next _ S1 H1 e1 rp1 hp1⟩
  | _ => exact hp1.elim
theorem cut_dps {K : PySem.W.Frag} {S : Hp} {ds : List D} {vs : List V} {lo hi : Option Int} (h : DpAll K S vs ds) : DpAll K S (cutV vs lo hi) (cutD ds lo hi) := by
  unfold cutV cutD
  rw [dps_len h]
  exact dps_take _ (dps_drop _ h)
theorem cut_whole {ds : List D} {lo hi : Option Int} (h : HT.sIx ds.length 0 lo = 0 ∧ HT.sIx ds.length ds.length hi = ds.length) : cutD ds lo hi = ds := by
  unfold cutD
  rw [h.1, h.2]
  simp
theorem snd_sl {kk : Bool} {p2 : Pos} {l h : Option Expr} (ha : Snd X ct Γ W a x) (hl : SndP X ct Γ W lo l) (hh : SndP X ct Γ W hi h) : Snd X ct Γ W (.sl kk a lo hi) (.Subscript x (.Slice l h none p2) pos) := by
  obtain ⟨ta, pa, _, ra, _⟩ := ha.pe
  obtain ⟨tl, pl, ql⟩ := hl
  obtain ⟨th, ph, qh⟩ := hh
  have ht : ∀ whole, isTrue (.Subscript x (.Slice l h none p2) pos) X.env whole = (do let v ← whole; standAt (Expr.Subscript x (.Slice l h none p2) pos).pos; holding [v] (truthy v)) := fun _ => rfl
  cases kk with
  | true =>
    refine Snd.new (pe_slice sl_list pa pl ph) (fun S H σ ρ Q rp hp => ?_) (fun _ => rfl) (fun _ _ => rfl) ht (fun _ _ _ q => by cases q)
    refine ra.bind rp mn_fr hp fun d v S1 H1 _ e1 r1 rp1 hp1 => ?_
    refine ql S1 H1 σ ρ Q (RFr X.K) _ _ rp1 mn_fr hp1 fun l1 S2 H2 e2 rp2 hp2 => ?_
    refine qh S2 H2 σ ρ Q (RFr X.K) _ _ rp2 mn_fr hp2 fun h1 S3 H3 e3 rp3 hp3 => ?_
    cases d with
    | list xs =>
      obtain ⟨_, g2⟩ := pst_guard hp3
      obtain ⟨p, ys, rfl, s1, q1⟩ := rd_lst (rd_ext (e2.trans e3) r1)
      exact ⟨p, ys, rfl, s1, fun n hn => g2 _ _ _ (Ext.made rp3.sub hn) ⟨n, _, _, rfl, rfl, upd_same, Same.free rp3.sub hn, hn, cut_dps q1⟩⟩
    | tuple xs =>
      obtain ⟨g1, _⟩ := pst_guard hp3
      cases g1
    | str s =>
      obtain ⟨g1, _⟩ := pst_guard hp3
      cases g1
    | _ => exact hp3.elim
  | false =>
    refine Snd.plain (pe_slice (SlR.or sl_tupA sl_str) pa pl ph) (fun S H σ ρ Q rp hp => ?_) (fun _ => rfl) rfl ht (fun _ _ _ q => by cases q) rfl
    refine ra.bind rp mn_sh hp fun d v S1 H1 _ e1 r1 rp1 hp1 => ?_
    refine ql S1 H1 σ ρ Q (RSh X.K) _ _ rp1 mn_sh hp1 fun l1 S2 H2 e2 rp2 hp2 => ?_
    refine qh S2 H2 σ ρ Q (RSh X.K) _ _ rp2 mn_sh hp2 fun h1 S3 H3 e3 rp3 hp3 => ?_
    cases d with
    | tuple xs =>
      obtain ⟨_, g2⟩ := pst_guard hp3
      obtain ⟨p, ys, rfl, s1, q1⟩ := rd_tup (rd_ext (e2.trans e3) r1)
      refine .inl ⟨p, ys, rfl, same_t rp3.sub s1, fun w => ?_, fun _ n hn => ?_⟩
      · rw [dps_len q1] at w
        rw [cut_whole w] at g2
        exact g2 _ S3 H3 (Ext.refl rp3.sub) (.tup s1 q1)
      · have xx := Ext.laid (o := HO.tup (cutV ys l1 h1)) rp3.sub hn
        exact g2 _ _ _ xx (.tup (SqT.of upd_same) (dps_mono xx.s _ _ (cut_dps q1)))
    | str s =>
      obtain ⟨g1, g2⟩ := pst_guard hp3
      rw [Bool.and_eq_true] at g1
      exact .inr ⟨s, rd_str r1, lim_le g1.2, g2 _ S3 H3 (Ext.refl rp3.sub) (.str _)⟩
    | list xs =>
      obtain ⟨g1, _⟩ := pst_guard hp3
      cases g1
    | _ => exact hp3.elim

/-! ### calls of the text's own defs -/
theorem pst_call {σ : L2.St} {S H : Hp} {R : RT} {Q : VK} {j : Nat} {ds : List D} {cl : Cal} (hj : Γ.cals[j]? = some cl) (h : Pst ct W σ S H R Q (callD Γ j ds)) : Pst ct W σ S H R Q (cl.sem (ds ++ cl.dfl)) := by
  have h : Pst ct W σ S H R Q (match Γ.cals[j]? with
    | some c => c.sem (ds ++ c.dfl)
    | none => .bad) := h
  rw [hj] at h
  exact h
/-- the call's own reading -/
theorem call_ev (s : Stc X ct k Γ N sc W) {j : Nat} {cl : Cal} {n : Str} {p : Pos} (hj : Γ.cals[j]? = some cl) (hn : cl.name = n) (g1 : glB sc n = true) (g2 : nmOk n = true) (hc : 0 < cnt es ∧ cnt es + cl.dfl.length = cl.n)
    (hm : mEs Γ N es sc ts = true) (hl : SndL X ct Γ W es ts) : ∃ te, PE X (.Call (.Name n p) ts [] pos) te ∧ EvP X ct W te (RV X.K cl.fr) (fun ρ => tupOf (ev Γ es false ρ) fun ds => callD Γ j ds) ∧
      EvP X ct W te (RSh X.K) (fun ρ => tupOf (ev Γ es true ρ) fun ds => callD Γ j ds >>= fun d => guard' (atom d) (.ok d)) := by
  obtain ⟨fa, fd, ps, us, dvs, F, mg_, kp, b, hv, hd⟩ := s.cals cl (List.mem_of_getElem? hj)
  subst hn
  cases ts with
  | nil =>
    cases es <;> first | (exact absurd hc.1 (by decide)) | (simp [mEs] at hm)
  | cons t ts =>
    have hs : notStar t = true ∧ ∃ es', mEs Γ N es' sc ts = true := by
      cases es <;> first | (simp [mEs] at hm; done) | skip
      unfold mEs at hm
      rw [Bool.and_eq_true, Bool.and_eq_true] at hm
      exact ⟨hm.1.1, _, hm.2⟩
    obtain ⟨hs1, es', hs2⟩ := hs
    obtain ⟨ta, pa, sa⟩ := hl.sh
    obtain ⟨tr, pr, sr⟩ := hl.rd
    -- both readings stand over one term: the two argument terms are joined
    have pj : PA X (t :: ts) (fun σ H Q => ta σ H Q ∨ tr σ H Q) := ⟨fun pos pins s σ H Q I h => by
      rcases h with h | h
      · exact pa.run pos pins s σ H Q I h
      · exact pr.run pos pins s σ H Q I h⟩
    refine ⟨_, pe_callSD F s.room (s.gl g1) mg_ kp b hv (fun σ => passAt s.tk σ) pj (nm_of g2).1 (star_cons hs1) (star_none _ hs2), fun S H σ ρ Q rp hp => .inl ?_, fun S H σ ρ Q rp hp => .inr ?_⟩
    · refine sa.bind rp (mn_rv _) hp fun ds vs S1 H1 q e1 r1 rp1 hp1 => ?_
      refine ⟨S1, ds ++ cl.dfl, rp1.sub, dps_append r1 (hd S1), by rw [List.length_append, ev_cnt hm q]; exact hc.2, ?_⟩
      have hp2 := pst_call hj hp1
      cases w : cl.sem (ds ++ cl.dfl) with
      | ok d => rw [w] at hp2; exact hp2
      | exc z => rw [w] at hp2; exact hp2
      | bad => rw [w] at hp2; exact hp2
    · refine sr.bind rp mn_sh hp fun ds vs S1 H1 q e1 r1 rp1 hp1 => ?_
      have rA : ∀ {vs : List V} {ds : List D}, RRdA X.K S1 H1 vs ds → DpAll X.K H1 vs ds := by
        intro vs
        induction vs with
        | nil => intro ds h; cases ds with
          | nil => exact .nil
          | cons d ds => exact h.elim
        | cons v vs ih => intro ds h; cases ds with
          | nil => exact h.elim
          | cons d ds => exact .cons (dp_of_rd (H0 := H1) rp1.sub h.1) (ih h.2)
      refine ⟨H1, ds ++ cl.dfl, Same.refl H1, dps_append (rA r1) (hd H1), by rw [List.length_append, ev_cnt hm q]; exact hc.2, ?_⟩
      have hp2 : Pst ct W σ S1 H1 (RSh X.K) Q (callD Γ j ds >>= fun d => guard' (atom d) (.ok d)) := hp1
      have ec : callD Γ j ds = cl.sem (ds ++ cl.dfl) := by unfold callD; rw [hj]
      rw [ec] at hp2
      cases w : cl.sem (ds ++ cl.dfl) with
      | exc z =>
        rw [w] at hp2
        exact fun c dd S' H' x q => hp2 c dd S1 H' ⟨Same.refl S1, rp1.sub.trans x.h, x.h, fun _ _ e => .inl e⟩ q
      | bad => rw [w] at hp2; exact hp2
      | ok d =>
        rw [w] at hp2
        obtain ⟨at_, hp3⟩ := pst_guard hp2
        intro v S' H' x q
        have fl : ∃ a, flatD d = some a := by cases d <;> first | exact ⟨_, rfl⟩ | cases at_
        obtain ⟨a, ha⟩ := fl
        obtain ⟨S'', _, _, z⟩ := rv_share x q
        have va : v = a := (flat_dp z ha).1
        exact hp3 v S1 H' ⟨Same.refl S1, rp1.sub.trans x.h, x.h, fun _ _ e => .inl e⟩ (by rw [va]; exact dp_flat ha)
theorem EvP.shareV {fr : Fr} (h : EvP X ct W te (RV X.K fr) f) : EvP X ct W te (RSh X.K) f := fun S H σ ρ Q r hp => by
  refine h S H σ ρ Q r ?_
  cases e : f ρ with
  | ok d =>
    rw [e] at hp
    intro v S1 H1 x q
    obtain ⟨S2, y, _, z⟩ := rv_share x q
    exact hp v S2 H1 y z
  | exc z => rw [e] at hp; exact hp
  | bad => rw [e] at hp; exact hp
theorem snd_call (s : Stc X ct k Γ N sc W) {kk : Bool} {j : Nat} {cl : Cal} {n : Str} {p : Pos} (hj : Γ.cals[j]? = some cl) (hn : cl.name = n) (hk : (!kk || decide (cl.fr = .own)) = true) (g1 : glB sc n = true) (g2 : nmOk n = true) (hc : 0 < cnt es ∧ cnt es + cl.dfl.length = cl.n)
    (hm : mEs Γ N es sc ts = true) (hl : SndL X ct Γ W es ts) : Snd X ct Γ W (.call kk j es) (.Call (.Name n p) ts [] pos) := by
  obtain ⟨te, p1, r1, _⟩ := call_ev (pos := pos) s (p := p) hj hn g1 g2 hc hm hl
  cases kk with
  | true =>
    have f : cl.fr = .own := by simpa using hk
    rw [f] at r1
    exact Snd.new p1 r1 (fun _ => rfl) (fun _ _ => rfl) (fun _ => rfl) (fun _ _ _ q => by cases q)
  | false => exact Snd.plain p1 r1.shareV (fun _ => rfl) rfl (fun _ => rfl) (fun _ _ _ q => by cases q) rfl
theorem snd_callB (s : Stc X ct k Γ N sc W) {j : Nat} {cl : Cal} {n : Str} {p : Pos} (hj : Γ.cals[j]? = some cl) (hn : cl.name = n) (g1 : glB sc n = true) (g2 : nmOk n = true) (hc : 0 < cnt es ∧ cnt es + cl.dfl.length = cl.n)
    (hm : mEs Γ N es sc ts = true) (hl : SndL X ct Γ W es ts) : Snd X ct Γ W (.callB j es) (.Call (.Name n p) ts [] pos) := by
  obtain ⟨te, p1, _, r1⟩ := call_ev (pos := pos) s (p := p) hj hn g1 g2 hc hm hl
  exact Snd.plain p1 r1 (fun _ => rfl) rfl (fun _ => rfl) (fun _ _ _ q => by cases q) rfl
end
end Rf
namespace L2
open PySem PySem.Spec PyProof.Rows
section
variable {prog : Program} {w : World} {A : Around} {E : Value → Shared → Prop} {s : Shared} {l : Addr} {its : List Value} {ns : List Int} {Q : Value → Shared → Prop}
theorem sum_rawT (hh : A.handled = none) (hl : s.heap.IsTuple l its.toArray) (hi : IntsAre its ns)
    (h : ∀ h' tk t', (∀ b o, s.heap.get? b = some o → h'.get? b = some o) → Q (.int ns.sum t') { s with heap := h', toks := tk }) : wpAny (model prog w) A (call (.builtin "sum") [.ref l]) Q E s := by
  obtain ⟨xs, e⟩ := hi.allInts.items
  have hn : numsOf (intItems xs).toList = ns := by rw [← e]; exact hi.numsOf
  rw [nums_intItems] at hn
  rw [e] at hl
  refine PySem.W.ktm_sumG hh hl fun h' tk t' hk => ?_
  have := h h' tk t' hk
  rw [preSum_eq, List.take_of_length_le (by simp), hn]; exact this
end
def rSumB (K : PySem.W.Frag) : List V → Hp → VK → Prop := fun vs H Q => ∃ (a : Addr) (ns : List Int), vs = [V.ref a] ∧ (SqL K H a (ns.map V.int) ∨ SqT K H a (ns.map V.int)) ∧ Q (.int ns.sum) H
theorem cr_sumB {X : Cx} (hc : X.calm = true) : CallR X (.builtin "sum") (rSumB X.K) := by
  intro pins s σ H vs us Q I r h
  obtain ⟨a, ns, rfl, hs, q⟩ := h
  rcases hs with hs | hs
  · obtain ⟨its, rv, hl, _⟩ := I.list hs
    rw [Vals.ref1 r]
    exact sum_raw (I.ok.hd hc) hl.isList rv.ints fun h' tk t' hk => ⟨.int _, H, I.kept hk, ⟨_, rfl⟩, q⟩
  · obtain ⟨its, rv, hl, _⟩ := I.tuple hs
    rw [Vals.ref1 r]
    exact sum_rawT (I.ok.hd hc) hl rv.ints fun h' tk t' hk => ⟨.int _, H, I.kept hk, ⟨_, rfl⟩, q⟩
end L2

/-! Rf: reflection. Part H: built-ins, methods, isinstance. -/
namespace Rf
open PySem L2
variable [PWd]
theorem small_int {ns : List Int} {ds : List D} (h : intsOf ds = some ns) : ds = ns.map PyData.int := by
  induction ds generalizing ns with
  | nil => cases h; rfl
  | cons d ds ih =>
    cases d with
    | int i =>
      have h : (intsOf ds).map (i :: ·) = some ns := h
      cases q : intsOf ds with
      | none => rw [q] at h; cases h
      | some ms =>
        rw [q] at h
        cases h
        rw [ih q]; rfl
    | _ => cases h
theorem small_bool {ns : List Bool} {ds : List D} (h : boolsOf ds = some ns) : ds = ns.map PyData.bool := by
  induction ds generalizing ns with
  | nil => cases h; rfl
  | cons d ds ih =>
    cases d with
    | bool i =>
      have h : (boolsOf ds).map (i :: ·) = some ns := h
      cases q : boolsOf ds with
      | none => rw [q] at h; cases h
      | some ms =>
        rw [q] at h
        cases h
        rw [ih q]; rfl
    | _ => cases h
theorem small_str {ns : List Str} {ds : List D} (h : strsOf ds = some ns) : ds = ns.map PyData.str := by
  induction ds generalizing ns with
  | nil => cases h; rfl
  | cons d ds ih =>
    cases d with
    | str i =>
      have h : (strsOf ds).map (i :: ·) = some ns := h
      cases q : strsOf ds with
      | none => rw [q] at h; cases h
      | some ms =>
        rw [q] at h
        cases h
        rw [ih q]; rfl
    | _ => cases h
omit [PWd] in
theorem maxOf_mem : ∀ {ns : List Int}, ns ≠ [] → maxOf ns ∈ ns ∧ ∀ y ∈ ns, y ≤ maxOf ns
  | [], h => absurd rfl h
  | [a], _ => ⟨by simp [maxOf], fun y hy => by simp at hy; subst hy; simp [maxOf]⟩
  | a :: b :: r, _ => by
    obtain ⟨h1, h2⟩ := maxOf_mem (ns := b :: r) (by simp)
    have e : maxOf (a :: b :: r) = max a (maxOf (b :: r)) := rfl
    rw [e]
    refine ⟨?_, fun y hy => ?_⟩
    · by_cases c : a ≤ maxOf (b :: r)
      · rw [Int.max_eq_right c]; exact List.mem_cons_of_mem _ h1
      · rw [Int.max_eq_left (by omega)]; exact List.mem_cons_self
    · rcases List.mem_cons.mp hy with e | e
      · subst e; exact Int.le_max_left _ _
      · exact Int.le_trans (h2 y e) (Int.le_max_right _ _)
omit [PWd] in
theorem minOf_mem : ∀ {ns : List Int}, ns ≠ [] → minOf ns ∈ ns ∧ ∀ y ∈ ns, minOf ns ≤ y
  | [], h => absurd rfl h
  | [a], _ => ⟨by simp [minOf], fun y hy => by simp at hy; subst hy; simp [minOf]⟩
  | a :: b :: r, _ => by
    obtain ⟨h1, h2⟩ := minOf_mem (ns := b :: r) (by simp)
    have e : minOf (a :: b :: r) = min a (minOf (b :: r)) := rfl
    rw [e]
    refine ⟨?_, fun y hy => ?_⟩
    · by_cases c : a ≤ minOf (b :: r)
      · rw [Int.min_eq_left c]; exact List.mem_cons_self
      · rw [Int.min_eq_right (by omega)]; exact List.mem_cons_of_mem _ h1
    · rcases List.mem_cons.mp hy with e | e
      · subst e; exact Int.min_le_left _ _
      · exact Int.le_trans (Int.min_le_right _ _) (h2 y e)
section
variable {X : Cx} {ct : Str → Option Addr} {k : Nat} {Γ : Ctx} {N : List Str} {sc : Scope} {W : WX} {te ta tb tc : TE} {f fa fb fc : Sl → Res D} {e a b c es lo hi : E} {t x y z : Expr} {ts : List Expr} {pos : Pos}
def Bi.val : Bi → Value
  | .len => .builtin "len" | .list => .type "list" | .tuple => .type "tuple" | .int => .type "int" | .str => .type "str" | .strL => .type "str" | .abs => .builtin "abs"
  | .max2 => .builtin "max" | .min2 => .builtin "min" | .max1 => .builtin "max" | .min1 => .builtin "min" | .sum => .builtin "sum" | .all => .builtin "all" | .any => .builtin "any"
  | .maxT2 => .builtin "max" | .maxT1 => .builtin "max" | .sorted => .builtin "sorted"
/-- what a built-in is worth, of values that are only looked at -/
def BltR (X : Cx) (ct : Str → Option Addr) (W : WX) (b : Bi) (R : RT) (r : List V → Hp → VK → Prop) : Prop := ∀ ds vs S H σ Q, Same S H → RRdA X.K S H vs ds → Pst ct W σ S H R Q (bltD b ds) → r vs H Q
theorem rdA1 {K : PySem.W.Frag} {S H : Hp} {vs : List V} {d : D} (h : RRdA K S H vs [d]) : ∃ v, vs = [v] ∧ RRd K H S H v d := by
  cases vs with
  | nil => exact h.elim
  | cons v r =>
    cases r with
    | nil => exact ⟨v, rfl, h.1⟩
    | cons w r => exact h.2.elim
theorem rdA2 {K : PySem.W.Frag} {S H : Hp} {vs : List V} {d d2 : D} (h : RRdA K S H vs [d, d2]) : ∃ v w, vs = [v, w] ∧ RRd K H S H v d ∧ RRd K H S H w d2 := by
  cases vs with
  | nil => exact h.elim
  | cons v r =>
    cases r with
    | nil => exact h.2.elim
    | cons w r =>
      cases r with
      | nil => exact ⟨v, w, rfl, h.1, h.2.1⟩
      | cons u r => exact h.2.2.elim
/-- of one thing alone -/
theorem blt_one {b : Bi} {R : RT} {r : List V → Hp → VK → Prop} (h2 : ∀ x y, blt2 b x y = .bad) (h : ∀ d v S H σ Q, Same S H → RRd X.K H S H v d → Pst ct W σ S H R Q (blt1 b d) → r [v] H Q) : BltR X ct W b R r := by
  intro ds vs S H σ Q sm hr hp
  match ds, hr, hp with
  | [], _, hp => exact hp.elim
  | [d], hr, hp =>
    obtain ⟨v, rfl, q⟩ := rdA1 hr
    exact h d v S H σ Q sm q hp
  | [d, d2], _, hp =>
    have hp : Pst ct W σ S H R Q (blt2 b d d2) := hp
    rw [h2] at hp
    exact hp.elim
  | _ :: _ :: _ :: _, _, hp => exact hp.elim
theorem blt2_bad {b : Bi} (h1 : b ≠ .max2) (h2 : b ≠ .min2) (h3 : b ≠ .maxT2 := by decide) : ∀ x y, blt2 b x y = .bad := fun x y => by
  cases x with
  | tuple i =>
    cases y with
    | tuple j => cases b <;> first | rfl | exact absurd rfl h3
    | _ => rfl
  | int i =>
    cases y with
    | int j => cases b <;> first | rfl | exact absurd rfl h1 | exact absurd rfl h2
    | _ => rfl
  | _ => rfl
theorem seq_v {K : PySem.W.Frag} {S H : Hp} {v : V} {d : D} {xs : List D} (sm : Same S H) (h : RRd K H S H v d) (e : seqOf d = some xs) : ∃ a vs, v = .ref a ∧ DpAll K S vs xs ∧ ((d = .list xs ∧ SqL K H a vs) ∨ (d = .tuple xs ∧ SqT K S a vs)) := by
  cases d with
  | list ds => cases e; obtain ⟨a, vs, rfl, s, q⟩ := rd_lst h; exact ⟨a, vs, rfl, q, .inl ⟨rfl, s⟩⟩
  | tuple ds => cases e; obtain ⟨a, vs, rfl, s, q⟩ := rd_tup h; exact ⟨a, vs, rfl, q, .inr ⟨rfl, s⟩⟩
  | _ => cases e
theorem over_ints {σ : L2.St} {S H : Hp} {R : RT} {Q : VK} {d : D} {g : List Int → Res D} {v : V} (h : RRd X.K H S H v d) (hp : Pst ct W σ S H R Q (overInts d g)) : ∃ a ns, v = .ref a ∧ SqL X.K H a (ns.map V.int) ∧ Pst ct W σ S H R Q (g ns) := by
  cases d with
  | list ds =>
    have hp : Pst ct W σ S H R Q (match intsOf ds with
      | some ns => g ns
      | none => .bad) := hp
    cases q : intsOf ds with
    | none => rw [q] at hp; exact hp.elim
    | some ns =>
      rw [q] at hp
      obtain ⟨a, xs, rfl, s, w⟩ := rd_lst h
      rw [small_int q] at w
      rw [dps_ints.mp w] at s
      exact ⟨a, ns, rfl, s, hp⟩
  | _ => exact hp.elim
theorem over_bools {σ : L2.St} {S H : Hp} {R : RT} {Q : VK} {d : D} {g : List Bool → Res D} {v : V} (h : RRd X.K H S H v d) (hp : Pst ct W σ S H R Q (overBools d g)) : ∃ a ns, v = .ref a ∧ SqL X.K H a (ns.map V.bl) ∧ Pst ct W σ S H R Q (g ns) := by
  cases d with
  | list ds =>
    have hp : Pst ct W σ S H R Q (match boolsOf ds with
      | some ns => g ns
      | none => .bad) := hp
    cases q : boolsOf ds with
    | none => rw [q] at hp; exact hp.elim
    | some ns =>
      rw [q] at hp
      obtain ⟨a, xs, rfl, s, w⟩ := rd_lst h
      rw [small_bool q] at w
      rw [dps_bls.mp w] at s
      exact ⟨a, ns, rfl, s, hp⟩
  | _ => exact hp.elim
theorem int_text {z : Str} {σ : L2.St} {S H : Hp} {Q : VK} (hp : Pst ct W σ S H (RSh X.K) Q (match PySem.intText? z with
    | some n => .ok (.int n)
    | none => .bad)) : ∃ n, PySem.intText? z = some n ∧ Pst ct W σ S H (RSh X.K) Q (.ok (.int n)) := by
  cases q : PySem.intText? z with
  | none => rw [q] at hp; exact hp.elim
  | some n => rw [q] at hp; exact ⟨n, rfl, hp⟩
theorem ns_none {K : PySem.W.Frag} {h : Heap} {a : Addr} {mg : Str → Option Value} {n : Str} (I : K.In h) (G : h.Ns a mg) (e : PySem.W.nsIn K a n = some none) : mg n = none := by
  obtain ⟨o, es, ep, ho, hd, _, hf⟩ := G
  unfold PySem.W.nsIn at e
  split at e
  · rename_i c d es' n' sl q
    have := I _ _ q
    rw [ho] at this
    cases this
    cases hd
    split at e
    · cases e
    · rename_i he
      rw [← hf]
      unfold nsFind findBy
      rw [← Array.find?_toList, he]
      rfl
  · cases e
theorem no_digits {pins : List (Addr × Obj)} {σ : L2.St} {H : Hp} {s : Shared} (hd : PySem.W.nsIn X.K cStatics "sys.int_max_str_digits" = some none) (I : Inv X pins σ H s) : s.heap.NoDigits := by
  obtain ⟨mc, h1, _⟩ := I.nolimit
  exact ⟨mc, h1, ns_none I.kIn h1 hd⟩
theorem call_str_intL (hc : X.calm = true) (hd : PySem.W.nsIn X.K cStatics "sys.int_max_str_digits" = some none) : CallR X (.type "str") (fun xs H Q => ∃ i : Int, xs = [.int i] ∧ i.natAbs < 10 ^ 1000 ∧ Q (.str (toString i)) H) := by
  intro pins s σ H xs us Q I r h
  obtain ⟨i, rfl, hz, q⟩ := h
  obtain ⟨u, rfl, t, rfl⟩ := vals1 r
  exact PyProof.Rows.str_of_int_or (I.ok.hd hc) (no_digits hd I) (fun _ => ⟨.str _, H, I.tok _, ⟨_, rfl⟩, q⟩) fun h2 => absurd hz (by
    have : 10 ^ 1000 ≤ 10 ^ 4300 := Nat.pow_le_pow_right (by decide) (by decide)
    omega)
theorem blt_rule (hc : X.calm = true) (hu : X.A.units + 64 < cLine) (b : Bi) (hdg : b = .strL → PySem.W.nsIn X.K cStatics "sys.int_max_str_digits" = some none) : ∃ r, CallR X b.val r ∧ BltR X ct W b (if isFresh (.blt b .nil) = true then RFr X.K else RSh X.K) r := by
  cases b with
  | len =>
    refine ⟨_, call_len, blt_one (blt2_bad (by decide) (by decide)) fun d v S H σ Q sm hr hp => ?_⟩
    cases d with
    | list ds =>
      obtain ⟨a, xs, rfl, s, q⟩ := rd_lst hr
      exact ⟨_, xs.length, rfl, .inl ⟨xs, s, rfl⟩, by rw [dps_len q]; exact hp _ S H (Ext.refl sm) (.int _)⟩
    | tuple ds =>
      obtain ⟨a, xs, rfl, s, q⟩ := rd_tup hr
      exact ⟨_, xs.length, rfl, .inr ⟨xs, same_t sm s, rfl⟩, by rw [dps_len q]; exact hp _ S H (Ext.refl sm) (.int _)⟩
    | str z =>
      obtain ⟨g1, g2⟩ := pst_guard hp
      rw [rd_str hr]
      exact ⟨_, z.length, rfl, ⟨lim_le g1, rfl⟩, g2 _ S H (Ext.refl sm) (.int _)⟩
    | _ => exact hp.elim
  | list =>
    refine ⟨_, call_list_of, blt_one (blt2_bad (by decide) (by decide)) fun d v S H σ Q sm hr hp => ?_⟩
    have hp : Pst ct W σ S H (RFr X.K) Q (match seqOf d with
      | some xs => .ok (.list xs)
      | none => .bad) := hp
    cases q : seqOf d with
    | none => rw [q] at hp; exact hp.elim
    | some xs =>
      rw [q] at hp
      obtain ⟨a, vs, rfl, w, s⟩ := seq_v sm hr q
      refine ⟨a, vs, rfl, ?_, fun l hl => hp _ _ _ (Ext.made sm hl) ⟨l, _, _, rfl, rfl, upd_same, Same.free sm hl, hl, w⟩⟩
      rcases s with ⟨_, s⟩ | ⟨_, s⟩
      · exact .inl s
      · exact .inr (same_t sm s)
  | tuple =>
    refine ⟨_, call_tuple_of, blt_one (blt2_bad (by decide) (by decide)) fun d v S H σ Q sm hr hp => ?_⟩
    have hp : Pst ct W σ S H (RSh X.K) Q (match seqOf d with
      | some xs => .ok (.tuple xs)
      | none => .bad) := hp
    cases q : seqOf d with
    | none => rw [q] at hp; exact hp.elim
    | some xs =>
      rw [q] at hp
      obtain ⟨a, vs, rfl, w, s⟩ := seq_v sm hr q
      rcases s with ⟨_, s⟩ | ⟨_, s⟩
      · refine ⟨a, vs, rfl, .inl ⟨s, fun l hl => ?_⟩⟩
        have x := Ext.laid (o := HO.tup vs) sm hl
        exact hp _ _ _ x (.tup (SqT.of upd_same) (dps_mono x.s _ _ w))
      · exact ⟨a, vs, rfl, .inr ⟨same_t sm s, hp _ S H (Ext.refl sm) (.tup s w)⟩⟩
  | int =>
    refine ⟨_, CallR.or call_int1 call_int_str, blt_one (blt2_bad (by decide) (by decide)) fun d v S H σ Q sm hr hp => ?_⟩
    cases d with
    | int i => rw [rd_int hr]; exact .inl (.inl ⟨i, rfl, hp _ S H (Ext.refl sm) (.int _)⟩)
    | bool i => rw [rd_bl hr]; exact .inl (.inr ⟨i, rfl, hp _ S H (Ext.refl sm) (.int _)⟩)
    | str z =>
      obtain ⟨g1, g2⟩ := pst_guard hp
      obtain ⟨n, e, g3⟩ := int_text g2
      rw [rd_str hr]
      exact .inr ⟨z, n, rfl, e, of_decide_eq_true g1, g3 _ S H (Ext.refl sm) (.int _)⟩
    | _ => exact hp.elim
  | str =>
    refine ⟨_, call_str_int, blt_one (blt2_bad (by decide) (by decide)) fun d v S H σ Q sm hr hp => ?_⟩
    cases d with
    | int i =>
      obtain ⟨g1, g2⟩ := pst_guard hp
      rw [rd_int hr]
      exact ⟨i, rfl, of_decide_eq_true g1, g2 _ S H (Ext.refl sm) (.str _)⟩
    | _ => exact hp.elim
  | strL =>
    refine ⟨_, call_str_intL hc (hdg rfl), blt_one (blt2_bad (by decide) (by decide)) fun d v S H σ Q sm hr hp => ?_⟩
    cases d with
    | int i =>
      obtain ⟨g1, g2⟩ := pst_guard hp
      rw [rd_int hr]
      exact ⟨i, rfl, of_decide_eq_true g1, g2 _ S H (Ext.refl sm) (.str _)⟩
    | _ => exact hp.elim
  | abs =>
    refine ⟨_, call_abs, blt_one (blt2_bad (by decide) (by decide)) fun d v S H σ Q sm hr hp => ?_⟩
    cases d with
    | int i => rw [rd_int hr]; exact ⟨i, rfl, hp _ S H (Ext.refl sm) (.int _)⟩
    | _ => exact hp.elim
  | max2 =>
    refine ⟨_, call_max2 hc, fun ds vs S H σ Q sm hr hp => ?_⟩
    match ds, hr, hp with
    | [], _, hp => exact hp.elim
    | [d], _, hp => exact hp.elim
    | [d, d2], hr, hp =>
      obtain ⟨v, w, rfl, q1, q2⟩ := rdA2 hr
      cases d with
      | int i =>
        cases d2 with
        | int j => rw [rd_int q1, rd_int q2]; exact ⟨i, j, rfl, hp _ S H (Ext.refl sm) (.int _)⟩
        | _ => exact hp.elim
      | tuple i => cases d2 <;> exact hp.elim
      | _ => exact hp.elim
    | _ :: _ :: _ :: _, _, hp => exact hp.elim
  | min2 =>
    refine ⟨_, call_min2 hc, fun ds vs S H σ Q sm hr hp => ?_⟩
    match ds, hr, hp with
    | [], _, hp => exact hp.elim
    | [d], _, hp => exact hp.elim
    | [d, d2], hr, hp =>
      obtain ⟨v, w, rfl, q1, q2⟩ := rdA2 hr
      cases d with
      | int i =>
        cases d2 with
        | int j => rw [rd_int q1, rd_int q2]; exact ⟨i, j, rfl, hp _ S H (Ext.refl sm) (.int _)⟩
        | _ => exact hp.elim
      | tuple i => cases d2 <;> exact hp.elim
      | _ => exact hp.elim
    | _ :: _ :: _ :: _, _, hp => exact hp.elim
  | max1 =>
    refine ⟨_, cr_max hc, blt_one (blt2_bad (by decide) (by decide)) fun d v S H σ Q sm hr hp => ?_⟩
    obtain ⟨a, ns, rfl, s, hp2⟩ := over_ints hr (show Pst ct W σ S H (RSh X.K) Q (overInts d fun ns => guard' (!ns.isEmpty) (.ok (.int (maxOf ns)))) from hp)
    obtain ⟨g1, g2⟩ := pst_guard hp2
    have ne : ns ≠ [] := by
      intro e; subst e; cases g1
    refine ⟨a, ns, rfl, s, List.length_pos_iff.mpr ne, fun m h1 h2 => ?_⟩
    obtain ⟨q1, q2⟩ := maxOf_mem ne
    have e : m = maxOf ns := Int.le_antisymm (q2 m h1) (h2 _ q1)
    rw [e]
    exact g2 _ S H (Ext.refl sm) (.int _)
  | min1 =>
    refine ⟨_, cr_min hc, blt_one (blt2_bad (by decide) (by decide)) fun d v S H σ Q sm hr hp => ?_⟩
    obtain ⟨a, ns, rfl, s, hp2⟩ := over_ints hr (show Pst ct W σ S H (RSh X.K) Q (overInts d fun ns => guard' (!ns.isEmpty) (.ok (.int (minOf ns)))) from hp)
    obtain ⟨g1, g2⟩ := pst_guard hp2
    have ne : ns ≠ [] := by
      intro e; subst e; cases g1
    refine ⟨a, ns, rfl, s, List.length_pos_iff.mpr ne, fun m h1 h2 => ?_⟩
    obtain ⟨q1, q2⟩ := minOf_mem ne
    have e : m = minOf ns := Int.le_antisymm (h2 _ q1) (q2 m h1)
    rw [e]
    exact g2 _ S H (Ext.refl sm) (.int _)
  | sum =>
    refine ⟨_, cr_sumB hc, blt_one (blt2_bad (by decide) (by decide)) fun d v S H σ Q sm hr hp => ?_⟩
    cases d with
    | list ds =>
      obtain ⟨a, ns, rfl, s, hp2⟩ := over_ints hr (show Pst ct W σ S H (RSh X.K) Q (overInts (.list ds) fun ns => .ok (.int ns.sum)) from hp)
      exact ⟨a, ns, rfl, .inl s, hp2 _ S H (Ext.refl sm) (.int _)⟩
    | tuple ds =>
      obtain ⟨a, xs, rfl, s, w⟩ := rd_tup hr
      have hp : Pst ct W σ S H (RSh X.K) Q (match intsOf ds with
        | some ns => .ok (.int ns.sum)
        | none => .bad) := hp
      cases q : intsOf ds with
      | none => rw [q] at hp; exact hp.elim
      | some ns =>
        rw [q] at hp
        rw [small_int q] at w
        rw [dps_ints.mp w] at s
        exact ⟨a, ns, rfl, .inr (same_t sm s), hp _ S H (Ext.refl sm) (.int _)⟩
    | _ => exact hp.elim
  | all =>
    refine ⟨_, cr_all hc, blt_one (blt2_bad (by decide) (by decide)) fun d v S H σ Q sm hr hp => ?_⟩
    obtain ⟨a, ns, rfl, s, hp2⟩ := over_bools hr (show Pst ct W σ S H (RSh X.K) Q (overBools d fun bs => .ok (.bool (bs.all id))) from hp)
    exact ⟨a, ns, rfl, s, hp2 _ S H (Ext.refl sm) (.bl _)⟩
  | any =>
    refine ⟨_, cr_any hc, blt_one (blt2_bad (by decide) (by decide)) fun d v S H σ Q sm hr hp => ?_⟩
    obtain ⟨a, ns, rfl, s, hp2⟩ := over_bools hr (show Pst ct W σ S H (RSh X.K) Q (overBools d fun bs => .ok (.bool (bs.any id))) from hp)
    exact ⟨a, ns, rfl, s, hp2 _ S H (Ext.refl sm) (.bl _)⟩
  | maxT2 =>
    refine ⟨_, cr_maxT2 hc hu, fun ds vs S H σ Q sm hr hp => ?_⟩
    match ds, hr, hp with
    | [], _, hp => exact hp.elim
    | [d], _, hp => exact hp.elim
    | [d, d2], hr, hp =>
      obtain ⟨v, w, rfl, q1, q2⟩ := rdA2 hr
      cases d with
      | int i => cases d2 <;> exact hp.elim
      | tuple i =>
        cases d2 with
        | tuple j =>
          obtain ⟨g1, g2⟩ := pst_guard (show Pst ct W σ S H (RSh X.K) Q (guard' (ordOk (.tuple i) (.tuple j)) (.ok (if PySem.W.dataLt (.tuple i) (.tuple j) = true then .tuple j else .tuple i))) from hp)
          refine ⟨v, w, i, j, rfl, dp_of_rd sm q1, dp_of_rd sm q2, g1, g2 _ S H (Ext.refl sm) ?_⟩
          show Dp X.K S _ _
          by_cases c : PySem.W.dataLt (.tuple i) (.tuple j) = true
          · rw [if_pos c, if_pos c]; exact q2
          · rw [if_neg c, if_neg c]; exact q1
        | _ => exact hp.elim
      | _ => exact hp.elim
    | _ :: _ :: _ :: _, _, hp => exact hp.elim
  | maxT1 =>
    refine ⟨_, cr_maxT1 hc hu, blt_one (blt2_bad (by decide) (by decide)) fun d v S H σ Q sm hr hp => ?_⟩
    cases d with
    | list ds =>
      cases ds with
      | nil => exact hp.elim
      | cons d r =>
        obtain ⟨g1, g2⟩ := pst_guard (show Pst ct W σ S H (RSh X.K) Q (guard' (allOrd (d :: r)) (.ok (PySem.W.maxD d r))) from hp)
        obtain ⟨a, xs, rfl, s, q⟩ := rd_lst hr
        refine ⟨a, xs, d, r, rfl, s, dps_mono sm _ _ q, g1, fun i x e1 e2 => g2 x S H (Ext.refl sm) ?_⟩
        obtain ⟨y, e3, e4⟩ := dps_at q e2
        rw [e1] at e3
        cases e3
        exact e4
    | _ => exact hp.elim
  | sorted =>
    refine ⟨_, cr_sorted hu, blt_one (blt2_bad (by decide) (by decide)) fun d v S H σ Q sm hr hp => ?_⟩
    cases d with
    | list ds =>
      obtain ⟨g1, g2⟩ := pst_guard (show Pst ct W σ S H (RFr X.K) Q (guard' (allOrd ds && decide (ds.length ≤ lim)) (.ok (.list (ds.mergeSort (PySem.W.dataLe false id))))) from hp)
      rw [Bool.and_eq_true] at g1
      obtain ⟨a, xs, rfl, s, q⟩ := rd_lst hr
      refine ⟨a, xs, ds, rfl, s, dps_mono sm _ _ q, g1.1, lim_le g1.2, fun l ys hl hy => ?_⟩
      exact g2 _ _ _ (Ext.made sm hl) ⟨l, _, _, rfl, rfl, upd_same, Same.free sm hl, hl, hy S q⟩
    | _ => exact hp.elim
theorem blt_pe {b : Bi} {r : List V → Hp → VK → Prop} {ta : TA} (s : Stc X ct k Γ N sc W) (hr : CallR X b.val r) (h1 : Γ.bl.contains b.name = true) (h2 : glB sc b.name = true) {p : Pos} (hs : notStar t = true) (hm : mEs Γ N es sc ts = true) (pa : PA X (t :: ts) ta) :
    PE X (.Call (.Name b.name p) (t :: ts) [] pos) (tCB r ta) := by
  have hb : X.mg b.name = none := s.bl _ (List.contains_iff_mem.mp h1)
  have he := star_cons (env := X.env) (ts := ts) hs
  have hpl := star_none (env := X.env) pos hm
  cases b with
  | len => exact pe_callB hr (s.gl h2) hb (by decide +kernel) pa (by decide) (by decide) he hpl
  | list => exact pe_callTy hr (s.gl h2) hb (by decide +kernel) pa (by decide) (by decide) he hpl
  | tuple => exact pe_callTy hr (s.gl h2) hb (by decide +kernel) pa (by decide) (by decide) he hpl
  | int => exact pe_callTy hr (s.gl h2) hb (by decide +kernel) pa (by decide) (by decide) he hpl
  | str => exact pe_callTy hr (s.gl h2) hb (by decide +kernel) pa (by decide) (by decide) he hpl
  | strL => exact pe_callTy hr (s.gl h2) hb (by decide +kernel) pa (by decide) (by decide) he hpl
  | abs => exact pe_callB hr (s.gl h2) hb (by decide +kernel) pa (by decide) (by decide) he hpl
  | max2 => exact pe_callB hr (s.gl h2) hb (by decide +kernel) pa (by decide) (by decide) he hpl
  | min2 => exact pe_callB hr (s.gl h2) hb (by decide +kernel) pa (by decide) (by decide) he hpl
  | max1 => exact pe_callB hr (s.gl h2) hb (by decide +kernel) pa (by decide) (by decide) he hpl
  | min1 => exact pe_callB hr (s.gl h2) hb (by decide +kernel) pa (by decide) (by decide) he hpl
  | sum => exact pe_callB hr (s.gl h2) hb (by decide +kernel) pa (by decide) (by decide) he hpl
  | all => exact pe_callB hr (s.gl h2) hb (by decide +kernel) pa (by decide) (by decide) he hpl
  | any => exact pe_callB hr (s.gl h2) hb (by decide +kernel) pa (by decide) (by decide) he hpl
  | maxT2 => exact pe_callB hr (s.gl h2) hb (by decide +kernel) pa (by decide) (by decide) he hpl
  | maxT1 => exact pe_callB hr (s.gl h2) hb (by decide +kernel) pa (by decide) (by decide) he hpl
  | sorted => exact pe_callB hr (s.gl h2) hb (by decide +kernel) pa (by decide) (by decide) he hpl
theorem args_split {es : E} {ts : List Expr} (hc : 0 < cnt es) (hm : mEs Γ N es sc ts = true) : ∃ t r es', ts = t :: r ∧ notStar t = true ∧ mEs Γ N es' sc r = true := by
  cases es <;> first | (exact absurd hc (Nat.lt_irrefl 0)) | skip
  cases ts with
  | nil => simp [mEs] at hm
  | cons t r =>
    unfold mEs at hm
    rw [Bool.and_eq_true, Bool.and_eq_true] at hm
    exact ⟨t, r, _, rfl, hm.1.1, hm.2⟩
theorem snd_blt (s : Stc X ct k Γ N sc W) {b : Bi} {n : Str} {p : Pos} (h0 : (!decide (b = .strL) || Γ.dig) = true) (hn : b.name = n) (h1 : Γ.bl.contains n = true) (h2 : glB sc n = true) (hc : 0 < cnt es) (hm : mEs Γ N es sc ts = true) (hl : SndL X ct Γ W es ts) : Snd X ct Γ W (.blt b es) (.Call (.Name n p) ts [] pos) := by
  subst hn
  obtain ⟨r, hr, hb⟩ := blt_rule (X := X) (ct := ct) (W := W) s.calm s.room.units b fun e => s.dig (by
    subst e
    simpa using h0)
  obtain ⟨t, ts', es', rfl, hs, hm'⟩ := args_split hc hm
  obtain ⟨ta, pa, sa⟩ := hl.rd
  have p1 := blt_pe (pos := pos) (p := p) s hr h1 h2 hs hm' pa
  have h : ∀ R, Mn R → (if isFresh (.blt b .nil) = true then RFr X.K else RSh X.K) = R → EvP X ct W (tCB r ta) R (ev Γ (.blt b es) false) := fun R m er S H σ ρ Q rp hp => by
    refine sa.bind rp m hp fun ds vs S1 H1 q e1 r1 rp1 hp1 => ?_
    rw [← er] at hp1
    exact hb ds vs S1 H1 σ Q rp1.sub r1 hp1
  by_cases f : isFresh (.blt b .nil) = true
  · rw [if_pos f] at h
    refine Snd.new p1 (h _ mn_fr rfl) (fun _ => rfl) (fun _ _ => rfl) (fun _ => rfl) (fun _ _ _ q => by cases q)
  · rw [if_neg f] at h
    have f2 : isFresh (.blt b es) = false := by
      have : isFresh (.blt b es) = isFresh (.blt b .nil) := rfl
      rw [this]; simpa using f
    refine Snd.plain p1 (h _ mn_sh rfl) (fun _ => rfl) ?_ (fun _ => rfl) (fun _ _ _ q => by cases q) f2
    show isFresh (.blt b es) = false
    exact f2
/-! ### isinstance -/
def tyS : Ty → String
  | .int => "int" | .bool => "bool" | .str => "str" | .list => "list" | .tuple => "tuple"
theorem ty_pe (s : Stc X ct k Γ N sc W) (ty : Ty) {p : Pos} (h1 : Γ.bl.contains ty.name = true) (h2 : glB sc ty.name = true) : PE X (.Name ty.name p) (tC (.ty (tyS ty))) := by
  have hb : X.mg ty.name = none := s.bl _ (List.contains_iff_mem.mp h1)
  cases ty with
  | int => exact pe_bltn (u := .type "int") (s.gl h2) hb (by decide +kernel) rfl
  | bool => exact pe_bltn (u := .type "bool") (s.gl h2) hb (by decide +kernel) rfl
  | str => exact pe_bltn (u := .type "str") (s.gl h2) hb (by decide +kernel) rfl
  | list => exact pe_bltn (u := .type "list") (s.gl h2) hb (by decide +kernel) rfl
  | tuple => exact pe_bltn (u := .type "tuple") (s.gl h2) hb (by decide +kernel) rfl
theorem tyx_l {K : PySem.W.Frag} {H : Hp} {a : Addr} {xs : List V} (h : SqL K H a xs) : TyX K H (.ref a) (.type "list") := by
  rcases h with (h | ⟨o, h⟩) | ⟨o, its, n, e, c, _⟩
  · exact .base (.lst h)
  · exact .base (.frz h)
  · exact .kList e c
theorem tyx_t {K : PySem.W.Frag} {H : Hp} {a : Addr} {xs : List V} (h : SqT K H a xs) : TyX K H (.ref a) (.type "tuple") := by
  rcases h with (h | ⟨o, h⟩) | ⟨o, its, n, e, c, _⟩
  · exact .base (.tup h)
  · exact .fTuple h
  · exact .kTuple e c
theorem isi_rule (ty : Ty) {d : D} {v : V} {σ : L2.St} {S H : Hp} {Q : VK} (sm : Same S H) (h : RRd X.K H S H v d) (hp : Pst ct W σ S H (RSh X.K) Q (isiD ty d)) : rIsi X.K [v, .ty (tyS ty)] H Q := by
  cases d with
  | none => rw [rd_non h]; cases ty <;> exact ⟨_, _, _, _, _, rfl, .ty _, .base .non, kit_ty (by decide +kernel), hp _ S H (Ext.refl sm) (.bl _)⟩
  | bool b => rw [rd_bl h]; cases ty <;> exact ⟨_, _, _, _, _, rfl, .ty _, .base (.bl _), kit_ty (by decide +kernel), hp _ S H (Ext.refl sm) (.bl _)⟩
  | int b => rw [rd_int h]; cases ty <;> exact ⟨_, _, _, _, _, rfl, .ty _, .base (.int _), kit_ty (by decide +kernel), hp _ S H (Ext.refl sm) (.bl _)⟩
  | str b => rw [rd_str h]; cases ty <;> exact ⟨_, _, _, _, _, rfl, .ty _, .base (.str _), kit_ty (by decide +kernel), hp _ S H (Ext.refl sm) (.bl _)⟩
  | list ds => obtain ⟨a, xs, rfl, s, _⟩ := rd_lst h; cases ty <;> exact ⟨_, _, _, _, _, rfl, .ty _, tyx_l s, kit_ty (by decide +kernel), hp _ S H (Ext.refl sm) (.bl _)⟩
  | tuple ds => obtain ⟨a, xs, rfl, s, _⟩ := rd_tup h; cases ty <;> exact ⟨_, _, _, _, _, rfl, .ty _, tyx_t (same_t sm s), kit_ty (by decide +kernel), hp _ S H (Ext.refl sm) (.bl _)⟩
  | dict z => exact hp.elim
theorem snd_isi (s : Stc X ct k Γ N sc W) {ty : Ty} {n m : Str} {p p2 : Pos} (hn : ("isinstance" : Str) = n) (h1 : Γ.bl.contains n = true) (h2 : glB sc n = true) (hs : notStar x = true) (ha : Snd X ct Γ W a x) (hm : ty.name = m) (h3 : Γ.bl.contains m = true) (h4 : glB sc m = true) :
    Snd X ct Γ W (.isi ty a) (.Call (.Name n p) [x, .Name m p2] [] pos) := by
  subst hn
  subst hm
  obtain ⟨ta, pa, _, ra, _⟩ := ha.pe
  have pz := ty_pe s ty (p := p2) h3 h4
  have hb : X.mg "isinstance" = none := s.bl _ (List.contains_iff_mem.mp h1)
  have pl : PA X [x, .Name ty.name p2] (tCons ta (tCons (tC (.ty (tyS ty))) tNil)) := pa_cons pa (pa_cons pz pa_nil) (star_cons hs)
  have p1 : PE X (.Call (.Name "isinstance" p) [x, .Name ty.name p2] [] pos) (tCB (rIsi X.K) (tCons ta (tCons (tC (.ty (tyS ty))) tNil))) :=
    pe_callB call_isi (s.gl h2) hb (by decide +kernel) pl (by decide) (by decide) (star_cons hs) rfl
  refine Snd.plain p1 (fun S H σ ρ Q rp hp => ?_) (fun _ => rfl) rfl (fun _ => rfl) (fun _ _ _ q => by cases q) rfl
  refine ra.bind rp mn_sh hp fun d v S1 H1 _ e1 r1 rp1 hp1 => ?_
  exact isi_rule ty rp1.sub r1 hp1

/-! ### methods -/
theorem find_v {x : V} : ∀ {ys : List V} {n j : Nat}, findV x ys n = some j → n ≤ j ∧ (∃ z, ys[j - n]? = some z ∧ eqV z x = true) ∧ ∀ m z, m < j - n → ys[m]? = some z → eqV z x = false
  | [], n, j, h => by cases h
  | y :: r, n, j, h => by
    unfold findV at h
    split at h
    · cases h
      exact ⟨Nat.le_refl _, ⟨y, by simp, by assumption⟩, fun m z hm => by omega⟩
    · rename_i hne
      obtain ⟨h1, ⟨z, h2, h3⟩, h4⟩ := find_v h
      refine ⟨by omega, ⟨z, ?_, h3⟩, fun m z hm e => ?_⟩
      · rw [show j - n = (j - (n + 1)) + 1 by omega]
        simpa using h2
      · cases m with
        | zero => simp at e; subst e; simpa using hne
        | succ m => exact h4 m z (by omega) (by simpa using e)
theorem snd_mth {m : Mt} {n : Str} {p q : Pos} (hn : m.name = n) (hl : (p.endLine == q.line) = true) (h0 : notCall0 x = true) (hs : notStar y = true) (ha : Snd X ct Γ W a x) (he : Snd X ct Γ W e y) : Snd X ct Γ W (.mth m a e) (.Call (.Attribute x n p) [y] [] q) := by
  subst hn
  obtain ⟨ta, pa, _, ra, _⟩ := ha.pe
  obtain ⟨tb, pb, _, rb, _⟩ := he.pe
  have hbase : ∀ n : Str, attributeBase x n X.env (eval x X.env) = eval x X.env := fun n => base_ok h0
  have hst : starEach [y] X.env = [(false, eval y X.env)] := star_cons hs
  cases m with
  | join =>
    refine Snd.plain (pe_join pa pb hst (hbase _) hl) (fun S H σ ρ Q rp hp => ?_) (fun _ => rfl) rfl (fun _ => rfl) (fun _ _ _ q => by cases q) rfl
    refine ra.bind rp mn_sh hp fun d1 v S1 H1 _ e1 r1 rp1 hp1 => ?_
    obtain ⟨g0, hp1⟩ := pst_guard hp1
    cases d1 with
    | str s =>
      rw [rd_str r1]
      refine ⟨⟨s, rfl⟩, rb.bind rp1 mn_sh hp1 fun d2 u S2 H2 _ e2 r2 rp2 hp2 => ?_⟩
      have hp2 : Pst ct W σ S2 H2 (RSh X.K) Q (match seqOf d2 with
        | some xs => (match strsOf xs with
          | some ys => guard' (decide ((ys.map (·.length)).sum + ys.length * s.length ≤ lim)) (.ok (.str (Txt.join s ys)))
          | none => .bad)
        | none => .bad) := hp2
      cases w : seqOf d2 with
      | none => rw [w] at hp2; exact hp2.elim
      | some xs =>
        rw [w] at hp2
        have hp2 : Pst ct W σ S2 H2 (RSh X.K) Q (match strsOf xs with
          | some ys => guard' (decide ((ys.map (·.length)).sum + ys.length * s.length ≤ lim)) (.ok (.str (Txt.join s ys)))
          | none => .bad) := hp2
        cases w2 : strsOf xs with
        | none => rw [w2] at hp2; exact hp2.elim
        | some ys =>
          rw [w2] at hp2
          obtain ⟨g1, g2⟩ := pst_guard hp2
          obtain ⟨l, vs, rfl, dq, sq⟩ := seq_v rp2.sub r2 w
          rw [small_str w2] at dq
          rw [dps_strs.mp dq] at sq
          refine ⟨s, l, ys, rfl, rfl, ?_, of_decide_eq_true g1, g2 _ S2 H2 (Ext.refl rp2.sub) (.str _)⟩
          rcases sq with ⟨_, sq⟩ | ⟨_, sq⟩
          · exact .inl sq
          · exact .inr (same_t rp2.sub sq)
    | _ => cases g0
  | split =>
    refine Snd.new (pe_split pa pb hst (hbase _) hl) (fun S H σ ρ Q rp hp => ?_) (fun _ => rfl) (fun _ _ => rfl) (fun _ => rfl) (fun _ _ _ q => by cases q)
    refine ra.bind rp mn_fr hp fun d1 v S1 H1 _ e1 r1 rp1 hp1 => ?_
    obtain ⟨g0, hp1⟩ := pst_guard hp1
    cases d1 with
    | str s =>
      rw [rd_str r1]
      refine ⟨⟨s, rfl⟩, rb.bind rp1 mn_fr hp1 fun d2 u S2 H2 _ e2 r2 rp2 hp2 => ?_⟩
      cases d2 with
      | str s2 =>
        obtain ⟨g1, g2⟩ := pst_guard hp2
        rw [Bool.and_eq_true] at g1
        rw [rd_str r2]
        refine ⟨s, s2, rfl, rfl, by simpa using g1.1, lim_le g1.2, fun l hl => ?_⟩
        exact g2 _ _ _ (Ext.made rp2.sub hl) ⟨l, _, _, rfl, rfl, upd_same, Same.free rp2.sub hl, hl, dps_strs.mpr rfl⟩
      | _ => exact hp2.elim
    | _ => cases g0
  | starts =>
    refine Snd.plain (pe_m1 PySem.F.slot_str_startswith PySem.F.type_str_startswith mt_startswith pa pb hst (hbase _) hl) (fun S H σ ρ Q rp hp => ?_) (fun _ => rfl) rfl (fun _ => rfl) (fun _ _ _ q => by cases q) rfl
    refine ra.bind rp mn_sh hp fun d1 v S1 H1 _ e1 r1 rp1 hp1 => ?_
    obtain ⟨g0, hp1⟩ := pst_guard hp1
    cases d1 with
    | str s =>
      rw [rd_str r1]
      refine ⟨⟨s, rfl⟩, rb.bind rp1 mn_sh hp1 fun d2 u S2 H2 _ e2 r2 rp2 hp2 => ?_⟩
      cases d2 with
      | str s2 =>
        rw [rd_str r2]
        exact ⟨s, s2, rfl, rfl, hp2 _ S2 H2 (Ext.refl rp2.sub) (.bl _)⟩
      | _ => exact hp2.elim
    | _ => cases g0
  | index =>
    refine Snd.plain (pe_bm PySem.F.plainAttrs_list PySem.F.slot_list_index PySem.F.type_list_index mt_index pa (pa_cons pb pa_nil (star_cons hs)) (hbase _) (by rw [star_cons hs]; rfl) hl (star_cons hs) rfl) (fun S H σ ρ Q rp hp => ?_) (fun _ => rfl) rfl (fun _ => rfl) (fun _ _ _ q => by cases q) rfl
    refine ra.bind rp mn_sh hp fun d1 v S1 H1 _ e1 r1 rp1 hp1 => ?_
    obtain ⟨g0, hp1⟩ := pst_guard hp1
    cases d1 with
    | list ys =>
      obtain ⟨l, vs, rfl, sq, dq⟩ := rd_lst r1
      refine ⟨.inl ⟨rfl, _, sq⟩, rb.bind rp1 mn_sh hp1 fun d2 u S2 H2 _ e2 r2 rp2 hp2 => ?_⟩
      have hp3 : Pst ct W σ S2 H2 (RSh X.K) Q (match flatD d2 with
        | some a => (match flatAll ys with
          | some vs => (match findV a vs 0 with
            | some n => .ok (.int (n : Nat))
            | none => .bad)
          | none => .bad)
        | none => .bad) := hp2
      cases w : flatD d2 with
      | none => rw [w] at hp3; exact hp3.elim
      | some a =>
        rw [w] at hp3
        have hp4 : Pst ct W σ S2 H2 (RSh X.K) Q (match flatAll ys with
          | some vs => (match findV a vs 0 with
            | some n => .ok (.int (n : Nat))
            | none => .bad)
          | none => .bad) := hp3
        cases w2 : flatAll ys with
        | none => rw [w2] at hp4; exact hp4.elim
        | some us =>
          rw [w2] at hp4
          have hp5 : Pst ct W σ S2 H2 (RSh X.K) Q (match findV a us 0 with
            | some n => .ok (.int (n : Nat))
            | none => .bad) := hp4
          cases w3 : findV a us 0 with
          | none => rw [w3] at hp5; exact hp5.elim
          | some j =>
            rw [w3] at hp5
            obtain ⟨rfl, f1⟩ := flat_v r2 w
            obtain ⟨rfl, f2⟩ := flat_all dq w2
            obtain ⟨_, ⟨z, h2, h3⟩, h4⟩ := find_v w3
            exact ⟨l, vs, u, j, z, rfl, rfl, e2.h.seq sq, f1, f2, h2, h3, h4, hp5 _ S2 H2 (Ext.refl rp2.sub) (.int _)⟩
    | _ => cases g0
end
end Rf

/-! Rf: reflection. Part HA: enumerate over a tuple. -/
namespace PySem
open Sem (wp)
theorem rf_meets_enumerate_newB {v : Value} {o : Obj} {H : Heap → Prop} (B : Begins v o H) :
    Meets (Builtin.«enumerate.__new__» ⟨[.type "enumerate", v], []⟩) (fun _ R s => H s.heap ∧
      R (.ok (.ret (.ref (s.heap.push o).objs.size))) { s with heap := (s.heap.push o).push { cls := .type "enumerate", data := .fields #[.none, .bool false, .ref s.heap.objs.size, rawInt 0, .none, .none] } }) :=
  .of_wp fun prog w A R s h => by
    obtain ⟨hp, g, d, tk, os⟩ := s; obtain ⟨h1, h⟩ := h
    have hsub := sub_enumerate
    have q1 : ∀ {A' : Around} {E : Value → Shared → Prop} {Q : Value → Shared → Prop}, Q (.ref hp.objs.size) ⟨hp.push o, g, d, tk, os⟩ → wpAny (model prog w) A' (pyIter v) Q E ⟨hp, g, d, tk, os⟩ :=
      fun q => B.iter prog w _ _ ⟨hp, g, d, tk, os⟩ _ h1 q
    wp_walk using q1
    refine wpAny_stack_any fun st => wpAny_pure ?_
    split
    · rename_i c _ _ _ _ _
      cases (c == Value.type "enumerate")
      · wp_walk using q1
        exact ⟨_, rfl, h⟩
      · wp_walk using q1
        exact ⟨_, rfl, h⟩
    · wp_walk using q1
      exact ⟨_, rfl, h⟩
section
variable {prog : Program} {w : World} {A : Around} {E : Value → Shared → Prop} {s : Shared}
theorem rf_enum_begins {v : Value} {o : Obj} {H : Heap → Prop} {Q : Value → Shared → Prop} (B : Begins v o H) (h1 : H s.heap)
    (h : ∀ h', IsEnum h' (s.heap.objs.size + 1) s.heap.objs.size 0 .none → h'.get? s.heap.objs.size = some o → h'.objs.size = s.heap.objs.size + 2 →
      (∀ b o, s.heap.get? b = some o → h'.get? b = some o) → Q (.ref (s.heap.objs.size + 1)) { s with heap := h' }) :
    wpAny (model prog w) A (call (.type "enumerate") [v]) Q E s := by
  refine callType_new F.called_enumerate (by decide) (F.typeCall_enumerate_1 _) (F.newCall_enumerate_1 _) (fun obj => F.args_object_init_2 obj _) F.entry_enumerate_new
    (rf_meets_enumerate_newB B) ⟨h1, ?_⟩
  have hz : (s.heap.push o).objs.size = s.heap.objs.size + 1 := Heap.size_push ..
  show _ ∧ _
  rw [hz]
  have he : IsEnum ((s.heap.push o).push { cls := .type "enumerate", data := .fields #[.none, .bool false, .ref s.heap.objs.size, rawInt 0, .none, .none] }) (s.heap.objs.size + 1) s.heap.objs.size 0 .none := by
    have := Heap.get?_push_size (s.heap.push o) (o := { cls := .type "enumerate", data := .fields #[.none, .bool false, .ref s.heap.objs.size, rawInt 0, .none, .none] }) rfl
    rw [hz] at this; exact this
  refine ⟨⟨_, he, rfl⟩, h _ he (Heap.get?_push_of_some _ (Heap.get?_push_size _ B.free)) (by rw [Heap.size_push, hz]) fun b o x => Heap.get?_push_of_some _ (Heap.get?_push_of_some _ x)⟩
end
end PySem
namespace L2
open PySem PySem.Spec PyProof.Rows
/-- the tuple at a, each item in a new pair -/
def Itet (K : PySem.W.Frag) (a : Addr) : It :=
  ⟨fun i H => ∃ (xs : List V) (x : V), SqT K H a xs ∧ xs[i]? = some x, fun i H v H' => ∃ T x, v = .ref T ∧ H T = none ∧ H' = upd H T (.tup [.int (i : Nat), x]) ∧ ∀ xs, SqT K H a xs → xs[i]? = some x, fun i H => ∃ xs : List V, SqT K H a xs ∧ xs.length ≤ i⟩
theorem turn_enumT {P : Program} {w : World} {K : PySem.W.Frag} {elts : List Expr} {kk : Nat} {tpos : Pos} (a e it : Addr) (hea : e ≠ a) (hia : a ≠ it) :
    Turn P w K (.Tuple elts kk tpos) (Itet K a) [e, it] e (fun i h => (∃ old, IsEnum h e it ((i : Nat) : Int) old) ∧ h.IsTupleIter it a i ∧ e ≠ it) where
  mem := by simp
  obj := fun i h st b hb => by
    obtain ⟨⟨old, he⟩, ⟨o, ho, hc, hd⟩, _⟩ := st
    have e' : b = e ∨ b = it := by simpa using hb
    rcases e' with z | z
    · rw [z]; exact ⟨_, he, fun v q => nomatch q⟩
    · rw [z]; exact ⟨o, ho, fun v q => by rw [hd] at q; cases q⟩
  keep := fun i h h' st k => let ⟨⟨old, he⟩, hi, hne⟩ := st; ⟨⟨old, k e (by simp) _ he⟩, hi.at fun o q => k it (by simp) o q, hne⟩
  item := by
    intro X hP hw hK hc i pins s σ H E I hf st hg
    subst hP hw hK
    obtain ⟨⟨old, he⟩, hit, hne⟩ := st
    obtain ⟨xs, x, hq, hx⟩ := hg
    obtain ⟨its, rv, p, hz⟩ := I.tuple hq
    obtain ⟨u, hu, ru⟩ := rv.get hx
    have hel : e < s.heap.objs.size := Heap.lt_size he
    have hil : it < s.heap.objs.size := by obtain ⟨_, q, _⟩ := hit; exact Heap.lt_size q
    have hp : s.heap.IsTuple a its.toArray := p
    have hi : i < its.toArray.size := by
      have := (List.getElem?_eq_some_iff.mp hu).1
      simpa using this
    have D := Draws.tuple (prog := X.prog) (w := X.w) (A := X.A.in1) (show X.A.in1.handled = none from I.ok.hd hc) it a hia its.toArray
    refine wpAny_pyNext_enum_itemD D he ⟨hit, hp⟩ hi hne (by simp [hne, hea]) fun y h' tk hy ho hst hT hsz hk => ?_
    have hyu : y = u := by
      have h2 : its.toArray[i]? = some u := by simpa using hu
      exact Option.some.inj (hy.symm.trans h2)
    subst hyu
    refine ⟨_, rfl, wpAny_letOwnedTupleGo_enum (s := { s with heap := h', toks := tk + 1 }) ho fun h'' he' sb => ?_⟩
    have hT2 : h''.get? s.heap.objs.size = some { cls := .type "tuple", data := .seq #[.int i tk, y] } := (sb.2 _ (Nat.ne_of_gt hel)).trans hT
    have new : ObjOk X.prog X.w (upd H s.heap.objs.size (.tup [.int (i : Nat), x])) h'' s.heap.objs.size (.tup [.int (i : Nat), x]) :=
      ⟨by show 2 ≤ sizeLine; decide, [.int i tk, y], .cons ⟨_, rfl⟩ (.cons ru .nil), ⟨_, hT2, rfl, _, rfl⟩⟩
    have I1 : Inv X pins σ (upd H s.heap.objs.size (.tup [.int (i : Nat), x])) { s with heap := h'', toks := tk + 1 } :=
      I.turnedNew (ch := [e, it]) (fun b ob hb q => (sb.2 b (fun z => hb (by simp [z]))).trans (hk b ob (fun z => hb (by simp [z])) (fun z => hb (by simp [z])) q)) hf (Nat.le_refl _) new
    refine ⟨.ref s.heap.objs.size, _, I1, rfl, ⟨_, x, rfl, I.hok.fresh (Nat.le_refl _), rfl, fun ys hy => by rw [I.tuple_inj hy hq]; exact hx⟩, ⟨⟨y, ?_⟩, hst.1.at fun o q => (sb.2 it (Ne.symm hne)).trans q, hne⟩, fun b hb => ?_⟩
    · have e1 : ((i + 1 : Nat) : Int) = (i : Int) + 1 := by omega
      rw [e1]; exact he'
    · have hb' : b < s.heap.objs.size := by
        have e' : b = e ∨ b = it := by simpa using hb
        rcases e' with z | z
        · rw [z]; exact hel
        · rw [z]; exact hil
      rw [upd_ne (Nat.ne_of_lt hb')]
      exact (hf b hb).1
  done := by
    intro X hP hw hK hc i pins s σ H E I hf st hg
    subst hP hw hK
    obtain ⟨⟨old, he⟩, hit, hne⟩ := st
    obtain ⟨xs, hq, hx⟩ := hg
    obtain ⟨its, rv, p, hz⟩ := I.tuple hq
    obtain ⟨f0, f1, f2, f3, f4, f5⟩ := hf it (by simp)
    have hl := rv.length
    have hp : s.heap.IsTuple a its.toArray := p
    have D := Draws.tuple (prog := X.prog) (w := X.w) (A := X.A.in1) (show X.A.in1.handled = none from I.ok.hd hc) it a hia its.toArray
    have hit' : s.heap.IsTupleIter it a its.toArray.size ∨ True := .inr trivial
    have hT : s.TypeIs (.ref e) "enumerate" := ⟨_, he, rfl⟩
    unfold pyNext
    refine wpAny_bind (wpAny_attempt (wpAny_callSpecial?_slot (name := Str.ofString "__next__") hT F.slot_enumerate_next
      (wpAny_call_entry F.slot_enumerate_next hT F.entry_enumerate_next ?_ (F.args_enumerate_next_1 _))))
    show wpAny _ _ (field (.ref e) 2 >>= _) _ _ _
    refine wpAny_bind (wpAny_field he rfl (x := .ref it) rfl ?_)
    refine wpAny_bind (wpAny_nextOf_tuple_end (show X.A.in1.handled = none from I.ok.hd hc) hit hp (by simp; omega) fun h' x he' hx' => ?_)
    obtain ⟨o, ho, hcl⟩ := hx'
    refine wpAny_bind (wpAny_isInstance (T := "StopIteration") (b := true) ⟨o, ho, hcl⟩ isSubtype_stop ?_)
    exact wpAny_pure ⟨rfl, I.turned (t' := s.toks) (fun b o hb q => he' b o hb q) f0 f1 f3 f4 f5⟩
  self := fun A i s Q E st h => let ⟨⟨_, he⟩, _⟩ := st; wpAny_pyIter_enum he h
def iEnumT (K : PySem.W.Frag) (ta : TA) : TI := fun σ H R => ta σ H fun vs H1 => ∃ a xs, vs = [.ref a] ∧ SqT K H1 a xs ∧ R (Itet K a) H1
theorem pi_enumT {X : Cx} {e : Expr} {ta : TA} {p pos tpos : Pos} {elts : List Expr} {kk : Nat} (hg : Gl X "enumerate") (hm : X.mg "enumerate" = none) (ha : PA X [e] ta) (hs : starEach [e] X.env = [(false, eval e X.env)] := by rfl) :
    PI X (.Tuple elts kk tpos) (.Call (.Name "enumerate" p) [e] [] pos) (iEnumT X.K ta) := by
  refine ⟨fun pins s σ H R I h => ?_⟩
  refine Call_ (ld_blt I hg hm boot_enumerate (PyProof.Rows.callWith_type1 (thn (ha.run pos pins s σ H _ I h) fun us s1 ⟨vs, H1, I1, r1, q1⟩ => ?_) hs rfl))
  obtain ⟨a, xs, ex, hq, q⟩ := q1
  subst ex
  cases r1 with
  | cons r rr =>
    cases rr
    cases r
    obtain ⟨its, rv, p', hz⟩ := I1.tuple hq
    have hp : s1.heap.IsTuple a its.toArray := p'
    have hal : a < s1.heap.objs.size := by obtain ⟨_, q, _⟩ := hp; exact Heap.lt_size q
    refine rf_enum_begins (begins_tuple a its.toArray) hp fun h' he hit hsz hk => wpAny_pyIter_enum he ?_
    have I2 : Inv X pins σ H1 { s1 with heap := h' } := I1.kept (t' := s1.toks) hk
    refine ⟨s1.heap.objs.size + 1, [s1.heap.objs.size + 1, s1.heap.objs.size], _, _, H1, rfl, I2, turn_enumT a (s1.heap.objs.size + 1) s1.heap.objs.size (Nat.ne_of_gt (Nat.lt_succ_of_lt hal)) (Nat.ne_of_lt hal), ⟨⟨.none, he⟩, ⟨_, hit, rfl, rfl⟩, Nat.succ_ne_self _⟩, fun b hb => ?_, q⟩
    have e' : b = s1.heap.objs.size + 1 ∨ b = s1.heap.objs.size := by simpa using hb
    have hle : s1.heap.objs.size ≤ b := by
      rcases e' with z | z
      · rw [z]; exact Nat.le_add_right _ _
      · rw [z]; exact Nat.le_refl _
    exact I1.fpOk hle (I1.hok.fresh hle)
end L2

/-! Rf: reflection. Part I: what is walked, comprehensions. -/
namespace Rf
open PySem L2
variable [PWd]
section
variable {X : Cx} {ct : Str → Option Addr} {k : Nat} {Γ : Ctx} {N : List Str} {sc : Scope} {W : WX} {te ta tb tc : TE} {R1 : RT} {f fa fb fc : Sl → Res D} {e a b c es lo hi : E} {t x y z tg : Expr} {ts : List Expr} {pos : Pos}
theorem EvP.at_ {S H : Hp} {σ : L2.St} {ρ : Sl} {Kt : VK} (h : EvP X ct W te R1 f) (r : Rp X.K S H σ ρ) (hk : ∀ d v S1 H1, f ρ = .ok d → Ext S H S1 H1 → R1 H S1 H1 v d → Rp X.K S1 H1 σ ρ → Kt v H1)
    (hx : ∀ e, f ρ = .exc e → ∀ cls dd S' H', Ext S H S' H' → XVal ct H' cls dd e → W cls dd σ H') (hb : f ρ ≠ .bad) : te σ H Kt := by
  refine h S H σ ρ _ r ?_
  cases q : f ρ with
  | ok d => exact fun v S1 H1 y z => hk d v S1 H1 q y z (r.ext y)
  | exc e => exact hx e q
  | bad => exact (hb q).elim
theorem AvP.at_ {S H : Hp} {σ : L2.St} {ρ : Sl} {Kt : List V → Hp → Prop} {ta : TA} {RA : Hp → Hp → List V → List D → Prop} (h : AvP X ct W ta RA f) (r : Rp X.K S H σ ρ) (hk : ∀ ds vs S1 H1, f ρ = .ok (.tuple ds) → Ext S H S1 H1 → RA S1 H1 vs ds → Rp X.K S1 H1 σ ρ → Kt vs H1)
    (hx : ∀ e, f ρ = .exc e → ∀ cls dd S' H', Ext S H S' H' → XVal ct H' cls dd e → W cls dd σ H') (hb : f ρ ≠ .bad) : ta σ H Kt := by
  refine h S H σ ρ _ r ?_
  cases q : f ρ with
  | ok d => intro ds ed; subst ed; exact fun vs S1 H1 y z => hk ds vs S1 H1 q y z (r.ext y)
  | exc e => exact hx e q
  | bad => exact (hb q).elim
theorem pi_or {w1 w2 : TI} (h1 : PI X tg t w1) (h2 : PI X tg t w2) : PI X tg t (fun σ H R => w1 σ H R ∨ w2 σ H R) :=
  ⟨fun pins s σ H R I h => h.elim (h1.run pins s σ H R I) (h2.run pins s σ H R I)⟩
theorem itd_list {K : PySem.W.Frag} {a : Addr} {vs : List V} {ds : List D} {T S' : Hp} (h1 : SqL K T a vs) (h2 : DpAll K S' vs ds) : ItD K (Itl K a) T S' ds := fun i S2 H2 t1 t2 t3 => by
  refine ⟨fun d e => ?_, fun hl => ⟨vs, t1.seq h1, by rw [dps_len h2]; exact hl⟩⟩
  obtain ⟨v, ev_, dv⟩ := dps_at h2 e
  refine ⟨⟨vs, v, t1.seq h1, ev_⟩, fun x H3 hy => ?_⟩
  obtain ⟨eH, hx⟩ := hy
  subst eH
  have ex : x = v := Option.some.inj ((hx vs (t1.seq h1)).symm.trans ev_)
  subst ex
  exact ⟨S2, Ext.refl t3, dp_mono t2 _ _ dv⟩
theorem itd_tup {K : PySem.W.Frag} {a : Addr} {vs : List V} {ds : List D} {T S' : Hp} (h1 : SqT K T a vs) (h2 : DpAll K S' vs ds) : ItD K (Itt K a) T S' ds := fun i S2 H2 t1 t2 t3 => by
  refine ⟨fun d e => ?_, fun hl => ⟨vs, same_t t1 h1, by rw [dps_len h2]; exact hl⟩⟩
  obtain ⟨v, ev_, dv⟩ := dps_at h2 e
  refine ⟨⟨vs, v, same_t t1 h1, ev_⟩, fun x H3 hy => ?_⟩
  obtain ⟨eH, hx⟩ := hy
  subst eH
  have ex : x = v := Option.some.inj ((hx vs (same_t t1 h1)).symm.trans ev_)
  subst ex
  exact ⟨S2, Ext.refl t3, dp_mono t2 _ _ dv⟩
theorem itd_str {K : PySem.W.Frag} {z : Str} {T S' : Hp} : ItD K (Its z) T S' (z.cps.toList.map fun c => .str ⟨#[c]⟩) := fun i S2 H2 t1 t2 t3 => by
  refine ⟨fun d e => ?_, fun hl => ?_⟩
  · rw [List.getElem?_map] at e
    cases q : z.cps.toList[i]? with
    | none => rw [q] at e; cases e
    | some c =>
      rw [q] at e
      cases e
      have hi : i < z.cps.size := by
        have := (List.getElem?_eq_some_iff.mp q).1
        simpa using this
      refine ⟨hi, fun x H3 hy => ?_⟩
      obtain ⟨eH, c', e1, rfl⟩ := hy
      subst eH
      have : c' = c := by
        have q2 : z.cps[i]? = some c := by simpa using q
        rw [e1] at q2
        exact Option.some.inj q2
      subst this
      exact ⟨S2, Ext.refl t3, .str _⟩
  · show z.cps.size ≤ i
    simpa using hl
theorem itd_rng {K : PySem.W.Frag} {lo hi : Int} {T S' : Hp} : ItD K (Itr lo (hi - lo).toNat) T S' (rngL lo hi) := fun i S2 H2 t1 t2 t3 => by
  refine ⟨fun d e => ?_, fun hl => ?_⟩
  · unfold rngL at e
    rw [List.getElem?_map] at e
    cases q : (List.range (hi - lo).toNat)[i]? with
    | none => rw [q] at e; cases e
    | some j =>
      rw [q] at e
      cases e
      obtain ⟨h1, h2⟩ := List.getElem?_eq_some_iff.mp q
      rw [List.length_range] at h1
      rw [List.getElem_range] at h2
      subst h2
      refine ⟨h1, fun x H3 hy => ?_⟩
      obtain ⟨eH, rfl⟩ := hy
      subst eH
      exact ⟨S2, Ext.refl t3, .int _⟩
  · unfold rngL at hl
    rw [List.length_map, List.length_range] at hl
    exact hl
theorem itd_rngC {K : PySem.W.Frag} {lo c : Int} {n : Nat} {T S' : Hp} : ItD K (Itc lo c n) T S' ((List.range n).map fun i => .int (lo + (i : Nat) * c)) := fun i S2 H2 t1 t2 t3 => by
  refine ⟨fun d e => ?_, fun hl => ?_⟩
  · rw [List.getElem?_map] at e
    cases q : (List.range n)[i]? with
    | none => rw [q] at e; cases e
    | some j =>
      rw [q] at e
      cases e
      obtain ⟨h1, h2⟩ := List.getElem?_eq_some_iff.mp q
      rw [List.length_range] at h1
      rw [List.getElem_range] at h2
      subst h2
      refine ⟨h1, fun x H3 hy => ?_⟩
      obtain ⟨eH, rfl⟩ := hy
      subst eH
      exact ⟨S2, Ext.refl t3, .int _⟩
  · rw [List.length_map, List.length_range] at hl
    exact hl
omit [PWd] in
theorem enum_at : ∀ {xs : List D} {n i : Nat} {d : D}, (enumFrom n xs)[i]? = some d → ∃ x, xs[i]? = some x ∧ d = .tuple [.int ((n + i : Nat) : Int), x]
  | [], _, _, _, h => by simp [enumFrom] at h
  | x :: r, n, 0, d, h => by
    have h : some (PyData.tuple [.int (n : Nat), x]) = some d := h
    cases h
    exact ⟨x, rfl, rfl⟩
  | x :: r, n, i + 1, d, h => by
    obtain ⟨y, h1, h2⟩ := enum_at (xs := r) (n := n + 1) (i := i) h
    refine ⟨y, h1, ?_⟩
    rw [h2, show n + 1 + i = n + (i + 1) by omega]
omit [PWd] in
theorem enum_len : ∀ {xs : List D} {n : Nat}, (enumFrom n xs).length = xs.length
  | [], _ => rfl
  | x :: r, n => by
    show (enumFrom (n + 1) r).length + 1 = r.length + 1
    rw [enum_len]
theorem itd_enum {K : PySem.W.Frag} {a : Addr} {vs : List V} {ds : List D} {T S' : Hp} (h1 : SqL K T a vs) (h2 : DpAll K S' vs ds) : ItD K (Ite K a) T S' (enumFrom 0 ds) := fun i S2 H2 t1 t2 t3 => by
  refine ⟨fun d e => ?_, fun hl => ⟨vs, t1.seq h1, by rw [dps_len h2]; rw [enum_len] at hl; exact hl⟩⟩
  obtain ⟨w, ew, rfl⟩ := enum_at e
  obtain ⟨v, ev_, dv⟩ := dps_at h2 ew
  refine ⟨⟨vs, v, t1.seq h1, ev_⟩, fun x H3 hy => ?_⟩
  obtain ⟨p, u, rfl, hp, rfl, hx⟩ := hy
  have ex : u = v := Option.some.inj ((hx vs (t1.seq h1)).symm.trans ev_)
  subst ex
  have xx := Ext.laid (o := HO.tup [.int (i : Nat), u]) t3 hp
  rw [show ((0 + i : Nat) : Int) = (i : Nat) by omega]
  exact ⟨_, xx, .tup (SqT.of upd_same) (.cons (.int _) (.cons (dp_mono (t2.trans xx.s) _ _ dv) .nil))⟩
theorem zip_at : ∀ {xs ys : List D} {i : Nat} {d : D}, (zipD xs ys)[i]? = some d → ∃ x y, xs[i]? = some x ∧ ys[i]? = some y ∧ d = .tuple [x, y]
  | [], _, _, _, h => by simp [zipD] at h
  | _ :: _, [], _, _, h => by simp [zipD] at h
  | x :: r, y :: s, 0, d, h => by
    have h : some (PyData.tuple [x, y]) = some d := h
    cases h
    exact ⟨x, y, rfl, rfl, rfl⟩
  | x :: r, y :: s, i + 1, d, h => zip_at (xs := r) (ys := s) (i := i) h
theorem zip_len : ∀ {xs ys : List D} {i : Nat}, (zipD xs ys).length ≤ i → xs.length ≤ i ∨ ys.length ≤ i
  | [], _, i, _ => .inl (Nat.zero_le _)
  | _ :: _, [], i, _ => .inr (Nat.zero_le _)
  | x :: r, y :: s, 0, h => by simp [zipD] at h
  | x :: r, y :: s, i + 1, h => by
    have h : (zipD r s).length + 1 ≤ i + 1 := h
    rcases zip_len (xs := r) (ys := s) (i := i) (by omega) with q | q
    · exact .inl (Nat.succ_le_succ q)
    · exact .inr (Nat.succ_le_succ q)
theorem itd_zipL {K : PySem.W.Frag} {a b : Addr} {vs us : List V} {ds es : List D} {T S' : Hp} (h1 : SqL K T a vs) (h2 : DpAll K S' vs ds) (h3 : SqL K T b us) (h4 : DpAll K S' us es) : ItD K (Itz K a b) T S' (zipD ds es) := fun i S2 H2 t1 t2 t3 => by
  refine ⟨fun d e => ?_, fun hl => ⟨vs, us, t1.seq h1, t1.seq h3, by rw [dps_len h2, dps_len h4]; exact zip_len hl⟩⟩
  obtain ⟨w1, w2, e1, e2, rfl⟩ := zip_at e
  obtain ⟨v, ev_, dv⟩ := dps_at h2 e1
  obtain ⟨u, eu, du⟩ := dps_at h4 e2
  refine ⟨⟨vs, us, v, u, t1.seq h1, t1.seq h3, ev_, eu⟩, fun x H3 hy => ?_⟩
  obtain ⟨p, v', u', rfl, hp, rfl, hx, hx2⟩ := hy
  have ex : v' = v := Option.some.inj ((hx vs (t1.seq h1)).symm.trans ev_)
  have ex2 : u' = u := Option.some.inj ((hx2 us (t1.seq h3)).symm.trans eu)
  subst ex
  subst ex2
  have xx := Ext.laid (o := HO.tup [v', u']) t3 hp
  exact ⟨_, xx, .tup (SqT.of upd_same) (.cons (dp_mono (t2.trans xx.s) _ _ dv) (.cons (dp_mono (t2.trans xx.s) _ _ du) .nil))⟩
theorem itd_zipT {K : PySem.W.Frag} {a b : Addr} {vs us : List V} {ds es : List D} {T S' : Hp} (h1 : SqT K T a vs) (h2 : DpAll K S' vs ds) (h3 : SqT K T b us) (h4 : DpAll K S' us es) : ItD K (RZ.ItzT K a b) T S' (zipD ds es) := fun i S2 H2 t1 t2 t3 => by
  refine ⟨fun d e => ?_, fun hl => ⟨vs, us, same_t t1 h1, same_t t1 h3, by rw [dps_len h2, dps_len h4]; exact zip_len hl⟩⟩
  obtain ⟨w1, w2, e1, e2, rfl⟩ := zip_at e
  obtain ⟨v, ev_, dv⟩ := dps_at h2 e1
  obtain ⟨u, eu, du⟩ := dps_at h4 e2
  refine ⟨⟨vs, us, v, u, same_t t1 h1, same_t t1 h3, ev_, eu⟩, fun x H3 hy => ?_⟩
  obtain ⟨p, v', u', rfl, hp, rfl, hx, hx2⟩ := hy
  have ex : v' = v := Option.some.inj ((hx vs (same_t t1 h1)).symm.trans ev_)
  have ex2 : u' = u := Option.some.inj ((hx2 us (same_t t1 h3)).symm.trans eu)
  subst ex
  subst ex2
  have xx := Ext.laid (o := HO.tup [v', u']) t3 hp
  exact ⟨_, xx, .tup (SqT.of upd_same) (.cons (dp_mono (t2.trans xx.s) _ _ dv) (.cons (dp_mono (t2.trans xx.s) _ _ du) .nil))⟩
theorem itd_rev {K : PySem.W.Frag} {a : Addr} {vs : List V} {ds : List D} {T S' : Hp} (h1 : SqL K T a vs) (h2 : DpAll K S' vs ds) : ItD K (Itv K a vs.length) T S' ds.reverse := fun i S2 H2 t1 t2 t3 => by
  refine ⟨fun d e => ?_, fun hl => ?_⟩
  · obtain ⟨hi, _⟩ := List.getElem?_eq_some_iff.mp e
    rw [List.length_reverse] at hi
    rw [List.getElem?_reverse hi] at e
    obtain ⟨v, ev_, dv⟩ := dps_at h2 e
    rw [← dps_len h2] at ev_ hi
    refine ⟨⟨hi, vs, v, t1.seq h1, ev_⟩, fun x H3 hy => ?_⟩
    obtain ⟨eH, hx⟩ := hy
    subst eH
    have ex : x = v := Option.some.inj ((hx vs (t1.seq h1)).symm.trans ev_)
    subst ex
    exact ⟨S2, Ext.refl t3, dp_mono t2 _ _ dv⟩
  · rw [List.length_reverse] at hl
    show vs.length ≤ i
    rw [dps_len h2]; exact hl
/-- one thing, in both ways of looking -/
theorem Snd.both (h : Snd X ct Γ W a x) : ∃ ta, PE X x ta ∧ ∀ m : Bool, EvP X ct W ta (fun H0 S' H' v d => RRd X.K H0 S' (if m = true then H' else S') v d) (ev Γ a m) := by
  obtain ⟨ta, pa, sa, ra, _⟩ := h.pe
  refine ⟨ta, pa, fun m => ?_⟩
  cases m with
  | true => exact ra
  | false => exact sa.imp fun H S' H' v d s q => rd_of_sh (H0 := H) (Same.refl S') q
theorem bind_exc_of {α β : Type} {r : Res α} {g : α → Res β} {z : Exc} (h : r = .exc z) : (r >>= g) = .exc z := by rw [h]; rfl
theorem bind_bad_of {α β : Type} {r : Res α} {g : α → Res β} (h : r = .bad) : (r >>= g) = .bad := by rw [h]; rfl
theorem bind_ok_of {α β : Type} {r : Res α} {g : α → Res β} {d : α} (h : r = .ok d) : (r >>= g) = g d := by rw [h]; rfl
theorem itd_enumT {K : PySem.W.Frag} {a : Addr} {vs : List V} {ds : List D} {T S' : Hp} (h1 : SqT K T a vs) (h2 : DpAll K S' vs ds) : ItD K (Itet K a) T S' (enumFrom 0 ds) := fun i S2 H2 t1 t2 t3 => by
  refine ⟨fun d e => ?_, fun hl => ⟨vs, same_t t1 h1, by rw [dps_len h2]; rw [enum_len] at hl; exact hl⟩⟩
  obtain ⟨w, ew, rfl⟩ := enum_at e
  obtain ⟨v, ev_, dv⟩ := dps_at h2 ew
  refine ⟨⟨vs, v, same_t t1 h1, ev_⟩, fun x H3 hy => ?_⟩
  obtain ⟨p, u, rfl, hp, rfl, hx⟩ := hy
  have ex : u = v := Option.some.inj ((hx vs (same_t t1 h1)).symm.trans ev_)
  subst ex
  have xx := Ext.laid (o := HO.tup [.int (i : Nat), u]) t3 hp
  rw [show ((0 + i : Nat) : Int) = (i : Nat) by omega]
  exact ⟨_, xx, .tup (SqT.of upd_same) (.cons (.int _) (.cons (dp_mono (t2.trans xx.s) _ _ dv) .nil))⟩
theorem optL_list {o : Option (List D)} {σ : L2.St} {S H : Hp} {K : PySem.W.Frag} {T : Bool} {R : L2.It → Hp → Prop} (hp : PstI ct W σ S H K T R (optL o)) :
    ∃ ds, o = some ds ∧ ∀ J S' H', Ext S H S' H' → ItD K J (if T = true then H' else S') S' ds → R J H' := by
  cases o with
  | none => exact hp.elim
  | some ds => exact ⟨ds, rfl, hp⟩
theorem sndI_one {wi : TE → TI} {g : D → Option (List D)} (hpi : ∀ te, PE X y te → PI X tg t (wi te)) (ha : Snd X ct Γ W a y) (nf : ∀ x, foldedSetIterable t X.env x = pure x) (he : ∀ m ρ, ev Γ e m ρ = ev Γ a m ρ >>= fun d => optL (g d))
    (hw : ∀ (te : TE) (σ : L2.St) (S H : Hp) (m : Bool) (R : L2.It → Hp → Prop) (r : Res D), Same S H → (∀ d, r = .ok d → ∃ ds, g d = some ds) →
      (∀ Kt : VK, (∀ d v S1 H1, r = .ok d → Ext S H S1 H1 → RRd X.K H S1 (if m = true then H1 else S1) v d → Same S1 H1 → Kt v H1) → te σ H Kt) →
      (∀ d ds, r = .ok d → g d = some ds → ∀ J S' H', Ext S H S' H' → ItD X.K J (if m = true then H' else S') S' ds → R J H') → wi te σ H R) : SndI X ct Γ W e tg t := by
  obtain ⟨ta, pa, both⟩ := ha.both
  refine ⟨fun m => ⟨_, hpi ta pa, fun S H σ ρ R rp hp => ?_⟩, nf⟩
  rw [he] at hp
  refine hw ta σ S H m R (ev Γ a m ρ) rp.sub (fun d q => ?_) (fun Kt hk => ?_) fun d ds q q2 => ?_
  · rw [bind_ok_of q] at hp
    obtain ⟨ds, w, _⟩ := optL_list hp
    exact ⟨ds, w⟩
  · refine (both m).at_ rp (fun d v S1 H1 q x r rp1 => hk d v S1 H1 q x r rp1.sub) (fun z q => ?_) fun q => ?_
    · rw [bind_exc_of q] at hp; exact hp
    · rw [bind_bad_of q] at hp; exact hp
  · rw [bind_ok_of q] at hp
    obtain ⟨ds', w, z⟩ := optL_list hp
    rw [q2] at w
    cases w
    exact z
theorem set_fold {env : Env} (h : notSet t = true) : ∀ x, foldedSetIterable t env x = pure x := fun x => by
  cases t <;> first | rfl | cases h
theorem sndI_seq (hs : notSet y = true) (ha : Snd X ct Γ W a y) : SndI X ct Γ W (.iseq a) tg y := by
  refine sndI_one (g := seqOf) (wi := fun te σ H R => iList X.K te σ H R ∨ iTup X.K te σ H R) (fun te h => pi_or (pi_list h) (pi_tup h)) ha (set_fold hs) (fun _ _ => rfl) fun te σ S H m R r sm h1 h3 h4 => ?_
  cases r with
  | ok d0 =>
    obtain ⟨ds, w⟩ := h1 d0 rfl
    cases d0 with
    | list xs =>
      cases w
      refine .inl (h3 _ fun d v S1 H1 q x r sm1 => ?_)
      cases q
      obtain ⟨p, vs, rfl, s, dq⟩ := rd_lst r
      have e : Same (if m = true then H1 else S1) H1 := by cases m <;> first | exact sm1 | exact Same.refl _
      exact ⟨p, rfl, ⟨vs, e.seq s⟩, h4 _ _ rfl rfl _ S1 H1 x (itd_list s dq)⟩
    | tuple xs =>
      cases w
      refine .inr (h3 _ fun d v S1 H1 q x r sm1 => ?_)
      cases q
      obtain ⟨p, vs, rfl, s, dq⟩ := rd_tup r
      have e : Same S1 (if m = true then H1 else S1) := by cases m <;> first | exact sm1 | exact Same.refl _
      exact ⟨p, rfl, ⟨vs, same_t sm1 s⟩, h4 _ _ rfl rfl _ S1 H1 x (itd_tup (same_t e s) dq)⟩
    | _ => cases w
  | exc z => exact .inl (h3 _ fun d v S1 H1 q => by cases q)
  | bad => exact .inl (h3 _ fun d v S1 H1 q => by cases q)
theorem sndI_str (hs : notSet y = true) (ha : Snd X ct Γ W a y) : SndI X ct Γ W (.istr a) tg y := by
  refine sndI_one (g := itStr) (wi := iStr) (fun te h => pi_str h) ha (set_fold hs) (fun _ _ => rfl) fun te σ S H m R r sm h1 h3 h4 => ?_
  refine h3 _ fun d v S1 H1 q x r sm1 => ?_
  obtain ⟨ds, w⟩ := h1 d q
  cases d with
  | str z =>
    cases w
    exact ⟨z, rd_str r, h4 _ _ q rfl _ S1 H1 x itd_str⟩
  | _ => cases w
theorem asTup_tg (h : isTg2 tg = true) : ∃ elts kk p, tg = .Tuple elts kk p := by
  unfold isTg2 at h
  cases q : asTup tg with
  | none => rw [q] at h; cases h
  | some es => obtain ⟨kk, p, e⟩ := asTup_eq q; exact ⟨_, _, _, e⟩
theorem sndI_enum (s : Stc X ct k Γ N sc W) {n : Str} {p : Pos} (hn : ("enumerate" : Str) = n) (h1 : Γ.bl.contains n = true) (h2 : glB sc n = true) (ht : isTg2 tg = true) (hs : notStar y = true) (ha : Snd X ct Γ W a y) :
    SndI X ct Γ W (.ienum a) tg (.Call (.Name n p) [y] [] pos) := by
  subst hn
  obtain ⟨elts, kk, tp, rfl⟩ := asTup_tg ht
  have hb : X.mg "enumerate" = none := s.bl _ (List.contains_iff_mem.mp h1)
  refine sndI_one (g := itEnum) (wi := fun te σ H R => iEnum X.K (tCons te tNil) σ H R ∨ iEnumT X.K (tCons te tNil) σ H R) (fun te h => pi_or (pi_enum (s.gl h2) hb (pa_cons h pa_nil (star_cons hs)) (star_cons hs)) (pi_enumT (s.gl h2) hb (pa_cons h pa_nil (star_cons hs)) (star_cons hs))) ha (fun _ => rfl) (fun _ _ => rfl) fun te σ S H m R r sm h1 h3 h4 => ?_
  cases r with
  | ok d0 =>
    obtain ⟨ds, w⟩ := h1 d0 rfl
    cases d0 with
    | list xs =>
      cases w
      refine .inl (h3 _ fun d v S1 H1 q x r sm1 => ?_)
      cases q
      obtain ⟨p, vs, rfl, s, dq⟩ := rd_lst r
      have e : Same (if m = true then H1 else S1) H1 := by cases m <;> first | exact sm1 | exact Same.refl _
      exact ⟨p, vs, rfl, e.seq s, h4 _ _ rfl rfl _ S1 H1 x (itd_enum s dq)⟩
    | tuple xs =>
      cases w
      refine .inr (h3 _ fun d v S1 H1 q x r sm1 => ?_)
      cases q
      obtain ⟨p, vs, rfl, s, dq⟩ := rd_tup r
      have e : Same S1 (if m = true then H1 else S1) := by cases m <;> first | exact sm1 | exact Same.refl _
      exact ⟨p, vs, rfl, same_t sm1 s, h4 _ _ rfl rfl _ S1 H1 x (itd_enumT (same_t e s) dq)⟩
    | _ => cases w
  | exc z => exact .inl (h3 _ fun d v S1 H1 q => by cases q)
  | bad => exact .inl (h3 _ fun d v S1 H1 q => by cases q)
theorem sndI_rev (s : Stc X ct k Γ N sc W) {n : Str} {p : Pos} (hn : ("reversed" : Str) = n) (h1 : Γ.bl.contains n = true) (h2 : glB sc n = true) (hs : notStar y = true) (ha : Snd X ct Γ W a y) :
    SndI X ct Γ W (.irev a) tg (.Call (.Name n p) [y] [] pos) := by
  subst hn
  have hb : X.mg "reversed" = none := s.bl _ (List.contains_iff_mem.mp h1)
  refine sndI_one (g := itRev) (wi := fun te => iRev X.K (tCons te tNil)) (fun te h => pi_reversed (s.gl h2) hb (pa_cons h pa_nil (star_cons hs)) (star_cons hs)) ha (fun _ => rfl) (fun _ _ => rfl) fun te σ S H m R r sm h1 h3 h4 => ?_
  refine h3 _ fun d v S1 H1 q x r sm1 => ?_
  obtain ⟨ds, w⟩ := h1 d q
  cases d with
  | list xs =>
    cases w
    obtain ⟨p, vs, rfl, s, dq⟩ := rd_lst r
    have e : Same (if m = true then H1 else S1) H1 := by cases m <;> first | exact sm1 | exact Same.refl _
    exact ⟨p, vs, rfl, e.seq s, h4 _ _ q rfl _ S1 H1 x (itd_rev s dq)⟩
  | _ => cases w
theorem sndI_zip (s : Stc X ct k Γ N sc W) {n : Str} {p : Pos} (hn : ("zip" : Str) = n) (h1 : Γ.bl.contains n = true) (h2 : glB sc n = true) (ht : isTg2 tg = true) (hs : notStar y = true) (hs2 : notStar z = true) (ha : Snd X ct Γ W a y) (hb : Snd X ct Γ W b z) :
    SndI X ct Γ W (.izip a b) tg (.Call (.Name n p) [y, z] [] pos) := by
  subst hn
  obtain ⟨elts, kk, tp, rfl⟩ := asTup_tg ht
  have hm : X.mg "zip" = none := s.bl _ (List.contains_iff_mem.mp h1)
  obtain ⟨ta, pa, ba⟩ := ha.both
  obtain ⟨tb, pb, bb⟩ := hb.both
  refine ⟨fun m => ⟨_, RZ.pi_zipA (s.gl h2) hm (pa_cons pa (pa_cons pb pa_nil (star_cons hs2)) (star_cons hs)) (star_cons hs) (by rw [star_cons hs2]; rfl), fun S H σ ρ R rp hp => ?_⟩, fun _ => rfl⟩
  have hp : PstI ct W σ S H X.K m R (ev Γ a m ρ >>= fun d1 => ev Γ b m ρ >>= fun d2 => optL (itZip d1 d2)) := hp
  refine (ba m).at_ rp (fun d1 v S1 H1 q1 x1 r1 rp1 => ?_) (fun z q => by rw [bind_exc_of q] at hp; exact hp) fun q => by rw [bind_bad_of q] at hp; exact hp
  rw [bind_ok_of q1] at hp
  refine (bb m).at_ rp1 (fun d2 u S2 H2 q2 x2 r2 rp2 => ?_) (fun z q => by rw [bind_exc_of q] at hp; exact fun c dd S' H' x => hp c dd S' H' (x1.trans x)) fun q => by rw [bind_bad_of q] at hp; exact hp
  rw [bind_ok_of q2] at hp
  obtain ⟨ds, w, hR⟩ := optL_list hp
  have sT : Same (if m = true then H1 else S1) (if m = true then H2 else S2) := by cases m <;> first | exact x2.s | exact x2.h
  have e : Same (if m = true then H2 else S2) H2 := by cases m <;> first | exact rp2.sub | exact Same.refl _
  have eS : Same S2 (if m = true then H2 else S2) := by cases m <;> first | exact rp2.sub | exact Same.refl _
  cases d1 with
  | list xs =>
    cases d2 with
    | list ys =>
      cases w
      obtain ⟨p1, vs, rfl, s1, dq1⟩ := rd_lst r1
      obtain ⟨p2, us, rfl, s2, dq2⟩ := rd_lst r2
      exact ⟨p1, p2, vs, us, rfl, .inl ⟨(sT.trans e).seq s1, e.seq s2, hR _ S2 H2 (x1.trans x2) (itd_zipL (sT.seq s1) (dps_mono x2.s _ _ dq1) s2 dq2)⟩⟩
    | _ => cases w
  | tuple xs =>
    cases d2 with
    | tuple ys =>
      cases w
      obtain ⟨p1, vs, rfl, s1, dq1⟩ := rd_tup r1
      obtain ⟨p2, us, rfl, s2, dq2⟩ := rd_tup r2
      exact ⟨p1, p2, vs, us, rfl, .inr ⟨same_t rp1.sub (same_t (Same.refl _) s1) |> same_t x2.h, same_t rp2.sub s2, hR _ S2 H2 (x1.trans x2) (itd_zipT (same_t (x2.s.trans eS) s1) (dps_mono x2.s _ _ dq1) (same_t eS s2) dq2)⟩⟩
    | _ => cases w
  | _ => cases w
theorem psti_guard {σ : L2.St} {S H : Hp} {K : PySem.W.Frag} {T : Bool} {R : L2.It → Hp → Prop} {c : Bool} {r : Res D} (h : PstI ct W σ S H K T R (guard' c r)) : c = true ∧ PstI ct W σ S H K T R r := by
  unfold guard' at h
  split at h
  · exact ⟨by assumption, h⟩
  · exact h.elim
theorem rdA3 {K : PySem.W.Frag} {S H : Hp} {vs : List V} {d d2 d3 : D} (h : RRdA K S H vs [d, d2, d3]) : ∃ v w u, vs = [v, w, u] ∧ RRd K H S H v d ∧ RRd K H S H w d2 ∧ RRd K H S H u d3 := by
  cases vs with
  | nil => exact h.elim
  | cons v r =>
    cases r with
    | nil => exact h.2.elim
    | cons w r =>
      cases r with
      | nil => exact h.2.2.elim
      | cons u r =>
        cases r with
        | nil => exact ⟨v, w, u, rfl, h.1, h.2.1, h.2.2.1⟩
        | cons q r => exact h.2.2.2.elim
theorem rng_go {ta : TA} {P : List V → Hp → (L2.It → Hp → Prop) → Prop} (hpi : PI X tg t (fun σ H R => ta σ H fun vs H1 => P vs H1 R)) (hm : mEs Γ N es sc ts = true) (sa : AvP X ct W ta (fun S' H' vs ds => RRdA X.K S' H' vs ds) (ev Γ es true)) (nf : ∀ x, foldedSetIterable t X.env x = pure x)
    (hw : ∀ (ds : List D) (vs : List V) (σ : L2.St) (S H S1 H1 : Hp) (m : Bool) (R : L2.It → Hp → Prop), ds.length = cnt es → Ext S H S1 H1 → RRdA X.K S1 H1 vs ds → PstI ct W σ S H X.K m R (rngD ds) → P vs H1 R) : SndI X ct Γ W (.irng es) tg t := by
  refine ⟨fun m => ⟨_, hpi, fun S H σ ρ R rp hp => ?_⟩, nf⟩
  have hp : PstI ct W σ S H X.K m R (tupOf (ev Γ es true ρ) rngD) := hp
  refine sa.at_ rp (fun ds vs S1 H1 q x r rp1 => ?_) (fun z q => ?_) fun q => ?_
  · rw [q] at hp
    exact hw ds vs σ S H S1 H1 m R (ev_cnt hm q) x r hp
  · rw [q] at hp; exact hp
  · rw [q] at hp; exact hp
theorem sm_of {i : Int} (h : sm62 i = true) : -(2 ^ 62) ≤ i ∧ i < 2 ^ 62 := of_decide_eq_true h
theorem sndI_rng (s : Stc X ct k Γ N sc W) {n : Str} {p : Pos} (hn : ("range" : Str) = n) (h1 : Γ.bl.contains n = true) (h2 : glB sc n = true) (hc : 0 < cnt es ∧ cnt es < 4) (hm : mEs Γ N es sc ts = true) (hl : SndL X ct Γ W es ts) :
    SndI X ct Γ W (.irng es) tg (.Call (.Name n p) ts [] pos) := by
  subst hn
  have hb : X.mg "range" = none := s.bl _ (List.contains_iff_mem.mp h1)
  obtain ⟨ta, pa, sa⟩ := hl.rd
  obtain ⟨t1, r1, es1, rfl, s1, m1⟩ := args_split hc.1 hm
  cases es with
  | cons e0 es0 =>
    have hm0 : mEs Γ N es0 sc r1 = true := by
      unfold mEs at hm
      rw [Bool.and_eq_true] at hm
      exact hm.2
    have c0 : cnt es0 + 1 < 4 := hc.2
    cases es0 with
    | nil =>
      cases r1 with
      | cons a r => simp [mEs] at hm0
      | nil =>
        refine rng_go (pi_range1 (s.gl h2) hb pa (star_cons s1)) hm sa (fun _ => rfl) fun ds vs σ S H S1 H1 m R hlen x r hp => ?_
        match ds, hlen, r, hp with
        | [d], _, r, hp =>
          obtain ⟨v, rfl, q⟩ := rdA1 r
          cases d with
          | int j =>
            obtain ⟨g1, g2⟩ := psti_guard (show PstI ct W σ S H X.K m R (guard' (sm62 j) (.ok (.list (rngL 0 j)))) from hp)
            rw [rd_int q]
            have e : (j - 0).toNat = j.toNat := by rw [Int.sub_zero]
            refine ⟨j, rfl, (sm_of g1).1, (sm_of g1).2, ?_⟩
            rw [← e]
            exact g2 _ S1 H1 x itd_rng
          | _ => exact hp.elim
        | [], h, _, _ => cases h
        | _ :: _ :: _, h, _, _ => cases h
    | cons e1 es1 =>
      obtain ⟨t2, r2, es2, rfl, s2, m2⟩ := args_split (show 0 < cnt (E.cons e1 es1) from Nat.succ_pos _) hm0
      have hm1 : mEs Γ N es1 sc r2 = true := by
        unfold mEs at hm0
        rw [Bool.and_eq_true] at hm0
        exact hm0.2
      cases es1 with
      | nil =>
        cases r2 with
        | cons a r => simp [mEs] at hm1
        | nil =>
          refine rng_go (pi_range2 (s.gl h2) hb pa (by rw [star_cons s1, star_cons s2]; rfl) (star_cons s2)) hm sa (fun _ => rfl) fun ds vs σ S H S1 H1 m R hlen x r hp => ?_
          match ds, hlen, r, hp with
          | [d, d2], _, r, hp =>
            obtain ⟨v, w, rfl, q, q2⟩ := rdA2 r
            cases d with
            | int i =>
              cases d2 with
              | int j =>
                obtain ⟨g1, g2⟩ := psti_guard (show PstI ct W σ S H X.K m R (guard' (sm62 i && sm62 j) (.ok (.list (rngL i j)))) from hp)
                rw [Bool.and_eq_true] at g1
                rw [rd_int q, rd_int q2]
                exact ⟨i, j, rfl, ⟨(sm_of g1.1).1, (sm_of g1.1).2, (sm_of g1.2).1, (sm_of g1.2).2⟩, g2 _ S1 H1 x itd_rng⟩
              | _ => exact hp.elim
            | _ => exact hp.elim
          | [], h, _, _ => cases h
          | [_], h, _, _ => cases h
          | _ :: _ :: _ :: _, h, _, _ => cases h
      | cons e2 es2 =>
        obtain ⟨t3, r3, es3, rfl, s3, m3⟩ := args_split (show 0 < cnt (E.cons e2 es2) from Nat.succ_pos _) hm1
        have hm2 : mEs Γ N es2 sc r3 = true := by
          unfold mEs at hm1
          rw [Bool.and_eq_true] at hm1
          exact hm1.2
        cases es2 with
        | nil =>
          cases r3 with
          | cons a r => simp [mEs] at hm2
          | nil =>
            refine rng_go (pi_range3 (s.gl h2) hb pa (star_cons s1) (star_none pos hm0)) hm sa (fun _ => rfl) fun ds vs σ S H S1 H1 m R hlen x r hp => ?_
            match ds, hlen, r, hp with
            | [d, d2, d3], _, r, hp =>
              obtain ⟨v, w, u, rfl, q, q2, q3⟩ := rdA3 r
              cases d with
              | int i =>
                cases d2 with
                | int j =>
                  cases d3 with
                  | int c =>
                    obtain ⟨g1, g2⟩ := psti_guard (show PstI ct W σ S H X.K m R (guard' (decide (c ≠ 0 ∧ c.natAbs < 1073741824 ∧ 0 ≤ Builtin.Range.rangeSize i j c) && Builtin.Range.small i j c)
                      (.ok (.list ((List.range (Builtin.Range.rangeSize i j c).toNat).map fun n => .int (i + (n : Nat) * c))))) from hp)
                    rw [Bool.and_eq_true] at g1
                    obtain ⟨a1, a2, a3⟩ := of_decide_eq_true g1.1
                    rw [rd_int q, rd_int q2, rd_int q3]
                    exact ⟨i, j, c, _, rfl, ⟨a1, a2, g1.2, (Int.toNat_of_nonneg a3).symm⟩, g2 _ S1 H1 x itd_rngC⟩
                  | _ => exact hp.elim
                | _ => exact hp.elim
              | _ => exact hp.elim
            | [], h, _, _ => cases h
            | [_], h, _, _ => cases h
            | [_, _], h, _, _ => cases h
            | _ :: _ :: _ :: _ :: _, h, _, _ => cases h
        | cons e3 es3 => exact absurd c0 (by show ¬ (cnt es3 + 1 + 1 + 1 + 1 < 4); omega)
        | _ => simp [mEs] at hm2
      | _ => simp [mEs] at hm1
    | _ => simp [mEs] at hm0
  | _ => exact absurd hc.1 (Nat.lt_irrefl 0)
end
end Rf

/-! Rf: reflection. Part J: targets, comprehensions. -/
namespace Rf
open PySem L2
variable [PWd]
theorem relS_free {sc : Scope} : ∀ {names : List (Str × NameKind)} {x : Str}, names.lookup x = some .free →
    (names.map fun (n, k) => if (k == NameKind.free && sc.kind == .function && sc.names.lookup n == some .cell) then (n, NameKind.cell) else (n, k)).lookup x = some .free ∨
    (names.map fun (n, k) => if (k == NameKind.free && sc.kind == .function && sc.names.lookup n == some .cell) then (n, NameKind.cell) else (n, k)).lookup x = some .cell
  | [], _, h => by simp at h
  | (n, k₀) :: r, x, h => by
    have ih := @relS_free sc r x
    show List.lookup x ((if (k₀ == NameKind.free && sc.kind == .function && sc.names.lookup n == some .cell) = true then (n, NameKind.cell) else (n, k₀)) :: (r.map _)) = some NameKind.free ∨
      List.lookup x ((if (k₀ == NameKind.free && sc.kind == .function && sc.names.lookup n == some .cell) = true then (n, NameKind.cell) else (n, k₀)) :: (r.map _)) = some NameKind.cell
    cases hx : x == n with
    | true =>
      simp only [List.lookup_cons, hx] at h
      cases h
      by_cases hc : (NameKind.free == NameKind.free && sc.kind == .function && sc.names.lookup n == some .cell) = true
      · rw [if_pos hc]; simp only [List.lookup_cons, hx]; exact .inr trivial
      · rw [if_neg hc]; simp only [List.lookup_cons, hx]; exact .inl trivial
    | false =>
      simp only [List.lookup_cons, hx] at h
      by_cases hc : (k₀ == NameKind.free && sc.kind == .function && sc.names.lookup n == some .cell) = true
      · rw [if_pos hc]; simp only [List.lookup_cons, hx]; exact ih h
      · rw [if_neg hc]; simp only [List.lookup_cons, hx]; exact ih h
abbrev WF : WX := fun _ _ _ _ => False
section
variable {X : Cx} {ct : Str → Option Addr} {k : Nat} {Γ : Ctx} {N : List Str} {sc s2 : Scope} {W : WX} {te ta tb tc : TE} {f : Sl → Res D} {e a b c es lo hi : E} {t x y z tg iter elt : Expr} {ts : List Expr} {pos : Pos}
theorem stc_blk (s : Stc X ct k Γ N sc W) (hk : s2.kind = .function) (s0 : Shared) (H0 : Hp) (C : Addr) (cl : List (Str × Addr)) (fp : List Addr) : Stc (X.blk s0 H0 s2 (compEnvC s2 cl C X.env) fp) ct k Γ N s2 WF where
  hN := s.hN
  nd := s.nd
  pq := ⟨s.pq.p, s.pq.w⟩
  kind := hk
  loc := fun x h => lookup_relS_keep (by decide) h
  cel := fun x h => ⟨lookup_relS_keep (by decide) h, by show (s2.names.lookup x == some NameKind.cell) = true; rw [h]; rfl⟩
  fre := fun x h => relS_free h
  glo := fun x h => lookup_relS_keep (by decide) h
  calm := s.calm
  bl := s.bl
  dig := s.dig
  globs := s.globs
  cals := s.cals
  room := s.room
  tk := takes0

/-! ### targets -/
def gIs : List Nat → TGs
  | [] => gNil
  | i :: is => gCons (gName i) (gIs is)
def gTg (K : PySem.W.Frag) : Tg → TG
  | .one i => gName i
  | .tup is => gTup K is.length (gIs is)
def tgL : Tg → List Nat
  | .one i => [i]
  | .tup is => is
theorem asg_names {env : Env} : ∀ {is : List Nat} {ts : List Expr}, mTgs N sc is ts = true → (assignEach ts env).length = is.length ∧ (assignEach ts env).findIdx? (·.1) = none
  | [], [], _ => ⟨rfl, rfl⟩
  | [], _ :: _, h => by simp [mTgs] at h
  | _ :: _, [], h => by simp [mTgs] at h
  | i :: is, t :: ts, h => by
    unfold mTgs at h
    rw [Bool.and_eq_true] at h
    obtain ⟨h1, h2⟩ := h
    obtain ⟨q1, q2⟩ := asg_names (env := env) h2
    cases w : asName t with
    | none => rw [w] at h1; cases h1
    | some x =>
      obtain ⟨p, rfl⟩ := asName_eq w
      have e : assignEach (.Name x p :: ts) env = (false, assign (.Name x p) env) :: assignEach ts env := rfl
      rw [e]
      refine ⟨by rw [List.length_cons, List.length_cons, q1], ?_⟩
      rw [List.findIdx?_cons, q2]
      rfl
theorem one_tg (s : Stc X ct k Γ N sc W) {i : Nat} (h : (match asName t with
    | some x => decide (N[i]? = some x) && locB sc x
    | none => false) = true) : ∃ x p, t = .Name x p ∧ PG X t (gName i) := by
  cases w : asName t with
  | none => rw [w] at h; cases h
  | some x =>
    rw [w] at h
    obtain ⟨p, rfl⟩ := asName_eq w
    have h := (Bool.and_eq_true _ _).mp h
    have l := s.lc h.2
    refine ⟨x, p, rfl, pg_name (by rw [s.hN]; exact s.nd) (by rw [s.hN]; exact of_decide_eq_true h.1) l.1 l.2⟩
theorem pgs_of (s : Stc X ct k Γ N sc W) : ∀ {is : List Nat} {ts : List Expr}, mTgs N sc is ts = true → PGs X ts (gIs is)
  | [], [], _ => pgs_nil
  | [], _ :: _, h => by simp [mTgs] at h
  | _ :: _, [], h => by simp [mTgs] at h
  | i :: is, t :: ts, h => by
    unfold mTgs at h
    rw [Bool.and_eq_true] at h
    obtain ⟨x, p, rfl, q⟩ := one_tg s h.1
    exact pgs_cons q (pgs_of s h.2) rfl
theorem pg_of (s : Stc X ct k Γ N sc W) {tgt : Tg} (h : mTg N sc tgt t = true) : PG X t (gTg X.K tgt) := by
  cases tgt with
  | one i =>
    obtain ⟨x, p, rfl, q⟩ := one_tg s h
    exact q
  | tup is =>
    have h : (match asTup t with
      | some ts => mTgs N sc is ts
      | none => false) = true := h
    cases w : asTup t with
    | none => rw [w] at h; cases h
    | some ts =>
      rw [w] at h
      obtain ⟨kk, p, rfl⟩ := asTup_eq w
      obtain ⟨q1, q2⟩ := asg_names (env := X.env) h
      exact pg_tup s.calm (pgs_of s h) q1 q2

/-! ### slots forgotten -/
theorem wipe_at {σ : L2.St} {i : Nat} : ∀ {vs : List Nat}, (wipe σ vs)[i]? = if i ∈ vs then σ[i]?.map (fun _ => (none : Option V)) else σ[i]?
  | [] => by rw [if_neg (by simp)]; rfl
  | v :: vs => by
    show ((wipe σ vs).set v none)[i]? = _
    rw [List.getElem?_set]
    by_cases q : v = i
    · subst q
      rw [if_pos rfl, if_pos List.mem_cons_self]
      by_cases l : v < σ.length
      · rw [if_pos (by rw [wipe_length]; exact l), List.getElem?_eq_getElem l]; rfl
      · rw [if_neg (by rw [wipe_length]; exact l), List.getElem?_eq_none (by omega)]; rfl
    · rw [if_neg q, wipe_at (vs := vs)]
      by_cases m : i ∈ vs
      · rw [if_pos m, if_pos (List.mem_cons_of_mem _ m)]
      · rw [if_neg m, if_neg (fun z => (List.mem_cons.mp z).elim (fun z => q z.symm) m)]
theorem wipe_eq {σ σ' : L2.St} {vs : List Nat} (hl : σ.length = σ'.length) (h : ∀ i, i ∉ vs → σ[i]? = σ'[i]?) : wipe σ vs = wipe σ' vs := by
  refine List.ext_getElem? fun i => ?_
  rw [wipe_at, wipe_at]
  by_cases m : i ∈ vs
  · rw [if_pos m, if_pos m]
    by_cases l : i < σ.length
    · rw [List.getElem?_eq_getElem l, List.getElem?_eq_getElem (by rw [← hl]; exact l)]; rfl
    · rw [List.getElem?_eq_none (by omega), List.getElem?_eq_none (by omega)]
  · rw [if_neg m, if_neg m]
    exact h i m
theorem wipe_set {σ : L2.St} {vs : List Nat} {i : Nat} {x : Option V} (h : i ∈ vs) : wipe (σ.set i x) vs = wipe σ vs :=
  wipe_eq (by rw [List.length_set]) fun j hj => by
    rw [List.getElem?_set_ne]
    intro e
    subst e
    exact hj h
theorem wipe_idem {σ : L2.St} {vs : List Nat} : wipe (wipe σ vs) vs = wipe σ vs :=
  wipe_eq (by rw [wipe_length]) fun j hj => by rw [wipe_at, if_neg hj]
theorem Rp.wipe {K : PySem.W.Frag} {S H : Hp} {σ : L2.St} {ρ : Sl} (r : Rp K S H σ ρ) : ∀ vs : List Nat, Rp K S H (wipe σ vs) (wipeR ρ vs)
  | [] => r
  | v :: vs => (r.wipe vs).setUn v none

/-! ### what a target takes -/
section
variable {K : PySem.W.Frag} {S H : Hp} {σ : L2.St} {ρ ρ' : Sl}
theorem setAll_len : ∀ {is : List Nat} {ds : List D} {ρ ρ' : Sl}, setAll is ds ρ = some ρ' → ds.length = is.length
  | [], [], _, _, _ => rfl
  | [], _ :: _, _, _, h => by simp [setAll] at h
  | _ :: _, [], _, _, h => by simp [setAll] at h
  | i :: is, d :: ds, ρ, ρ', h => by
    have h : setAll is ds (ρ.set i (.sh d)) = some ρ' := h
    rw [List.length_cons, List.length_cons, setAll_len h]
theorem gIs_ok : ∀ {is : List Nat} {vs : List V} {ds : List D} {σ : L2.St} {ρ ρ' : Sl} {Q : L2.St → Hp → Prop}, Rp K S H σ ρ → DpAll K S vs ds → setAll is ds ρ = some ρ' →
    (∀ σ', Rp K S H σ' ρ' → (∀ own : List Nat, (∀ i ∈ is, i ∈ own) → L2.wipe σ' own = L2.wipe σ own) → Q σ' H) → gIs is vs σ H Q
  | [], vs, [], σ, ρ, ρ', Q, rp, hd, hs, next => by
    cases hs
    cases hd
    exact ⟨rfl, next σ rp fun _ _ => rfl⟩
  | [], _, _ :: _, _, _, _, _, _, _, h, _ => by simp [setAll] at h
  | _ :: _, _, [], _, _, _, _, _, _, h, _ => by simp [setAll] at h
  | i :: is, vs, d :: ds, σ, ρ, ρ', Q, rp, hd, hs, next => by
    have hs : setAll is ds (ρ.set i (.sh d)) = some ρ' := hs
    cases hd with
    | cons h1 h2 =>
      refine ⟨_, _, rfl, gIs_ok (rp.setSh i h1) h2 hs fun σ' rp' hw => next σ' rp' fun own ho => ?_⟩
      rw [hw own fun j hj => ho j (List.mem_cons_of_mem _ hj), wipe_set (ho i List.mem_cons_self)]
theorem gTg_ok {tgt : Tg} {v : V} {d : D} {Q : L2.St → Hp → Prop} (rp : Rp K S H σ ρ) (hd : Dp K S v d) (hs : setTg tgt d ρ = some ρ')
    (next : ∀ σ', Rp K S H σ' ρ' → (∀ own : List Nat, (∀ i ∈ tgL tgt, i ∈ own) → L2.wipe σ' own = L2.wipe σ own) → Q σ' H) : gTg K tgt v σ H Q := by
  cases tgt with
  | one i =>
    cases hs
    exact next _ (rp.setSh i hd) fun own ho => wipe_set (ho i List.mem_cons_self)
  | tup is =>
    cases d with
    | tuple ds =>
      have hs : setAll is ds ρ = some ρ' := hs
      cases hd with
      | tup h1 h2 => exact ⟨_, _, rfl, same_t rp.sub h1, by rw [dps_len h2, setAll_len hs], gIs_ok rp h2 hs next⟩
    | _ => cases hs
end
theorem tgIn_mem {tgt : Tg} {own : List Nat} (h : tgIn tgt own = true) : ∀ i ∈ tgL tgt, i ∈ own := by
  cases tgt with
  | one i =>
    intro j hj
    simp [tgL] at hj
    subst hj
    exact List.contains_iff_mem.mp h
  | tup is =>
    intro j hj
    have h : (is.all fun i => own.contains i) = true := h
    exact List.contains_iff_mem.mp (List.all_eq_true.mp h j hj)

/-! ### the loop -/
theorem Ext.own_upd {S1 H1 S' H' : Hp} {q : Addr} {o : HO} (x : Ext S1 H1 S' H') (h1 : H1 q = Option.none) (h2 : S' q = Option.none) : Ext S1 H1 S' (upd H' q o) :=
  ⟨x.s, fun a u e => by rw [upd_ne (ne_of_none e h2)]; exact x.sub _ _ e, fun a u e => by rw [upd_ne (ne_of_none e h1)]; exact x.h _ _ e, x.new⟩
theorem lc_go {wi : TI} {g : TG} {tt : TT} {te : TE} {own : List Nat} {fi : Sl → Res D} {fd : Sl → D → Res (Option D)} (hi : IvP X ct W wi true fi)
    (step : ∀ (S2 H2 : Hp) (σw : L2.St) (ρw : Sl) (x : V) (d : D) (r : Option D) (B : V → Hp → Prop) (C : Hp → Prop), Rp X.K S2 H2 σw ρw → wipe σw own = σw → Dp X.K S2 x d → fd ρw d = .ok r →
      (r = none → ∀ S4 H4, Ext S2 H2 S4 H4 → C H4) → (∀ y0, r = some y0 → ∀ y S5 H5, Ext S2 H2 S5 H5 → Dp X.K S5 y y0 → B y H5) →
      g x σw H2 fun σ2 H3 => wipe σ2 own = σw ∧ tt σ2 H3 fun b H4 => if b = true then te σ2 H4 B else C H4) :
    EvP X ct W (tLc wi g tt te own) (RFr X.K) (fun ρ => fi ρ >>= fun xs => compD (fd (wipeR ρ own)) xs) := fun S H σ ρ Q rp hp => by
  refine hi S H σ ρ _ rp ?_
  have hp : Pst ct W σ S H (RFr X.K) Q (fi ρ >>= fun xs => compD (fd (wipeR ρ own)) xs) := hp
  cases q : fi ρ with
  | exc z => rw [q] at hp; exact hp
  | bad => rw [q] at hp; exact hp
  | ok d =>
    rw [q] at hp
    cases d with
    | list ds =>
      intro J S1 H1 x1 hJ D0 hD
      have hJ : ItD X.K J H1 S1 ds := hJ
      obtain ⟨g1, g2⟩ := pst_guard (show Pst ct W σ S H (RFr X.K) Q (guard' (decide (ds.length ≤ lim)) (match compL (fd (wipeR ρ own)) ds with
        | .ok ys => .ok (.list ys)
        | _ => .bad)) from hp)
      have g1 := lim_le g1
      cases w : compL (fd (wipeR ρ own)) ds with
      | exc z => rw [w] at g2; exact g2.elim
      | bad => rw [w] at g2; exact g2.elim
      | ok ys =>
        rw [w] at g2
        have SD : S1 D0 = none := Same.free x1.sub hD
        refine ⟨fun i m H' => m = ds.length - i ∧ i ≤ ds.length ∧ ∃ S' acc zs rest, Ext S1 H1 S' H' ∧ S' D0 = none ∧ H' D0 = some (.lst acc) ∧ DpAll X.K S' acc zs ∧ compL (fd (wipeR ρ own)) (ds.drop i) = .ok rest ∧ ys = zs ++ rest ∧ zs.length ≤ i,
          ⟨ds.length, rfl, Nat.zero_le _, S1, [], [], ys, Ext.made x1.sub hD, SD, upd_same, .nil, w, rfl, Nat.le_refl _⟩, ?_⟩
        rintro i m H' ⟨rfl, hil, S', acc, zs, rest, x2, sD, hD', dz, hc, hy, hz⟩
        obtain ⟨go, stop⟩ := hJ i S' H' x2.h x2.s x2.sub
        by_cases hlt : i < ds.length
        · obtain ⟨go1, yld⟩ := go ds[i] (List.getElem?_eq_getElem hlt)
          rw [List.drop_eq_getElem_cons hlt] at hc
          have hc : (match fd (wipeR ρ own) ds[i] with
            | .ok o => (match compL (fd (wipeR ρ own)) (ds.drop (i + 1)) with
              | .ok ys => (match o with
                | some y => .ok (y :: ys)
                | none => .ok ys)
              | _ => .bad)
            | _ => .bad) = Res.ok rest := hc
          cases a1 : fd (wipeR ρ own) ds[i] with
          | exc z => rw [a1] at hc; cases hc
          | bad => rw [a1] at hc; cases hc
          | ok o =>
            rw [a1] at hc
            cases a2 : compL (fd (wipeR ρ own)) (ds.drop (i + 1)) with
            | exc z => rw [a2] at hc; cases hc
            | bad => rw [a2] at hc; cases hc
            | ok rs =>
              rw [a2] at hc
              refine .inr ⟨go1, fun H'' => ∃ S' acc zs rest, Ext S1 H1 S' H'' ∧ S' D0 = none ∧ H'' D0 = some (.lst acc) ∧ DpAll X.K S' acc zs ∧ compL (fd (wipeR ρ own)) (ds.drop (i + 1)) = .ok rest ∧ ys = zs ++ rest ∧ zs.length ≤ i + 1,
                fun H'' n => ⟨ds.length - (i + 1), by omega, rfl, hlt, n⟩, fun x H2 hy2 => ?_⟩
              obtain ⟨S2, x3, dx⟩ := yld x H2 hy2
              have sD2 : S2 D0 = none := x3.none sD hD'
              have hD2 : H2 D0 = some (.lst acc) := x3.h _ _ hD'
              refine step S2 H2 (wipe σ own) (wipeR ρ own) x ds[i] o _ _ ((rp.wipe own).ext ((x1.trans x2).trans x3)) wipe_idem dx a1 (fun en S4 H4 x4 => ?_) fun y0 es y S5 H5 x5 dy => ?_
              · subst en
                cases hc
                exact ⟨S4, acc, zs, rest, (x2.trans x3).trans x4, x4.none sD2 hD2, x4.h _ _ hD2, dps_mono (x3.s.trans x4.s) _ _ dz, a2, hy, by omega⟩
              · subst es
                cases hc
                have sD5 := x5.none sD2 hD2
                refine ⟨acc, x5.h _ _ hD2, by rw [dps_len dz]; omega, S5, acc ++ [y], zs ++ [y0], rs, (((x2.trans x3).trans x5)).own_upd hD sD5, sD5, upd_same, dps_append (dps_mono (x3.s.trans x5.s) _ _ dz) (.cons dy .nil), a2, ?_, ?_⟩
                · rw [hy, List.append_assoc]; rfl
                · rw [List.length_append]; exact Nat.succ_le_succ hz
        · have e : i = ds.length := by omega
          subst e
          rw [List.drop_length] at hc
          cases hc
          rw [List.append_nil] at hy
          subst hy
          exact .inl ⟨stop (Nat.le_refl _), g2 _ S' H' (x1.trans x2) ⟨D0, acc, ys, rfl, rfl, hD', sD, Same.free x1.h hD, dz⟩⟩
    | _ => exact False.elim hp

/-! ### comprehensions -/
def uE (ct : Str → Option Addr) (K : PySem.W.Frag) (f : Sl → Res D) : TE := fun σ H Q => ∃ S ρ, Rp K S H σ ρ ∧ Pst ct WF σ S H (RSh K) Q (f ρ)
def uT (ct : Str → Option Addr) (K : PySem.W.Frag) (f : Sl → Res D) : TT := fun σ H Q => ∃ S ρ, Rp K S H σ ρ ∧ PstB ct WF σ S H Q (f ρ)
theorem pe_u (h : Snd X ct Γ WF e t) : PE X t (uE ct X.K (ev Γ e false)) := by
  obtain ⟨te, p, q, _⟩ := h.pe
  exact ⟨fun pins s σ H Q I h => by
    obtain ⟨S, ρ, rp, hp⟩ := h
    exact p.run pins s σ H Q I (q S H σ ρ Q rp hp)⟩
theorem pt_u (h : Snd X ct Γ WF e t) (l : tst e = true) : PT X t (uT ct X.K (ev Γ e true)) := by
  obtain ⟨te, p, q, _⟩ := h.pt l
  exact ⟨fun pins s σ H Q I h => by
    obtain ⟨S, ρ, rp, hp⟩ := h
    exact p.run pins s σ H Q I (q S H σ ρ Q rp hp)⟩
structure LcP (X : Cx) (ct : Str → Option Addr) (W : WX) (elt tg iter : Expr) (ifs : List Expr) (scope : Scope) (own : List (Str × Nat)) (f : Sl → Res D) : Prop where
  ex : ∃ (wi : TI) (g : TG) (tt : TT) (te : TE), PI X tg iter wi ∧ BlkOk X.N X.env.scope scope own ∧
    (∀ (s : Shared) (H : Hp) (C : Addr) (cl : List (Str × Addr)) (fp : List Addr), PG (X.blk s H scope (compEnvC scope cl C X.env) fp) tg g) ∧
    (∀ (s : Shared) (H : Hp) (C : Addr) (cl : List (Str × Addr)) (fp : List Addr), PTs (X.blk s H scope (compEnvC scope cl C X.env) fp) ifs tt) ∧
    (∀ (s : Shared) (H : Hp) (C : Addr) (cl : List (Str × Addr)) (fp : List Addr), PE (X.blk s H scope (compEnvC scope cl C X.env) fp) elt te) ∧
    (∀ x, foldedSetIterable iter X.env x = pure x) ∧ EvP X ct W (tLc wi g tt te (own.map (·.2))) (RFr X.K) f
theorem ownL_snd {own : List Nat} : (ownL N own).map (·.2) = own := by
  unfold ownL
  rw [List.map_map]
  exact List.map_id own
theorem blk_of (s : Stc X ct k Γ N sc W) {own : List (Str × Nat)} (h : blkC N sc s2 own = true) : BlkOk X.N X.env.scope s2 own := by
  have b := blkOk_by h
  rw [s.hN]
  refine ⟨b.kind, b.uniq, b.ix, fun y hy e => ?_, b.own⟩
  rcases b.free y hy e with q | q
  · exact .inl (s.cel _ q).1
  · exact (s.fre _ q).symm
theorem lc_comp (s : Stc X ct k Γ N sc W) {tgt : Tg} {own : List Nat} {it el : E} (hb : blkC N sc s2 (ownL N own) = true) (ht : mTg N s2 tgt tg = true) (ho : tgIn tgt own = true) (hi : SndI X ct Γ W it tg iter)
    (he : ∀ (s : Shared) (H : Hp) (C : Addr) (cl : List (Str × Addr)) (fp : List Addr), Snd (X.blk s H s2 (compEnvC s2 cl C X.env) fp) ct Γ WF el elt) : LcP X ct W elt tg iter [] s2 (ownL N own) (ev Γ (.comp el tgt it own) false) := by
  have bk := blk_of s hb
  obtain ⟨wi, pi_, iv⟩ := hi.pi true
  refine ⟨wi, gTg X.K tgt, tYes, uE ct X.K (ev Γ el false), pi_, bk, fun s0 H0 C cl fp => pg_of (stc_blk s bk.kind s0 H0 C cl fp) ht, fun _ _ _ _ _ => pts_nil, fun s0 H0 C cl fp => pe_u (he s0 H0 C cl fp), hi.nf, ?_⟩
  rw [ownL_snd]
  refine lc_go (fd := fun ρw d => turn1 tgt ρw d fun ρ' => ev Γ el false ρ' >>= fun y => .ok (some y)) iv fun S2 H2 σw ρw x d r B C rp hw dx hf hC hB => ?_
  have hf : (match setTg tgt d ρw with
    | some ρ' => ev Γ el false ρ' >>= fun y => .ok (some y)
    | none => .bad) = Res.ok r := hf
  cases q : setTg tgt d ρw with
  | none => rw [q] at hf; cases hf
  | some ρ' =>
    rw [q] at hf
    have hf : (ev Γ el false ρ' >>= fun y => .ok (some y)) = Res.ok r := hf
    refine gTg_ok rp dx q fun σ' rp' hw' => ⟨(hw' own (tgIn_mem ho)).trans hw, S2, ρ', rp', ?_⟩
    cases q2 : ev Γ el false ρ' with
    | exc z => rw [q2] at hf; cases hf
    | bad => rw [q2] at hf; cases hf
    | ok y0 =>
      rw [q2] at hf
      cases hf
      exact fun v S5 H5 x5 r5 => hB y0 rfl v S5 H5 x5 r5
theorem lc_compC (s : Stc X ct k Γ N sc W) {tgt : Tg} {own : List Nat} {it el cn : E} {ce : Expr} (hb : blkC N sc s2 (ownL N own) = true) (ht : mTg N s2 tgt tg = true) (ho : tgIn tgt own = true) (hi : SndI X ct Γ W it tg iter) (lc : tst cn = true)
    (hc : ∀ (s : Shared) (H : Hp) (C : Addr) (cl : List (Str × Addr)) (fp : List Addr), Snd (X.blk s H s2 (compEnvC s2 cl C X.env) fp) ct Γ WF cn ce)
    (he : ∀ (s : Shared) (H : Hp) (C : Addr) (cl : List (Str × Addr)) (fp : List Addr), Snd (X.blk s H s2 (compEnvC s2 cl C X.env) fp) ct Γ WF el elt) : LcP X ct W elt tg iter [ce] s2 (ownL N own) (ev Γ (.compC el tgt it cn own) false) := by
  have bk := blk_of s hb
  obtain ⟨wi, pi_, iv⟩ := hi.pi true
  refine ⟨wi, gTg X.K tgt, uT ct X.K (ev Γ cn true), uE ct X.K (ev Γ el false), pi_, bk, fun s0 H0 C cl fp => pg_of (stc_blk s bk.kind s0 H0 C cl fp) ht, fun s0 H0 C cl fp => pts_one (pt_u (hc s0 H0 C cl fp) lc), fun s0 H0 C cl fp => pe_u (he s0 H0 C cl fp), hi.nf, ?_⟩
  rw [ownL_snd]
  refine lc_go (fd := fun ρw d => turn1 tgt ρw d fun ρ' => ev Γ cn true ρ' >>= fun k => turn2 k (ev Γ el false ρ' >>= fun y => .ok (some y))) iv fun S2 H2 σw ρw x d r B C rp hw dx hf hC hB => ?_
  have hf : (match setTg tgt d ρw with
    | some ρ' => ev Γ cn true ρ' >>= fun k => turn2 k (ev Γ el false ρ' >>= fun y => .ok (some y))
    | none => .bad) = Res.ok r := hf
  cases q : setTg tgt d ρw with
  | none => rw [q] at hf; cases hf
  | some ρ' =>
    rw [q] at hf
    have hf : (ev Γ cn true ρ' >>= fun k => turn2 k (ev Γ el false ρ' >>= fun y => .ok (some y))) = Res.ok r := hf
    refine gTg_ok rp dx q fun σ' rp' hw' => ⟨(hw' own (tgIn_mem ho)).trans hw, S2, ρ', rp', ?_⟩
    cases q1 : ev Γ cn true ρ' with
    | exc z => rw [q1] at hf; cases hf
    | bad => rw [q1] at hf; cases hf
    | ok k0 =>
      rw [q1] at hf
      cases k0 with
      | bool b0 =>
        intro S4 H4 x4
        have hf : (if b0 = true then (ev Γ el false ρ' >>= fun y => .ok (some y)) else .ok none) = Res.ok r := hf
        cases b0 with
        | false =>
          cases hf
          exact hC rfl S4 H4 x4
        | true =>
          have hf : (ev Γ el false ρ' >>= fun y => .ok (some y)) = Res.ok r := hf
          refine ⟨S4, ρ', rp'.ext x4, ?_⟩
          cases q2 : ev Γ el false ρ' with
          | exc z => rw [q2] at hf; cases hf
          | bad => rw [q2] at hf; cases hf
          | ok y0 =>
            rw [q2] at hf
            cases hf
            exact fun v S5 H5 x5 r5 => hB y0 rfl v S5 H5 (x4.trans x5) r5
      | _ => cases hf
theorem LcP.snd {ifs : List Expr} {own : List (Str × Nat)} (s : Stc X ct k Γ N sc W) (h : LcP X ct W elt tg iter ifs s2 own (ev Γ e false)) (hm : ∀ ρ, ev Γ e true ρ = ev Γ e false ρ) (hv : ∀ r ρ, lsOf e r ρ = r) : Snd X ct Γ W e (.ListComp elt [⟨tg, iter, ifs, 0⟩] s2 pos) := by
  obtain ⟨wi, g, tt, te, h1, h2, h3, h4, h5, h6, h7⟩ := h.ex
  exact Snd.new (pe_lc s.calm (by rw [s.hN]; exact s.nd) h1 h2 h3 h4 h5 h6) h7 hm hv (fun _ => rfl) (fun _ _ _ q => by cases q)
end
end Rf

/-! Rf: reflection. Part DA: dicts of the def's own, whose keys are tuples. -/
namespace Rf
open PySem L2
variable [PWd]
section
variable {X : Cx} {pins : List (Addr × Obj)} {σ : L2.St} {S H : Hp} {s : Shared}
mutual
/-- a thing that nobody changes, as a key -/
theorem nk_is (I : Inv X pins σ H s) (sm : Same S H) : ∀ (d : D) (v : V) (u : Value) (n : NestedKey), Dp X.K S v d → RelV v u → nkD d = some n → NestedIs s.heap n u
  | .none, v, u, n, h, r, e => by
    cases h; cases e
    obtain rfl : u = .none := r
    exact .none
  | .bool b, v, u, n, h, r, e => by
    cases h; cases e
    obtain rfl : u = .bool b := r
    exact .bool rfl
  | .int i, v, u, n, h, r, e => by
    cases h; cases e
    obtain ⟨t, rfl⟩ : ∃ t, u = .int i t := r
    exact .int i t
  | .str x, v, u, n, h, r, e => by
    cases h; cases e
    obtain ⟨t, rfl⟩ : ∃ t, u = .str x t := r
    exact .text x t
  | .tuple ds, v, u, n, h, r, e => by
    cases h with
    | @tup a xs _ hs ha =>
      obtain rfl : u = .ref a := r
      have e : (nkAll ds).map NestedKey.tup = some n := e
      cases q : nkAll ds with
      | none => rw [q] at e; cases e
      | some ks =>
        rw [q] at e
        cases e
        obtain ⟨its, rv, ⟨o, ho, hc, m, hd⟩, _⟩ := I.tuple (same_t sm hs)
        exact .tup ho hc hd (nk_all I sm ds xs its ks ha rv q)
  | .list ds, v, u, n, h, r, e => by cases e
  | .dict ds, v, u, n, h, r, e => by cases e
theorem nk_all (I : Inv X pins σ H s) (sm : Same S H) : ∀ (ds : List D) (vs : List V) (us : List Value) (ns : List NestedKey), DpAll X.K S vs ds → Vals vs us → nkAll ds = some ns → NestedAll s.heap ns us
  | [], vs, us, ns, h, r, e => by
    cases h; cases r; cases e
    exact .nil
  | d :: ds, vs, us, ns, h, r, e => by
    cases h with
    | cons h1 h2 =>
      cases r with
      | cons r1 r2 =>
        have e : (match nkD d with
          | some k => (nkAll ds).map (k :: ·)
          | none => none) = some ns := e
        cases q1 : nkD d with
        | none => rw [q1] at e; cases e
        | some k =>
          cases q2 : nkAll ds with
          | none => simp only [q1, q2] at e; cases e
          | some ks =>
            simp only [q1, q2] at e
            cases e
            exact .cons (nk_is I sm d _ _ k h1 r1 q1) (nk_all I sm ds _ _ ks h2 r2 q2)
end
theorem dc_mem {xs : List (NestedKey × Addr × Value)} {kvs : List (D × D)} (dc : DcOk X.K S xs kvs) : ∀ x ∈ xs, ∃ kv, DcOne X.K S x kv := by
  induction dc with
  | nil => intro x hx; exact absurd hx List.not_mem_nil
  | @cons p q ps qs h t ih =>
    intro x hx
    rcases List.mem_cons.mp hx with e | e
    · subst e; exact ⟨q, h⟩
    · exact ih x e
theorem dno_at {xs : List (NestedKey × Addr × Value)} {kvs : List (D × D)} {p : Addr} (I : Inv X pins σ H s) (pq : Pq X) (hp : H p = some (DNO p xs)) (sm : Same S H) (dc : DcOk X.K S xs kvs) :
    s.heap.DictOfH (nestedKind X.prog X.w) p xs ∧ (p == sysModules) = false ∧ xs.length ≤ sizeLine := by
  have x : (p == sysModules) = false ∧ xs.length ≤ sizeLine ∧ ∃ o es ep, s.heap.get? p = some o ∧ o.ExactDict ∧ o.data = .dict es ep ∧ es.toList = xs.map (entryOfKey (nestedKind PWd.P PWd.w)) ∧ (xs.map (·.1)).Nodup :=
    (show ObjOk X.prog X.w H s.heap p (DNO p xs) from I.hok p _ hp).1
  obtain ⟨h1, h2, o, es, ep, ho, hx, hd, he, hn⟩ := x
  rw [← pq.p, ← pq.w] at he
  refine ⟨⟨o, es, ep, ho, hx, hd, he, fun x hx => ?_, hn⟩, h1, h2⟩
  obtain ⟨kv, z⟩ := dc_mem dc x hx
  exact ⟨nk_is I sm kv.1 _ _ x.1 z.kd rfl z.key, z.deep⟩
theorem dno_ok {xs : List (NestedKey × Addr × Value)} {p : Addr} {P : Program} {w : World} {h : Heap} (pq : X.prog = P ∧ X.w = w) (pw : Pq X) (hd : h.DictOfH (nestedKind P w) p xs) (h1 : (p == sysModules) = false) (h2 : xs.length ≤ sizeLine) : ObjOk P w H h p (DNO p xs) := by
  obtain ⟨o, es, ep, ho, hx, hdat, he, _, hn⟩ := hd
  rw [← pq.1, ← pq.2, pw.p, pw.w] at he
  refine ⟨⟨h1, h2, o, es, ep, ho, hx, hdat, he, hn⟩, ⟨o, ho⟩, fun ha hb z k => ?_⟩
  obtain ⟨z1, z2, o', es', ep', ho', hx', hd', he', hn'⟩ := z
  exact ⟨z1, z2, o', es', ep', k _ ho', hx', hd', he', hn'⟩
/-- what is found -/
theorem dc_find {k : D} {n : NestedKey} (hk : nkD k = some n) {xs : List (NestedKey × Addr × Value)} {kvs : List (D × D)} (dc : DcOk X.K S xs kvs) :
    (atKey xs n = none ∧ dcGet kvs k = none) ∨ ∃ a u v d, atKey xs n = some (a, u) ∧ dcGet kvs k = some d ∧ RelV v u ∧ Dp X.K S v d := by
  induction dc with
  | nil => exact .inl ⟨rfl, rfl⟩
  | @cons x kv xs kvs h t ih =>
    by_cases c : x.1 = n
    · obtain ⟨v, r, q⟩ := h.vd
      refine .inr ⟨x.2.1, x.2.2, v, kv.2, ?_, ?_, r, q⟩
      · unfold atKey
        rw [List.find?_cons, show decide (x.1 = n) = true from decide_eq_true c]; rfl
      · unfold dcGet
        rw [List.find?_cons, show sameK k kv = true by unfold sameK; rw [h.key, hk, c]; exact decide_eq_true rfl]; rfl
    · have e1 : atKey (x :: xs) n = atKey xs n := by
        unfold atKey
        rw [List.find?_cons, show decide (x.1 = n) = false from decide_eq_false c]
      have e2 : dcGet (kv :: kvs) k = dcGet kvs k := by
        unfold dcGet
        rw [List.find?_cons, show sameK k kv = false by
          unfold sameK
          rw [h.key, hk]
          exact decide_eq_false fun z => c (Option.some.inj z)]
      rw [e1, e2]
      exact ih
theorem dc_repl {k : D} {n : NestedKey} (hk : nkD k = some n) {u : Value} {v : V} {d : D} (r : RelV v u) (q : Dp X.K S v d) {xs : List (NestedKey × Addr × Value)} {kvs : List (D × D)} (dc : DcOk X.K S xs kvs) :
    DcOk X.K S (xs.map (putAt n u)) (kvs.map fun kv => if sameK k kv = true then (kv.1, d) else kv) := by
  induction dc with
  | nil => exact .nil
  | @cons x kv xs kvs h t ih =>
    rw [List.map_cons, List.map_cons]
    refine .cons ?_ ih
    unfold putAt
    by_cases c : x.1 = n
    · rw [if_pos c, if_pos (by unfold sameK; rw [h.key, hk, c]; exact decide_eq_true rfl)]
      exact ⟨h.key, h.deep, h.kd, v, r, q⟩
    · rw [if_neg c, if_neg (by
        unfold sameK
        rw [h.key, hk]
        intro z
        exact c (Option.some.inj (of_decide_eq_true z)))]
      exact h
theorem dc_put {k : D} {n : NestedKey} (hk : nkD k = some n) (hd : n.depth ≤ 8) {a : Addr} (ka : Dp X.K S (.ref a) k) {u : Value} {v : V} {d : D} (r : RelV v u) (q : Dp X.K S v d) {xs : List (NestedKey × Addr × Value)} {kvs : List (D × D)} (dc : DcOk X.K S xs kvs) :
    DcOk X.K S (storedH xs n a u) (dcPut kvs k d) := by
  unfold storedH dcPut
  rcases dc_find hk dc with ⟨e1, e2⟩ | ⟨a', u', v', d', e1, e2, _⟩
  · rw [e1, e2]
    exact Paired.snoc dc ⟨hk, hd, ka, v, r, q⟩
  · rw [e1, e2]
    exact dc_repl hk r q dc
/-! ### the operations by values -/
structure DKey (X : Cx) (H : Hp) (S : Hp) (a p : Addr) (xs : List (NestedKey × Addr × Value)) (kvs : List (D × D)) (k : D) (n : NestedKey) : Prop where
  hp : H p = some (DNO p xs)
  sm : Same S H
  dc : DcOk X.K S xs kvs
  ka : Dp X.K S (.ref a) k
  hk : nkD k = some n
  deep : n.depth ≤ 8
def rDin (X : Cx) (ng : Bool) : R2 := fun x y H Q => ∃ a p S xs kvs k n, x = .ref a ∧ y = .ref p ∧ DKey X H S a p xs kvs k n ∧ Q (.bl (xor ng (dcGet kvs k).isSome)) H
theorem or_din (pq : Pq X) (hu : X.A.units + 64 < cLine) (ng : Bool) : OpR X (compareOp (if ng = true then CmpOp.NotIn else CmpOp.In)) (rDin X ng) := by
  intro pins s σ H x y v u Q I rx ry h
  obtain ⟨a, p, S, xs, kvs, k, n, rfl, rfl, K, q⟩ := h
  obtain rfl : v = .ref a := rx
  obtain rfl : u = .ref p := ry
  obtain ⟨hd, h1, _⟩ := dno_at I pq K.hp K.sm K.dc
  have hkey : (nestedKind X.prog X.w).is s.heap n a := ⟨nk_is I K.sm k _ _ n K.ka rfl K.hk, K.deep⟩
  have hr : (nestedKind X.prog X.w).room X.A.in1 := by show X.A.units + 1 + 8 < cLine; omega
  have e : (atKey xs n).isSome = (dcGet kvs k).isSome := by
    rcases dc_find K.hk K.dc with ⟨e1, e2⟩ | ⟨a', u', v', d', e1, e2, _⟩ <;> rw [e1, e2] <;> rfl
  cases ng with
  | false =>
    have q : Q (.bl (dcGet kvs k).isSome) H := by simpa using q
    exact wpAny_in_heap hr hkey h1 hd ⟨.bl _, H, I.tok _, (by show Value.bool _ = Value.bool _; rw [e]), q⟩
  | true =>
    have q : Q (.bl (!(dcGet kvs k).isSome)) H := by simpa using q
    show wpAny _ _ (do return Value.bool (!(← contains (.ref p) (.ref a)))) _ _ _
    exact wpAny_bind (PySem.wpAny_contains_heap hr hkey h1 hd (wpAny_pure ⟨.bl _, H, I.tok _, (by show Value.bool _ = Value.bool _; rw [e]), q⟩))
def rDget (X : Cx) : R2 := fun x y H Q => ∃ a p S xs kvs k n d, x = .ref p ∧ y = .ref a ∧ DKey X H S a p xs kvs k n ∧ dcGet kvs k = some d ∧ ∀ v, Dp X.K S v d → Q v H
theorem ix_dn (pq : Pq X) (hu : X.A.units + 64 < cLine) : IxR X (rDget X) := by
  intro value slice pins s σ H x y v u Q I rx ry h hs
  obtain ⟨a, p, S, xs, kvs, k, n, d, rfl, rfl, K, hg, q⟩ := h
  obtain rfl : v = .ref p := rx
  obtain rfl : u = .ref a := ry
  obtain ⟨hd, h1, _⟩ := dno_at I pq K.hp K.sm K.dc
  have hkey : (nestedKind X.prog X.w).is s.heap n a := ⟨nk_is I K.sm k _ _ n K.ka rfl K.hk, K.deep⟩
  have hr : (nestedKind X.prog X.w).room X.A.in1 := by show X.A.units + 1 + 8 < cLine; omega
  rcases dc_find K.hk K.dc with ⟨e1, e2⟩ | ⟨a', u', v', d', e1, e2, r, z⟩
  · rw [hg] at e2; cases e2
  · rw [hg] at e2
    cases e2
    have fin : EP X pins σ Q u' { s with toks := s.toks + (nestedKind X.prog X.w).draws n } := ⟨v', H, I.tok _, r, q v' z⟩
    have gi : wpAny (model X.prog X.w) X.A (getItem (.ref p) (.ref a)) (fun r s' => r = u' ∧ EP X pins σ Q r s') X.xe s :=
      wpAny_getItem_heap (p := (a', u')) hr hkey hd e1 ⟨rfl, fin⟩
    exact PyProof.Rows.subscriptTail_builtinR (x := u') hd.typeIs F.slot_dict_getitem.lookup gi hs
/-- d.get(k, x) -/
def rDgetO (X : Cx) : V → List V → Hp → VK → Prop := fun x ys H Q => ∃ a p S xs kvs k n d w, x = .ref p ∧ ys = [.ref a, w] ∧ DKey X H S a p xs kvs k n ∧ Dp X.K S w d ∧ ∀ v, Dp X.K S v ((dcGet kvs k).getD d) → Q v H
theorem mt_dgetO (pq : Pq X) (hu : X.A.units + 64 < cLine) : MtR X "dict.get" (rDgetO X) := by
  intro pins s σ H x ys v us Q I rx rys h
  obtain ⟨a, p, S, xs, kvs, k, n, d, w, rfl, rfl, K, hw, q⟩ := h
  obtain rfl : v = .ref p := rx
  cases rys with
  | @cons _ ua _ us' ra rt =>
    obtain rfl : ua = .ref a := ra
    cases rt with
    | @cons _ uw _ us2 rw_ rt2 =>
      cases rt2
      obtain ⟨hd, h1, _⟩ := dno_at I pq K.hp K.sm K.dc
      have hkey : (nestedKind X.prog X.w).is s.heap n a := ⟨nk_is I K.sm k _ _ n K.ka rfl K.hk, K.deep⟩
      have hr : (nestedKind X.prog X.w).room X.A.in1 := by show X.A.units + 1 + 8 < cLine; omega
      refine call_meetsIn F.slot_dict_get hd.typeIs F.entry_dict_get (F.args_dict_get_3 _ _ _) (meetsH_dict_get_default (nestedKind X.prog X.w) p a h1 uw) ⟨hr, n, xs, hkey, hd, ?_⟩
      rcases dc_find K.hk K.dc with ⟨e1, e2⟩ | ⟨a', u', v', d', e1, e2, r, z⟩
      · rw [e1]
        rw [e2] at q
        exact ⟨w, H, I.tok _, rw_, q w hw⟩
      · rw [e1]
        rw [e2] at q
        exact ⟨v', H, I.tok _, r, q v' z⟩
def tDgetO (X : Cx) (to : TE) (t : TA) : TE := fun σ H Q => to σ H fun x H1 => (∃ p xs kvs S, x = V.ref p ∧ H1 p = some (DNO p xs) ∧ Same S H1 ∧ DcOk X.K S xs kvs) ∧ t σ H1 fun ys H2 => rDgetO X x ys H2 Q
theorem pe_dgetO {o e : Expr} {es : List Expr} {to : TE} {t : TA} {apos cpos : Pos} (pq : Pq X) (hu : X.A.units + 64 < cLine) (ho : PE X o to) (ha : PA X (e :: es) t)
    (hbase : attributeBase o "get" X.env (eval o X.env) = eval o X.env)
    (hfew : ((backTo cpos (starEach (e :: es) X.env)).all (fun x => !x.1) && (backToKw cpos (keywordEach [] X.env)).all (fun x => x.1.isSome)
      && decide ((e :: es).length + ([] : List Keyword).length + (if ([] : List Keyword).isEmpty then 0 else 1) < 30)) = true)
    (hline : (apos.endLine == cpos.line) = true) (hs : starEach (e :: es) X.env = (false, eval e X.env) :: starEach es X.env) (hplain : (backTo cpos (starEach es X.env)).any (·.1) = false) :
    PE X (.Call (.Attribute o "get" apos) (e :: es) [] cpos) (tDgetO X to t) := by
  refine ⟨fun pins s σ H Q I h => ?_⟩
  refine wpAny_Call_method_late hbase hfew hline rfl (thn (ho.run pins s σ H _ I h) fun v s1 ⟨x, H1, I1, r1, ty, q1⟩ => ?_)
  obtain ⟨p, xs, kvs, S, rfl, hp, sm, dc⟩ := ty
  obtain rfl : v = .ref p := r1
  obtain ⟨hd, h1, _⟩ := dno_at I1 pq hp sm dc
  have hnd : ∀ b, Value.ref p = .ref b → ∃ ob, s1.heap.get? b = some ob ∧ ob.dict = none := fun b e => by
    cases e
    obtain ⟨o, _, _, ho, hc, _⟩ := hd
    exact ⟨o, ho, hc.2.1⟩
  refine ⟨"dict", "dict.get", F.plainAttrs_dict, F.slot_dict_get, F.type_dict_get, hd.typeIs, hnd, ?_⟩
  have hA := ha.run cpos pins s1 σ H1 _ I1 q1
  rw [hs] at hA ⊢
  refine Calls.callWith_builtin (by show (false || (backTo cpos (starEach es X.env)).any (·.1)) = false; rw [hplain] <;> rfl) (Calls.evalArgs_plain ?_)
  exact thn hA fun us s2 ⟨vs, H2, I2, r2, q2⟩ => mt_dgetO pq hu pins s2 σ H2 (.ref p) vs (.ref p) us Q I2 rfl r2 q2
/-- d[k] = v -/
def rDput (X : Cx) : TSet := fun o i v H Q => ∃ a p S xs kvs k n d, o = .ref p ∧ i = .ref a ∧ DKey X H S a p xs kvs k n ∧ kvs.length < sizeLine ∧ Dp X.K S v d ∧ ∀ ys, DcOk X.K S ys (dcPut kvs k d) → Q (upd H p (DNO p ys))
theorem dcPut_len {kvs : List (D × D)} {k d : D} : (dcPut kvs k d).length ≤ kvs.length + 1 := by
  unfold dcPut
  split
  · rw [List.length_map]; omega
  · simp
theorem set_dn (pq : Pq X) (hu : X.A.units + 64 < cLine) : PSet X (rDput X) := by
  intro pins s σ H o i v ov iv u Q I ro ri rv h
  obtain ⟨a, p, S, xs, kvs, k, n, d, rfl, rfl, K, hl, hv, q⟩ := h
  obtain rfl : ov = .ref p := ro
  obtain rfl : iv = .ref a := ri
  obtain ⟨hd, h1, h2⟩ := dno_at I pq K.hp K.sm K.dc
  have hkey : (nestedKind X.prog X.w).is s.heap n a := ⟨nk_is I K.sm k _ _ n K.ka rfl K.hk, K.deep⟩
  have hr : (nestedKind X.prog X.w).room X.A.in1 := by show X.A.units + 1 + 8 < cLine; omega
  have dc' := dc_put K.hk K.deep K.ka rv hv K.dc
  refine wpAny_setItem_heap (hsz := h2) hr hkey hd fun h' hd' hs => ?_
  have hz : (storedH xs n a u).length ≤ sizeLine := by
    rw [Paired.length dc']
    have := dcPut_len (kvs := kvs) (k := k) (d := d)
    omega
  have he : ∃ o, h'.get? p = some o := by
    obtain ⟨o, _, _, ho, _⟩ := hd'
    exact ⟨o, ho⟩
  refine ⟨upd H p (DNO p (storedH xs n a u)), I.write (e := p) (t' := _) (by rw [K.hp]; trivial) (.inl rfl) (fun b o hb e => (hs.2 b hb).trans e) he (dno_ok ⟨rfl, rfl⟩ pq hd' h1 hz), q _ dc'⟩
/-- {} -/
def tDNewN : TE := fun _ H Q => ∀ p, H p = none → Q (.ref p) (upd H p (DNO p []))
theorem pe_dnewN (pq : Pq X) {pos : Pos} : PE X (.Dict [] [] pos) tDNewN := ⟨fun pins s σ H Q I h => by
  have hs : (s.heap.objs.size == sysModules) = false := beq_eq_false_iff_ne.mpr (Ne.symm (Nat.ne_of_lt I.big))
  exact wpAny_Dict_empty ⟨.ref s.heap.objs.size, _, I.laid (a := s.heap.objs.size) (o := DNO s.heap.objs.size []) (t' := s.toks) (fun _ _ q => Heap.get?_push_of_some _ q) (Nat.le_refl _) (dno_ok ⟨rfl, rfl⟩ pq (Heap.DictOfH.new s.heap) hs (Nat.zero_le _)), rfl, h _ (I.hok.fresh (Nat.le_refl _))⟩⟩
/-- list(d) -/
def rDkeys (X : Cx) : List V → Hp → VK → Prop := fun vs H Q => ∃ p S xs kvs, vs = [.ref p] ∧ H p = some (DNO p xs) ∧ Same S H ∧ DcOk X.K S xs kvs ∧ ∀ q, H q = none → Q (.ref q) (upd H q (.lst (xs.map fun x => V.ref x.2.1)))
theorem cr_dkeys (pq : Pq X) (hc : X.calm = true) : CallR X (.type "list") (rDkeys X) := by
  intro pins s σ H vs us Q I r h
  obtain ⟨p, S, xs, kvs, rfl, hp, sm, dc, q⟩ := h
  rw [Vals.ref1 r]
  obtain ⟨hd, h1, h2⟩ := dno_at I pq hp sm dc
  obtain ⟨es, ep, hraw, hsz, he⟩ := hd.raw
  refine PySem.W.kdl_call (PySem.KdlSrc.rawDict (es := es) (ep := ep) h1) (I.ok.hd hc) hraw (by rw [hsz]; exact h2) fun h' tk acc' c' hkeep hS hacc => ?_
  refine ⟨.ref s.heap.objs.size, upd H s.heap.objs.size (.lst (xs.map fun x => V.ref x.2.1)), I.laid hkeep (Nat.le_refl _) (show ObjOk X.prog X.w _ _ _ (.lst (xs.map fun x => V.ref x.2.1)) from ⟨?_, acc'.toList, c', ?_, ?_⟩), rfl, q _ (I.hok.fresh (Nat.le_refl _))⟩
  · rw [List.length_map]; exact h2
  · have el : acc'.toList.length = acc'.size := by simp
    refine vals_of_at (by rw [List.length_map, el, hacc.1, hsz]) fun j x w h1 h2 => ?_
    obtain ⟨hi, e⟩ := hacc.2 j w (by rw [← Array.getElem?_toList]; exact h2)
    obtain ⟨y, hy, hk, _⟩ := he j hi
    rw [List.getElem?_map, hy] at h1
    cases h1
    show w = .ref y.2.1
    rw [e, hk]
  · rw [Array.toArray_toList]; exact hS
end
end Rf

/-! Rf: reflection. Part DB: what is told of dicts. -/
namespace Rf
open PySem L2
variable [PWd]
theorem key_of {k : D} (h : keyOk k = true) : ∃ ds n, k = .tuple ds ∧ nkD k = some n ∧ n.depth ≤ 8 := by
  cases k with
  | tuple ds =>
    have h : (match nkD (.tuple ds) with
      | some n => decide (n.depth ≤ 8)
      | none => false) = true := h
    cases q : nkD (.tuple ds) with
    | none => rw [q] at h; cases h
    | some n =>
      rw [q] at h
      exact ⟨ds, n, rfl, rfl, of_decide_eq_true h⟩
  | _ => cases h
theorem dp_ref {K : PySem.W.Frag} {S : Hp} {ds : List D} {v : V} (h : Dp K S v (.tuple ds)) : ∃ a, v = .ref a := by
  cases h
  exact ⟨_, rfl⟩
section
variable {X : Cx} {ct : Str → Option Addr} {k : Nat} {Γ : Ctx} {N : List Str} {sc : Scope} {W : WX} {te ta tb tc : TE} {e a b c : E} {t x y z : Expr} {ts : List Expr} {pos : Pos}
theorem var_peM (s : Stc X ct k Γ N sc W) {i : Nat} (h : mVar N i sc t = true) : PE X t (tVar i) ∧ notCall0 t = true ∧ notTup t = true ∧ notStar t = true := by
  unfold mVar at h
  cases w : asName t with
  | none => rw [w] at h; cases h
  | some x =>
    simp only [w, Bool.and_eq_true, decide_eq_true_eq] at h
    obtain ⟨p, rfl⟩ := asName_eq w
    exact ⟨pe_var (by rw [s.hN]; exact h.1.1) (s.vis h.1.2) (nm_of h.2).1 (nm_of h.2).2.1, rfl, rfl, rfl⟩
theorem pst_slotD {ρ : Sl} {i : Nat} {f : List (D × D) → Res D} {σ : L2.St} {S H : Hp} {R : RT} {Q : VK} (h : Pst ct W σ S H R Q (slotD ρ i f)) : ∃ kvs, ρ[i]? = some (.dic kvs) ∧ Pst ct W σ S H R Q (f kvs) := by
  unfold slotD at h
  cases q : ρ[i]? with
  | none => rw [q] at h; exact h.elim
  | some u =>
    rw [q] at h
    cases u with
    | dic kvs => exact ⟨kvs, rfl, h⟩
    | _ => exact h.elim
theorem snd_din (s : Stc X ct k Γ N sc W) (hu : X.A.units + 64 < cLine) {ng : Bool} {i : Nat} (hm : behindInMarks (if ng = true then CmpOp.NotIn else CmpOp.In) y = false) (ha : Snd X ct Γ W a x) (hy : mVar N i sc y = true) :
    Snd X ct Γ W (.din ng i a) (.Compare x [if ng = true then CmpOp.NotIn else CmpOp.In] [y] pos) := by
  obtain ⟨ta, pa, ra, _⟩ := ha.pe
  have py := (var_peM s hy).1
  have ho := or_din s.pq hu ng
  have h : EvP X ct W (tOp (rDin X ng) ta (tVar i)) (RSh X.K) (ev Γ (.din ng i a) false) := fun S H σ ρ Q rp hp => by
    obtain ⟨kvs, e1, hp⟩ := pst_slotD (show Pst ct W σ S H (RSh X.K) Q (slotD ρ i fun kvs => ev Γ a false ρ >>= fun k => guard' (keyOk k) (.ok (.bool (xor ng (dcGet kvs k).isSome)))) from hp)
    refine ra.bind rp mn_sh hp fun k v S1 H1 _ x1 r1 rp1 hp1 => ?_
    obtain ⟨p, xs, w1, w2, w3, w4⟩ := rp1.dic e1
    obtain ⟨g1, g2⟩ := pst_guard hp1
    obtain ⟨ds, n, rfl, hk, hd⟩ := key_of g1
    obtain ⟨a', rfl⟩ := dp_ref r1
    exact ⟨_, w1, a', p, S1, xs, kvs, _, n, rfl, rfl, ⟨w2, rp1.sub, w4, r1, hk, hd⟩, g2 _ S1 H1 (Ext.refl rp1.sub) (.bl _)⟩
  exact ⟨⟨_, pe_cmpR ho pa py hm, h, h.rd, fun q => (by cases q), fun q => (by cases q)⟩, fun _ => ⟨_, pt_cmpR ho pa py hm, tv_of h, fun _ _ _ q => by cases q⟩⟩
theorem snd_dget (s : Stc X ct k Γ N sc W) (hu : X.A.units + 64 < cLine) {i : Nat} (hs : notSlice y = true) (hx : mVar N i sc x = true) (ha : Snd X ct Γ W a y) : Snd X ct Γ W (.dget i a) (.Subscript x y pos) := by
  obtain ⟨ta, pa, ra, _⟩ := ha.pe
  have px := (var_peM s hx).1
  have ht : ∀ whole, isTrue (.Subscript x y pos) X.env whole = (do let v ← whole; standAt (Expr.Subscript x y pos).pos; holding [v] (truthy v)) := fun _ => rfl
  refine Snd.plain (pe_ix (ix_dn s.pq hu) px pa (plain_ix hs)) (fun S H σ ρ Q rp hp => ?_) (fun _ => rfl) rfl ht (fun _ _ _ q => by cases q) rfl
  obtain ⟨kvs, e1, hp⟩ := pst_slotD (show Pst ct W σ S H (RSh X.K) Q (slotD ρ i fun kvs => ev Γ a false ρ >>= fun k => guard' (keyOk k) (dgetR (dcGet kvs k))) from hp)
  obtain ⟨p, xs, w1, w2, w3, w4⟩ := rp.dic e1
  refine ⟨_, w1, ra.bind rp mn_sh hp fun k v S1 H1 _ x1 r1 rp1 hp1 => ?_⟩
  obtain ⟨g1, g2⟩ := pst_guard hp1
  obtain ⟨ds, n, rfl, hk, hd⟩ := key_of g1
  obtain ⟨a', rfl⟩ := dp_ref r1
  cases q : dcGet kvs (.tuple ds) with
  | none => rw [q] at g2; exact g2.elim
  | some d =>
    rw [q] at g2
    exact ⟨a', p, S1, xs, kvs, _, n, d, rfl, rfl, ⟨x1.h _ _ w2, rp1.sub, dc_mono x1.s w4, r1, hk, hd⟩, q, fun v hv => g2 v S1 H1 (Ext.refl rp1.sub) hv⟩
theorem snd_dgetO (s : Stc X ct k Γ N sc W) (hu : X.A.units + 64 < cLine) {i : Nat} {p q : Pos} (hl : (p.endLine == q.line) = true) (hy : notStar y = true) (hz : notStar z = true) (hx : mVar N i sc x = true) (ha : Snd X ct Γ W a y) (hb : Snd X ct Γ W b z) :
    Snd X ct Γ W (.dgetO i a b) (.Call (.Attribute x "get" p) [y, z] [] q) := by
  obtain ⟨ta, pa, ra, _⟩ := ha.pe
  obtain ⟨tb, pb, rb, _⟩ := hb.pe
  obtain ⟨px, h0, _⟩ := var_peM s hx
  have ht : ∀ whole, isTrue (.Call (.Attribute x "get" p) [y, z] [] q) X.env whole = (do let v ← whole; standAt (Expr.Call (.Attribute x "get" p) [y, z] [] q).pos; holding [v] (truthy v)) := fun _ => rfl
  have hst : starEach [y, z] X.env = (false, eval y X.env) :: starEach [z] X.env := star_cons hy
  have hst2 : starEach [z] X.env = (false, eval z X.env) :: starEach [] X.env := star_cons hz
  refine Snd.plain (pe_dgetO s.pq hu px (pa_cons pa (pa_cons pb pa_nil hst2) hst) (base_ok h0) (by rw [hst, hst2]; rfl) hl hst (by rw [hst2]; rfl)) (fun S H σ ρ Q rp hp => ?_) (fun _ => rfl) rfl ht (fun _ _ _ q => by cases q) rfl
  obtain ⟨kvs, e1, hp⟩ := pst_slotD (show Pst ct W σ S H (RSh X.K) Q (slotD ρ i fun kvs => ev Γ a false ρ >>= fun k => ev Γ b false ρ >>= fun x => guard' (keyOk k) (.ok ((dcGet kvs k).getD x))) from hp)
  obtain ⟨p', xs, w1, w2, w3, w4⟩ := rp.dic e1
  refine ⟨_, w1, ⟨p', xs, kvs, S, rfl, w2, rp.sub, w4⟩, ra.bind rp mn_sh hp fun k v S1 H1 _ x1 r1 rp1 hp1 => ?_⟩
  refine rb.bind rp1 mn_sh hp1 fun d w S2 H2 _ x2 r2 rp2 hp2 => ?_
  obtain ⟨g1, g2⟩ := pst_guard hp2
  obtain ⟨ds, n, rfl, hk, hd⟩ := key_of g1
  obtain ⟨a', rfl⟩ := dp_ref r1
  exact ⟨a', p', S2, xs, kvs, _, n, d, w, rfl, rfl, ⟨x2.h _ _ (x1.h _ _ w2), rp2.sub, dc_mono x2.s (dc_mono x1.s w4), dp_mono x2.s _ _ r1, hk, hd⟩, r2, fun v hv => g2 v S2 H2 (Ext.refl rp2.sub) hv⟩
theorem dc_keys {K : PySem.W.Frag} {S : Hp} {xs : List (NestedKey × Addr × Value)} {kvs : List (D × D)} (dc : DcOk K S xs kvs) : DpAll K S (xs.map fun x => V.ref x.2.1) (kvs.map (·.1)) := by
  induction dc with
  | nil => exact .nil
  | cons h t ih => exact .cons h.kd ih
theorem snd_dkeys (s : Stc X ct k Γ N sc W) {i : Nat} {p q : Pos} (h1 : Γ.bl.contains ("list" : Str) = true) (h2 : glB sc "list" = true) (hy : notStar y = true) (hx : mVar N i sc y = true) : Snd X ct Γ W (.dkeys i) (.Call (.Name "list" p) [y] [] q) := by
  obtain ⟨py, h0, _⟩ := var_peM s hx
  have hb : X.mg "list" = none := s.bl _ (List.contains_iff_mem.mp h1)
  have hst : starEach [y] X.env = (false, eval y X.env) :: starEach [] X.env := star_cons hy
  have ht : ∀ whole, isTrue (.Call (.Name "list" p) [y] [] q) X.env whole = (do let v ← whole; standAt (Expr.Call (.Name "list" p) [y] [] q).pos; holding [v] (truthy v)) := fun _ => rfl
  refine Snd.new (pe_callTy (cr_dkeys s.pq s.calm) (s.gl h2) hb (by decide +kernel) (pa_cons py pa_nil hst) (by decide) (by decide) hst rfl) (fun S H σ ρ Q rp hp => ?_) (fun _ => rfl) (fun _ _ => rfl) ht (fun _ _ _ q => by cases q)
  obtain ⟨kvs, e1, hp⟩ := pst_slotD (show Pst ct W σ S H (RFr X.K) Q (slotD ρ i fun kvs => guard' (decide (kvs.length ≤ lim)) (.ok (.list (kvs.map (·.1))))) from hp)
  obtain ⟨p', xs, w1, w2, w3, w4⟩ := rp.dic e1
  obtain ⟨g1, g2⟩ := pst_guard hp
  refine ⟨_, w1, p', S, xs, kvs, rfl, w2, rp.sub, w4, fun q hq => g2 _ S _ (Ext.made rp.sub hq) ⟨q, _, _, rfl, rfl, upd_same, Same.free rp.sub hq, hq, dc_keys w4⟩⟩
end
end Rf

/-! Rf: reflection. Part K: every expression that is matched. -/
namespace Rf
open PySem L2
variable [PWd]
section
variable {ct : Str → Option Addr} {k : Nat} {Γ : Ctx} {N : List Str} {e : E}
structure SA (ct : Str → Option Addr) (k : Nat) (Γ : Ctx) (N : List Str) (c : E) : Prop where
  e : ∀ {X : Cx} {W : WX} {sc : Scope} {t : Expr}, Stc X ct k Γ N sc W → X.A.units + 64 < cLine → mE Γ N c sc t = true → Snd X ct Γ W c t
  l : ∀ {X : Cx} {W : WX} {sc : Scope} {ts : List Expr}, Stc X ct k Γ N sc W → X.A.units + 64 < cLine → mEs Γ N c sc ts = true → SndL X ct Γ W c ts
  i : ∀ {X : Cx} {W : WX} {sc : Scope} {tg t : Expr}, Stc X ct k Γ N sc W → X.A.units + 64 < cLine → mI Γ N c sc tg t = true → SndI X ct Γ W c tg t
theorem SA.ofE (h : ∀ {X : Cx} {W : WX} {sc : Scope} {t : Expr}, Stc X ct k Γ N sc W → X.A.units + 64 < cLine → mE Γ N e sc t = true → Snd X ct Γ W e t) (h1 : ∀ sc ts, mEs Γ N e sc ts = false) (h2 : ∀ sc tg t, mI Γ N e sc tg t = false) : SA ct k Γ N e :=
  ⟨h, fun {X W sc ts} _ _ q => by rw [h1] at q; (cases q), fun {X W sc tg t} _ _ q => by rw [h2] at q; (cases q)⟩
theorem SA.ofI (h : ∀ {X : Cx} {W : WX} {sc : Scope} {tg t : Expr}, Stc X ct k Γ N sc W → X.A.units + 64 < cLine → mI Γ N e sc tg t = true → SndI X ct Γ W e tg t) (h1 : ∀ sc ts, mEs Γ N e sc ts = false) (h2 : ∀ sc t, mE Γ N e sc t = false) : SA ct k Γ N e :=
  ⟨fun {X W sc t} _ _ q => by rw [h2] at q; (cases q), fun {X W sc ts} _ _ q => by rw [h1] at q; (cases q), h⟩
theorem SA.o (h : SA ct k Γ N e) {X : Cx} {W : WX} {sc : Scope} {t : Option Expr} (s : Stc X ct k Γ N sc W) (hu : X.A.units + 64 < cLine) (q : (match t with
    | none => isNon e
    | some u => mE Γ N e sc u) = true) : SndP X ct Γ W e t := by
  cases t with
  | none => cases e <;> first | exact sndP_none | cases q
  | some t =>
    have hn : e ≠ .non := by
      intro z
      subst z
      simp [mE] at q
    exact sndP_some hn (h.e s hu q)
theorem snd_all : ∀ e : E, SA ct k Γ N e := by
  intro e
  induction e with
  | non => exact SA.ofE (fun _ _ h => by simp [mE] at h) (fun _ _ => by simp [mEs]) (fun _ _ _ => by simp [mI])
  | nil =>
    refine ⟨fun _ _ h => by simp [mE] at h, fun {X W sc ts} s hu h => ?_, fun _ _ h => by simp [mI] at h⟩
    cases ts with
    | nil => exact sndL_nil
    | cons t ts => simp [mEs] at h
  | cons e es ihe ihes =>
    refine ⟨fun _ _ h => by simp [mE] at h, fun {X W sc ts} s hu h => ?_, fun _ _ h => by simp [mI] at h⟩
    cases ts with
    | nil => simp [mEs] at h
    | cons t ts =>
      unfold mEs at h
      rw [Bool.and_eq_true, Bool.and_eq_true] at h
      exact sndL_cons h.1.1 (ihe.e s hu h.1.2) (ihes.l s hu h.2)
  | var i =>
    refine SA.ofE (fun {X W sc t} s hu h => ?_) (fun _ _ => by simp [mEs]) (fun _ _ _ => by simp [mI])
    unfold mE at h
    cases w : asName t with
    | none => rw [w] at h; cases h
    | some x =>
      simp only [w, Bool.and_eq_true, decide_eq_true_eq] at h
      obtain ⟨p, rfl⟩ := asName_eq w
      exact snd_var s h.1.1 h.1.2 h.2
  | glob j =>
    refine SA.ofE (fun {X W sc t} s hu h => ?_) (fun _ _ => by simp [mEs]) (fun _ _ _ => by simp [mI])
    unfold mE at h
    cases w : asName t with
    | none => rw [w] at h; cases h
    | some x =>
      cases w2 : Γ.globs[j]? with
      | none => simp only [w, w2] at h; cases h
      | some q =>
        simp only [w, w2, Bool.and_eq_true, decide_eq_true_eq] at h
        obtain ⟨p, rfl⟩ := asName_eq w
        obtain ⟨n, d⟩ := q
        obtain ⟨⟨rfl, h1⟩, h2⟩ := h
        exact snd_glob s w2 h1 h2
  | cst c =>
    refine SA.ofE (fun {X W sc t} s hu h => ?_) (fun _ _ => by simp [mEs]) (fun _ _ _ => by simp [mI])
    unfold mE at h
    cases w : asConst t with
    | none => rw [w] at h; cases h
    | some x =>
      simp only [w, decide_eq_true_eq] at h
      subst h
      obtain ⟨j, p, rfl⟩ := asConst_eq w
      exact snd_cst
  | bin op a b iha ihb =>
    refine SA.ofE (fun {X W sc t} s hu h => ?_) (fun _ _ => by simp [mEs]) (fun _ _ _ => by simp [mI])
    unfold mE at h
    cases w : asBin t with
    | none => rw [w] at h; cases h
    | some v =>
      obtain ⟨x, o, y⟩ := v
      simp only [w, Bool.and_eq_true, decide_eq_true_eq] at h
      obtain ⟨p, rfl⟩ := asBin_eq w
      obtain ⟨⟨rfl, h1⟩, h2⟩ := h
      exact snd_bin (iha.e s hu h1) (ihb.e s hu h2)
  | cat a b iha ihb =>
    refine SA.ofE (fun {X W sc t} s hu h => ?_) (fun _ _ => by simp [mEs]) (fun _ _ _ => by simp [mI])
    unfold mE at h
    cases w : asBin t with
    | none => rw [w] at h; cases h
    | some v =>
      obtain ⟨x, o, y⟩ := v
      simp only [w, Bool.and_eq_true, decide_eq_true_eq] at h
      obtain ⟨p, rfl⟩ := asBin_eq w
      obtain ⟨⟨⟨⟨rfl, l1⟩, l2⟩, h1⟩, h2⟩ := h
      exact snd_cat l1 l2 (iha.e s hu h1) (ihb.e s hu h2)
  | neg a iha =>
    refine SA.ofE (fun {X W sc t} s hu h => ?_) (fun _ _ => by simp [mEs]) (fun _ _ _ => by simp [mI])
    unfold mE at h
    cases w : asUn t with
    | none => rw [w] at h; cases h
    | some v =>
      obtain ⟨o, x⟩ := v
      simp only [w, Bool.and_eq_true, decide_eq_true_eq] at h
      obtain ⟨p, rfl⟩ := asUn_eq w
      obtain ⟨rfl, h1⟩ := h
      exact snd_neg (iha.e s hu h1)
  | not a iha =>
    refine SA.ofE (fun {X W sc t} s hu h => ?_) (fun _ _ => by simp [mEs]) (fun _ _ _ => by simp [mI])
    unfold mE at h
    cases w : asUn t with
    | none => rw [w] at h; cases h
    | some v =>
      obtain ⟨o, x⟩ := v
      simp only [w, Bool.and_eq_true, decide_eq_true_eq] at h
      obtain ⟨p, rfl⟩ := asUn_eq w
      obtain ⟨⟨rfl, l1⟩, h1⟩ := h
      exact snd_not l1 (iha.e s hu h1)
  | cmp op a b iha ihb =>
    refine SA.ofE (fun {X W sc t} s hu h => ?_) (fun _ _ => by simp [mEs]) (fun _ _ _ => by simp [mI])
    unfold mE at h
    cases w : asCmp1 t with
    | none => rw [w] at h; cases h
    | some v =>
      obtain ⟨x, o, y⟩ := v
      simp only [w, Bool.and_eq_true, decide_eq_true_eq, Bool.not_eq_true'] at h
      obtain ⟨p, rfl⟩ := asCmp1_eq w
      obtain ⟨⟨⟨rfl, hm⟩, h1⟩, h2⟩ := h
      exact snd_cmp hu hm (iha.e s hu h1) (ihb.e s hu h2)
  | chn o1 o2 a b c iha ihb ihc =>
    refine SA.ofE (fun {X W sc t} s hu h => ?_) (fun _ _ => by simp [mEs]) (fun _ _ _ => by simp [mI])
    unfold mE at h
    cases w : asCmp2 t with
    | none => rw [w] at h; cases h
    | some v =>
      obtain ⟨x, p1, p2, y, z⟩ := v
      simp only [w, Bool.and_eq_true, decide_eq_true_eq, Bool.not_eq_true'] at h
      obtain ⟨p, rfl⟩ := asCmp2_eq w
      obtain ⟨⟨⟨⟨⟨rfl, rfl⟩, hm⟩, h1⟩, h2⟩, h3⟩ := h
      exact snd_chn hu hm (iha.e s hu h1) (ihb.e s hu h2) (ihc.e s hu h3)
  | and a b iha ihb =>
    refine SA.ofE (fun {X W sc t} s hu h => ?_) (fun _ _ => by simp [mEs]) (fun _ _ _ => by simp [mI])
    unfold mE at h
    cases w : asBool t with
    | none => rw [w] at h; cases h
    | some v =>
      obtain ⟨o, l, p⟩ := v
      have e := asBool_eq w
      subst e
      rw [w] at h
      cases o with
      | Or => cases h
      | And =>
        match l, h with
        | [x, y], h =>
          simp only [Bool.and_eq_true] at h
          exact snd_and h.1.1.1 (iha.e s hu h.1.2) (SndO.one .And h.1.1.2 (ihb.e s hu h.2))
        | x :: y :: z :: r, h =>
          simp only [Bool.and_eq_true] at h
          exact snd_and h.1.1.1 (iha.e s hu h.1.2) (SndO.more h.1.1.2 (ihb.e s hu h.2))
        | [], h => cases h
        | [_], h => cases h
  | or a b iha ihb =>
    refine SA.ofE (fun {X W sc t} s hu h => ?_) (fun _ _ => by simp [mEs]) (fun _ _ _ => by simp [mI])
    unfold mE at h
    cases w : asBool t with
    | none => rw [w] at h; cases h
    | some v =>
      obtain ⟨o, l, p⟩ := v
      have e := asBool_eq w
      subst e
      rw [w] at h
      cases o with
      | And => cases h
      | Or =>
        match l, h with
        | [x, y], h =>
          simp only [Bool.and_eq_true] at h
          exact snd_or h.1.1.1 (iha.e s hu h.1.2) (SndO.one .Or h.1.1.2 (ihb.e s hu h.2))
        | x :: y :: z :: r, h =>
          simp only [Bool.and_eq_true] at h
          exact snd_or h.1.1.1 (iha.e s hu h.1.2) (SndO.more h.1.1.2 (ihb.e s hu h.2))
        | [], h => cases h
        | [_], h => cases h
  | ite c a b ihc iha ihb =>
    refine SA.ofE (fun {X W sc t} s hu h => ?_) (fun _ _ => by simp [mEs]) (fun _ _ _ => by simp [mI])
    unfold mE at h
    cases w : asIf t with
    | none => rw [w] at h; cases h
    | some v =>
      obtain ⟨x, y, z⟩ := v
      simp only [w, Bool.and_eq_true] at h
      obtain ⟨p, rfl⟩ := asIf_eq w
      exact snd_ite h.1.1.1 (ihc.e s hu h.1.1.2) (iha.e s hu h.1.2) (ihb.e s hu h.2)
  | tup es ih =>
    refine SA.ofE (fun {X W sc t} s hu h => ?_) (fun _ _ => by simp [mEs]) (fun _ _ _ => by simp [mI])
    unfold mE at h
    cases w : asTup t with
    | none => rw [w] at h; cases h
    | some v =>
      simp only [w, Bool.and_eq_true, decide_eq_true_eq] at h
      obtain ⟨kk, p, rfl⟩ := asTup_eq w
      exact snd_tup h.2 h.1 (ih.l s hu h.2)
  | lst es ih =>
    refine SA.ofE (fun {X W sc t} s hu h => ?_) (fun _ _ => by simp [mEs]) (fun _ _ _ => by simp [mI])
    unfold mE at h
    cases w : asLst t with
    | none => rw [w] at h; cases h
    | some v =>
      simp only [w, Bool.and_eq_true, decide_eq_true_eq] at h
      obtain ⟨p, rfl⟩ := asLst_eq w
      exact snd_lst h.2 h.1 (ih.l s hu h.2)
  | idx a b iha ihb =>
    refine SA.ofE (fun {X W sc t} s hu h => ?_) (fun _ _ => by simp [mEs]) (fun _ _ _ => by simp [mI])
    unfold mE at h
    cases w : asSub t with
    | none => rw [w] at h; cases h
    | some v =>
      obtain ⟨x, y⟩ := v
      simp only [w, Bool.and_eq_true] at h
      obtain ⟨p, rfl⟩ := asSub_eq w
      exact snd_idx h.1.1 (iha.e s hu h.1.2) (ihb.e s hu h.2)
  | sl kk a lo hi iha ihl ihh =>
    refine SA.ofE (fun {X W sc t} s hu h => ?_) (fun _ _ => by simp [mEs]) (fun _ _ _ => by simp [mI])
    unfold mE at h
    cases w : asSub t with
    | none => rw [w] at h; cases h
    | some v =>
      obtain ⟨x, y⟩ := v
      cases w2 : asSlice y with
      | none => simp only [w, w2] at h; cases h
      | some u =>
        obtain ⟨l, g⟩ := u
        simp only [w, w2, Bool.and_eq_true] at h
        obtain ⟨p, rfl⟩ := asSub_eq w
        obtain ⟨p2, rfl⟩ := asSlice_eq w2
        exact snd_sl (iha.e s hu h.1.1) (ihl.o s hu h.1.2) (ihh.o s hu h.2)
  | call kk j es ih =>
    refine SA.ofE (fun {X W sc t} s hu h => ?_) (fun _ _ => by simp [mEs]) (fun _ _ _ => by simp [mI])
    unfold mE at h
    cases w : asCall t with
    | none => rw [w] at h; cases h
    | some v =>
      obtain ⟨x, ys⟩ := v
      cases w2 : Γ.cals[j]? with
      | none => simp only [w, w2] at h; cases h
      | some c =>
        simp only [w, w2] at h
        rw [Bool.and_eq_true, Bool.and_eq_true, Bool.and_eq_true, Bool.and_eq_true, Bool.and_eq_true] at h
        obtain ⟨⟨⟨⟨⟨h1, h2⟩, h3⟩, h4⟩, h5⟩, h6⟩ := h
        obtain ⟨p, q, rfl⟩ := asCall_eq w
        exact snd_call s w2 (of_decide_eq_true h1) h2 h3 h4 (of_decide_eq_true h5) h6 (ih.l s hu h6)
  | callB j es ih =>
    refine SA.ofE (fun {X W sc t} s hu h => ?_) (fun _ _ => by simp [mEs]) (fun _ _ _ => by simp [mI])
    unfold mE at h
    cases w : asCall t with
    | none => rw [w] at h; cases h
    | some v =>
      obtain ⟨x, ys⟩ := v
      cases w2 : Γ.cals[j]? with
      | none => simp only [w, w2] at h; cases h
      | some c =>
        simp only [w, w2] at h
        rw [Bool.and_eq_true, Bool.and_eq_true, Bool.and_eq_true, Bool.and_eq_true] at h
        obtain ⟨⟨⟨⟨h1, h3⟩, h4⟩, h5⟩, h6⟩ := h
        obtain ⟨p, q, rfl⟩ := asCall_eq w
        exact snd_callB s w2 (of_decide_eq_true h1) h3 h4 (of_decide_eq_true h5) h6 (ih.l s hu h6)
  | blt b es ih =>
    refine SA.ofE (fun {X W sc t} s hu h => ?_) (fun _ _ => by simp [mEs]) (fun _ _ _ => by simp [mI])
    unfold mE at h
    cases w : asCall t with
    | none => rw [w] at h; cases h
    | some v =>
      obtain ⟨x, ys⟩ := v
      simp only [w] at h
      rw [Bool.and_eq_true, Bool.and_eq_true, Bool.and_eq_true, Bool.and_eq_true, Bool.and_eq_true] at h
      obtain ⟨⟨⟨⟨⟨h0, h1⟩, h3⟩, h4⟩, h5⟩, h6⟩ := h
      obtain ⟨p, q, rfl⟩ := asCall_eq w
      exact snd_blt s h0 (of_decide_eq_true h1) h3 h4 (of_decide_eq_true h5) h6 (ih.l s hu h6)
  | isi ty a iha =>
    refine SA.ofE (fun {X W sc t} s hu h => ?_) (fun _ _ => by simp [mEs]) (fun _ _ _ => by simp [mI])
    unfold mE at h
    cases w : asCall t with
    | none => rw [w] at h; cases h
    | some v =>
      obtain ⟨x, ys⟩ := v
      obtain ⟨p, q, rfl⟩ := asCall_eq w
      rw [w] at h
      match ys, h with
      | [], h => cases h
      | [_], h => cases h
      | _ :: _ :: _ :: _, h => cases h
      | [y, z], h =>
        have h : (decide (("isinstance" : Str) = x) && Γ.bl.contains x && glB sc x && notStar y && mE Γ N a sc y && (match asName z with
          | some n => decide (ty.name = n) && Γ.bl.contains n && glB sc n
          | none => false)) = true := h
        rw [Bool.and_eq_true, Bool.and_eq_true, Bool.and_eq_true, Bool.and_eq_true, Bool.and_eq_true] at h
        obtain ⟨⟨⟨⟨⟨h1, h2⟩, h3⟩, h4⟩, h5⟩, h6⟩ := h
        cases w3 : asName z with
        | none => rw [w3] at h6; cases h6
        | some n =>
          rw [w3] at h6
          have h6 := (Bool.and_eq_true _ _).mp h6
          have h7 := (Bool.and_eq_true _ _).mp h6.1
          obtain ⟨p2, rfl⟩ := asName_eq w3
          exact snd_isi s (of_decide_eq_true h1) h2 h3 h4 (iha.e s hu h5) (of_decide_eq_true h7.1) h7.2 h6.2
  | mth m a e iha ihe =>
    refine SA.ofE (fun {X W sc t} s hu h => ?_) (fun _ _ => by simp [mEs]) (fun _ _ _ => by simp [mI])
    unfold mE at h
    cases w : asMeth t with
    | none => rw [w] at h; cases h
    | some v =>
      obtain ⟨o, n, ys, p, q⟩ := v
      have e1 := asMeth_eq w
      subst e1
      rw [w] at h
      match ys, h with
      | [], h => cases h
      | _ :: _ :: _, h => cases h
      | [y], h =>
        have h : (decide (m.name = n) && (p.endLine == q.line) && notCall0 o && notStar y && mE Γ N a sc o && mE Γ N e sc y) = true := h
        rw [Bool.and_eq_true, Bool.and_eq_true, Bool.and_eq_true, Bool.and_eq_true, Bool.and_eq_true] at h
        obtain ⟨⟨⟨⟨⟨h1, h2⟩, h3⟩, h4⟩, h5⟩, h6⟩ := h
        exact snd_mth (of_decide_eq_true h1) h2 h3 h4 (iha.e s hu h5) (ihe.e s hu h6)
  | comp elt tg it own ih1 ih2 =>
    refine SA.ofE (fun {X W sc t} s hu h => ?_) (fun _ _ => by simp [mEs]) (fun _ _ _ => by simp [mI])
    unfold mE at h
    cases w : asComp t with
    | none => rw [w] at h; cases h
    | some v =>
      obtain ⟨e, x, i, ifs, s2, p⟩ := v
      have e1 := asComp_eq w
      subst e1
      rw [w] at h
      match ifs, h with
      | _ :: _, h => cases h
      | [], h =>
        have h : (blkC N sc s2 (ownL N own) && mTg N s2 tg x && tgIn tg own && mI Γ N it sc x i && mE Γ N elt s2 e) = true := h
        rw [Bool.and_eq_true, Bool.and_eq_true, Bool.and_eq_true, Bool.and_eq_true] at h
        obtain ⟨⟨⟨⟨h1, h2⟩, h3⟩, h4⟩, h5⟩ := h
        exact (lc_comp s h1 h2 h3 (ih2.i s hu h4) fun s0 H0 C cl fp => ih1.e (stc_blk s (blkOk_by h1).kind s0 H0 C cl fp) hu h5).snd s (fun _ => rfl) (fun _ _ => rfl)
  | compC elt tg it cnd own ih1 ih2 ih3 =>
    refine SA.ofE (fun {X W sc t} s hu h => ?_) (fun _ _ => by simp [mEs]) (fun _ _ _ => by simp [mI])
    unfold mE at h
    cases w : asComp t with
    | none => rw [w] at h; cases h
    | some v =>
      obtain ⟨e, x, i, ifs, s2, p⟩ := v
      have e1 := asComp_eq w
      subst e1
      rw [w] at h
      match ifs, h with
      | [], h => cases h
      | _ :: _ :: _, h => cases h
      | [c], h =>
        have h : (blkC N sc s2 (ownL N own) && mTg N s2 tg x && tgIn tg own && mI Γ N it sc x i && tst cnd && mE Γ N cnd s2 c && mE Γ N elt s2 e) = true := h
        rw [Bool.and_eq_true, Bool.and_eq_true, Bool.and_eq_true, Bool.and_eq_true, Bool.and_eq_true, Bool.and_eq_true] at h
        obtain ⟨⟨⟨⟨⟨⟨h1, h2⟩, h3⟩, h4⟩, h5⟩, h6⟩, h7⟩ := h
        exact (lc_compC s h1 h2 h3 (ih2.i s hu h4) h5 (fun s0 H0 C cl fp => ih3.e (stc_blk s (blkOk_by h1).kind s0 H0 C cl fp) hu h6) fun s0 H0 C cl fp => ih1.e (stc_blk s (blkOk_by h1).kind s0 H0 C cl fp) hu h7).snd s (fun _ => rfl) (fun _ _ => rfl)
  | iseq a iha =>
    refine SA.ofI (fun {X W sc tg t} s hu h => ?_) (fun _ _ => by simp [mEs]) (fun _ _ => by simp [mE])
    unfold mI at h
    rw [Bool.and_eq_true] at h
    exact sndI_seq h.1 (iha.e s hu h.2)
  | istr a iha =>
    refine SA.ofI (fun {X W sc tg t} s hu h => ?_) (fun _ _ => by simp [mEs]) (fun _ _ => by simp [mE])
    unfold mI at h
    rw [Bool.and_eq_true] at h
    exact sndI_str h.1 (iha.e s hu h.2)
  | irng es ih =>
    refine SA.ofI (fun {X W sc tg t} s hu h => ?_) (fun _ _ => by simp [mEs]) (fun _ _ => by simp [mE])
    unfold mI at h
    cases w : asCall t with
    | none => rw [w] at h; cases h
    | some v =>
      obtain ⟨x, ys⟩ := v
      simp only [w] at h
      rw [Bool.and_eq_true, Bool.and_eq_true, Bool.and_eq_true, Bool.and_eq_true] at h
      obtain ⟨⟨⟨⟨h1, h3⟩, h4⟩, h5⟩, h6⟩ := h
      obtain ⟨p, q, rfl⟩ := asCall_eq w
      exact sndI_rng s (of_decide_eq_true h1) h3 h4 (of_decide_eq_true h5) h6 (ih.l s hu h6)
  | ienum a iha =>
    refine SA.ofI (fun {X W sc tg t} s hu h => ?_) (fun _ _ => by simp [mEs]) (fun _ _ => by simp [mE])
    unfold mI at h
    cases w : asCall t with
    | none => rw [w] at h; cases h
    | some v =>
      obtain ⟨x, ys⟩ := v
      obtain ⟨p, q, rfl⟩ := asCall_eq w
      rw [w] at h
      match ys, h with
      | [], h => cases h
      | _ :: _ :: _, h => cases h
      | [y], h =>
        have h : (decide (("enumerate" : Str) = x) && Γ.bl.contains x && glB sc x && isTg2 tg && notStar y && mE Γ N a sc y) = true := h
        rw [Bool.and_eq_true, Bool.and_eq_true, Bool.and_eq_true, Bool.and_eq_true, Bool.and_eq_true] at h
        obtain ⟨⟨⟨⟨⟨h1, h2⟩, h3⟩, h4⟩, h5⟩, h6⟩ := h
        exact sndI_enum s (of_decide_eq_true h1) h2 h3 h4 h5 (iha.e s hu h6)
  | izip a b iha ihb =>
    refine SA.ofI (fun {X W sc tg t} s hu h => ?_) (fun _ _ => by simp [mEs]) (fun _ _ => by simp [mE])
    unfold mI at h
    cases w : asCall t with
    | none => rw [w] at h; cases h
    | some v =>
      obtain ⟨x, ys⟩ := v
      obtain ⟨p, q, rfl⟩ := asCall_eq w
      rw [w] at h
      match ys, h with
      | [], h => cases h
      | [_], h => cases h
      | _ :: _ :: _ :: _, h => cases h
      | [y, z], h =>
        have h : (decide (("zip" : Str) = x) && Γ.bl.contains x && glB sc x && isTg2 tg && notStar y && notStar z && mE Γ N a sc y && mE Γ N b sc z) = true := h
        rw [Bool.and_eq_true, Bool.and_eq_true, Bool.and_eq_true, Bool.and_eq_true, Bool.and_eq_true, Bool.and_eq_true, Bool.and_eq_true] at h
        obtain ⟨⟨⟨⟨⟨⟨⟨h1, h2⟩, h3⟩, h4⟩, h5⟩, h6⟩, h7⟩, h8⟩ := h
        exact sndI_zip s (of_decide_eq_true h1) h2 h3 h4 h5 h6 (iha.e s hu h7) (ihb.e s hu h8)
  | irev a iha =>
    refine SA.ofI (fun {X W sc tg t} s hu h => ?_) (fun _ _ => by simp [mEs]) (fun _ _ => by simp [mE])
    unfold mI at h
    cases w : asCall t with
    | none => rw [w] at h; cases h
    | some v =>
      obtain ⟨x, ys⟩ := v
      obtain ⟨p, q, rfl⟩ := asCall_eq w
      rw [w] at h
      match ys, h with
      | [], h => cases h
      | _ :: _ :: _, h => cases h
      | [y], h =>
        have h : (decide (("reversed" : Str) = x) && Γ.bl.contains x && glB sc x && notStar y && mE Γ N a sc y) = true := h
        rw [Bool.and_eq_true, Bool.and_eq_true, Bool.and_eq_true, Bool.and_eq_true] at h
        obtain ⟨⟨⟨⟨h1, h2⟩, h3⟩, h5⟩, h6⟩ := h
        exact sndI_rev s (of_decide_eq_true h1) h2 h3 h5 (iha.e s hu h6)
  | din ng i a iha =>
    refine SA.ofE (fun {X W sc t} s hu h => ?_) (fun _ _ => by simp [mEs]) (fun _ _ _ => by simp [mI])
    unfold mE at h
    cases w : asCmp1 t with
    | none => rw [w] at h; cases h
    | some v =>
      obtain ⟨x, o, y⟩ := v
      simp only [w, Bool.and_eq_true, decide_eq_true_eq, Bool.not_eq_true'] at h
      obtain ⟨p, rfl⟩ := asCmp1_eq w
      obtain ⟨⟨⟨rfl, hm⟩, h1⟩, h2⟩ := h
      exact snd_din s hu hm (iha.e s hu h1) h2
  | dget i a iha =>
    refine SA.ofE (fun {X W sc t} s hu h => ?_) (fun _ _ => by simp [mEs]) (fun _ _ _ => by simp [mI])
    unfold mE at h
    cases w : asSub t with
    | none => rw [w] at h; cases h
    | some v =>
      obtain ⟨x, y⟩ := v
      simp only [w, Bool.and_eq_true] at h
      obtain ⟨p, rfl⟩ := asSub_eq w
      exact snd_dget s hu h.1.1 h.1.2 (iha.e s hu h.2)
  | dgetO i a b iha ihb =>
    refine SA.ofE (fun {X W sc t} s hu h => ?_) (fun _ _ => by simp [mEs]) (fun _ _ _ => by simp [mI])
    unfold mE at h
    cases w : asMeth t with
    | none => rw [w] at h; cases h
    | some v =>
      obtain ⟨o, n, ys, p, q⟩ := v
      have e1 := asMeth_eq w
      subst e1
      rw [w] at h
      match ys, h with
      | [], h => cases h
      | [_], h => cases h
      | _ :: _ :: _ :: _, h => cases h
      | [y, z], h =>
        have h : (decide (("get" : Str) = n) && (p.endLine == q.line) && notCall0 o && notStar y && notStar z && mVar N i sc o && mE Γ N a sc y && mE Γ N b sc z) = true := h
        simp only [Bool.and_eq_true, decide_eq_true_eq] at h
        obtain ⟨⟨⟨⟨⟨⟨⟨rfl, h2⟩, h3⟩, h4⟩, h5⟩, h6⟩, h7⟩, h8⟩ := h
        exact snd_dgetO s hu h2 h4 h5 h6 (iha.e s hu h7) (ihb.e s hu h8)
  | dkeys i =>
    refine SA.ofE (fun {X W sc t} s hu h => ?_) (fun _ _ => by simp [mEs]) (fun _ _ _ => by simp [mI])
    unfold mE at h
    cases w : asCall t with
    | none => rw [w] at h; cases h
    | some v =>
      obtain ⟨x, ys⟩ := v
      rw [w] at h
      match ys, h with
      | [], h => cases h
      | _ :: _ :: _, h => cases h
      | [y], h =>
        have h : (decide (("list" : Str) = x) && Γ.bl.contains x && glB sc x && notStar y && mVar N i sc y) = true := h
        simp only [Bool.and_eq_true, decide_eq_true_eq] at h
        obtain ⟨⟨⟨⟨rfl, h2⟩, h3⟩, h4⟩, h5⟩ := h
        obtain ⟨p, q, rfl⟩ := asCall_eq w
        exact snd_dkeys s h2 h3 h4 h5
theorem lc_all {X : Cx} {W : WX} {sc : Scope} {t : Expr} (s : Stc X ct k Γ N sc W) (hu : X.A.units + 64 < cLine) (hc : isComp e = true) (h : mE Γ N e sc t = true) :
    ∃ elt tg iter ifs s2 own pos, t = .ListComp elt [⟨tg, iter, ifs, 0⟩] s2 pos ∧ LcP X ct W elt tg iter ifs s2 own (ev Γ e false) := by
  cases e with
  | comp elt tg it own =>
    unfold mE at h
    cases w : asComp t with
    | none => rw [w] at h; cases h
    | some v =>
      obtain ⟨e, x, i, ifs, s2, p⟩ := v
      have e1 := asComp_eq w
      subst e1
      rw [w] at h
      match ifs, h with
      | _ :: _, h => cases h
      | [], h =>
        have h : (blkC N sc s2 (ownL N own) && mTg N s2 tg x && tgIn tg own && mI Γ N it sc x i && mE Γ N elt s2 e) = true := h
        rw [Bool.and_eq_true, Bool.and_eq_true, Bool.and_eq_true, Bool.and_eq_true] at h
        obtain ⟨⟨⟨⟨h1, h2⟩, h3⟩, h4⟩, h5⟩ := h
        exact ⟨_, _, _, _, _, _, _, rfl, lc_comp s h1 h2 h3 ((snd_all it).i s hu h4) fun s0 H0 C cl fp => (snd_all elt).e (stc_blk s (blkOk_by h1).kind s0 H0 C cl fp) hu h5⟩
  | compC elt tg it cnd own =>
    unfold mE at h
    cases w : asComp t with
    | none => rw [w] at h; cases h
    | some v =>
      obtain ⟨e, x, i, ifs, s2, p⟩ := v
      have e1 := asComp_eq w
      subst e1
      rw [w] at h
      match ifs, h with
      | [], h => cases h
      | _ :: _ :: _, h => cases h
      | [c], h =>
        have h : (blkC N sc s2 (ownL N own) && mTg N s2 tg x && tgIn tg own && mI Γ N it sc x i && tst cnd && mE Γ N cnd s2 c && mE Γ N elt s2 e) = true := h
        rw [Bool.and_eq_true, Bool.and_eq_true, Bool.and_eq_true, Bool.and_eq_true, Bool.and_eq_true, Bool.and_eq_true] at h
        obtain ⟨⟨⟨⟨⟨⟨h1, h2⟩, h3⟩, h4⟩, h5⟩, h6⟩, h7⟩ := h
        exact ⟨_, _, _, _, _, _, _, rfl, lc_compC s h1 h2 h3 ((snd_all it).i s hu h4) h5 (fun s0 H0 C cl fp => (snd_all cnd).e (stc_blk s (blkOk_by h1).kind s0 H0 C cl fp) hu h6) fun s0 H0 C cl fp => (snd_all elt).e (stc_blk s (blkOk_by h1).kind s0 H0 C cl fp) hu h7⟩
  | _ => cases hc
end
end Rf

/-! Rf: reflection. Part L: statements. -/
namespace Rf
open PySem L2
variable [PWd]
structure Rep (K : PySem.W.Frag) (S0 H0 Sx : Hp) (σ : L2.St) (S H : Hp) (ρ : Sl) : Prop where
  rp : Rp K S H σ ρ
  ext : Ext S0 H0 S H
  fl : Same Sx S
  new : ∀ (i : Nat) (ds : List D) (p : Addr), ρ[i]? = some (.own ds) → σ[i]? = some (some (.ref p)) → H0 p = none
  newD : ∀ (i : Nat) (ds : List (D × D)) (p : Addr), ρ[i]? = some (.dic ds) → σ[i]? = some (some (.ref p)) → H0 p = none
def SPst (K : PySem.W.Frag) (ct : Str → Option Addr) (W : WX) (fr : Fr) (S0 H0 Sx : Hp) (D : Ends) (f : Fl) : Prop := match f with
  | .nx ρ => ∀ σ S H, Rep K S0 H0 Sx σ S H ρ → D.nx σ H
  | .brk ρ => ∀ σ S H, Rep K S0 H0 Sx σ S H ρ → D.bk σ H
  | .ct ρ => ∀ σ S H, Rep K S0 H0 Sx σ S H ρ → D.ct σ H
  | .ret d => ∀ v S H, Ext S0 H0 S H → RV K fr H0 S H v d → D.rt v H
  | .exc e _ => ∀ cls dd σ S H, Ext S0 H0 S H → XVal ct H cls dd e → W cls dd σ H
  | .bad => False
structure Keep (σ : L2.St) (ρ : Sl) (σ' : L2.St) (ρ' : Sl) : Prop where
  own : ∀ (i : Nat) (ds : List D), ρ'[i]? = some (.own ds) → ρ[i]? = some (.own ds) ∧ σ'[i]? = σ[i]?
  dic : ∀ (i : Nat) (ds : List (D × D)), ρ'[i]? = some (.dic ds) → ρ[i]? = some (.dic ds) ∧ σ'[i]? = σ[i]?
section
variable {K : PySem.W.Frag} {S0 H0 Sx S H S1 H1 : Hp} {σ σ' : L2.St} {ρ ρ' : Sl} {ct : Str → Option Addr} {W : WX} {fr : Fr} {En : Ends}
theorem Keep.refl : Keep σ ρ σ ρ := ⟨fun _ _ h => ⟨h, rfl⟩, fun _ _ h => ⟨h, rfl⟩⟩
theorem Keep.trans {σ1 σ2 σ3 : L2.St} {ρ1 ρ2 ρ3 : Sl} (a : Keep σ1 ρ1 σ2 ρ2) (b : Keep σ2 ρ2 σ3 ρ3) : Keep σ1 ρ1 σ3 ρ3 := ⟨fun i ds h => by
  obtain ⟨h1, h2⟩ := b.own i ds h
  obtain ⟨h3, h4⟩ := a.own i ds h1
  exact ⟨h3, h2.trans h4⟩, fun i ds h => by
  obtain ⟨h1, h2⟩ := b.dic i ds h
  obtain ⟨h3, h4⟩ := a.dic i ds h1
  exact ⟨h3, h2.trans h4⟩⟩
theorem keep_set {i : Nat} {x : Option V} {d : D} (hl : ρ.length = σ.length) : Keep σ ρ (σ.set i x) (ρ.set i (.sh d)) :=
  ⟨fun j ds h => by
    obtain ⟨q, e⟩ := set_other h (by intro z; cases z)
    exact ⟨e, List.getElem?_set_ne q⟩, fun j ds h => by
    obtain ⟨q, e⟩ := set_other h (by intro z; cases z)
    exact ⟨e, List.getElem?_set_ne q⟩⟩
theorem Rep.step (r : Rep K S0 H0 Sx σ S H ρ) (x : Ext S H S1 H1) : Rep K S0 H0 Sx σ S1 H1 ρ := ⟨r.rp.ext x, r.ext.trans x, r.fl.trans x.s, r.new, r.newD⟩
theorem Rep.low {Sy : Hp} (r : Rep K S0 H0 Sy σ S H ρ) (h : Same Sx Sy) : Rep K S0 H0 Sx σ S H ρ := ⟨r.rp, r.ext, h.trans r.fl, r.new, r.newD⟩
theorem Rep.floor (r : Rep K S0 H0 Sx σ S H ρ) : Rep K S0 H0 S σ S H ρ := ⟨r.rp, r.ext, Same.refl S, r.new, r.newD⟩
theorem Rep.keep (r : Rep K S0 H0 Sx σ S H ρ) (rp : Rp K S H σ' ρ') (kp : Keep σ ρ σ' ρ') : Rep K S0 H0 Sx σ' S H ρ' := ⟨rp, r.ext, r.fl, fun i ds p h1 h2 => by
  obtain ⟨h3, h4⟩ := kp.own i ds h1
  exact r.new i ds p h3 (h4 ▸ h2), fun i ds p h1 h2 => by
  obtain ⟨h3, h4⟩ := kp.dic i ds h1
  exact r.newD i ds p h3 (h4 ▸ h2)⟩
theorem Rep.setSh (r : Rep K S0 H0 Sx σ S H ρ) (i : Nat) {v : V} {d : D} (h : Dp K S v d) : Rep K S0 H0 Sx (σ.set i (some v)) S H (ρ.set i (.sh d)) :=
  r.keep (r.rp.setSh i h) (keep_set r.rp.len)
theorem Rep.setOwn (r : Rep K S0 H0 Sx σ S H ρ) (i : Nat) {p : Addr} {xs : List V} {ds : List D} (h1 : H p = some (.lst xs)) (h2 : S p = none) (h3 : DpAll K S xs ds) (h4 : H0 p = none)
    (hn : ∀ (j : Nat) (dj : List D), ρ[j]? = some (.own dj) → σ[j]? ≠ some (some (.ref p))) : Rep K S0 H0 Sx (σ.set i (some (.ref p))) S H (ρ.set i (.own ds)) :=
  ⟨r.rp.setOwn i h1 h2 h3 hn, r.ext, r.fl, fun j dj q e1 e2 => by
    by_cases w : i = j
    · subst w
      by_cases l : i < ρ.length
      · rw [List.getElem?_set_self (by rw [← r.rp.len]; exact l)] at e2
        cases e2
        exact h4
      · rw [List.getElem?_eq_none (by rw [List.length_set]; omega)] at e1; cases e1
    · rw [List.getElem?_set_ne w] at e1 e2
      exact r.new j dj q e1 e2, fun j dj q e1 e2 => by
    obtain ⟨w, e⟩ := set_other e1 (by intro z; cases z)
    rw [List.getElem?_set_ne w] at e2
    exact r.newD j dj q e e2⟩
theorem Rep.setDic (r : Rep K S0 H0 Sx σ S H ρ) (i : Nat) {p : Addr} {xs : List (NestedKey × Addr × Value)} {kvs : List (D × D)} (h1 : H p = some (DNO p xs)) (h2 : S p = none) (h3 : DcOk K S xs kvs) (h4 : H0 p = none)
    (hn : ∀ (j : Nat) (dj : List (D × D)), ρ[j]? = some (.dic dj) → σ[j]? ≠ some (some (.ref p))) : Rep K S0 H0 Sx (σ.set i (some (.ref p))) S H (ρ.set i (.dic kvs)) :=
  ⟨r.rp.setDic i h1 h2 h3 hn, r.ext, r.fl, fun j dj q e1 e2 => by
    obtain ⟨w, e⟩ := set_other e1 (by intro z; cases z)
    rw [List.getElem?_set_ne w] at e2
    exact r.new j dj q e e2, fun j dj q e1 e2 => by
    by_cases w : i = j
    · subst w
      by_cases l : i < ρ.length
      · rw [List.getElem?_set_self (by rw [← r.rp.len]; exact l)] at e2
        cases e2
        exact h4
      · rw [List.getElem?_eq_none (by rw [List.length_set]; omega)] at e1; cases e1
    · rw [List.getElem?_set_ne w] at e1 e2
      exact r.newD j dj q e1 e2⟩
theorem Rep.mut (r : Rep K S0 H0 Sx σ S H ρ) {i : Nat} {ds es : List D} {p : Addr} {ys : List V} (h : ρ[i]? = some (.own ds)) (h1 : σ[i]? = some (some (.ref p))) (h2 : S p = none) (h3 : DpAll K S ys es) :
    Rep K S0 H0 Sx σ S (upd H p (.lst ys)) (ρ.set i (.own es)) :=
  ⟨r.rp.mut h h1 h2 h3, r.ext.own_upd (r.new i ds p h h1) h2, r.fl, fun j dj q e1 e2 => by
    by_cases w : i = j
    · subst w
      exact r.new i ds q h e2
    · rw [List.getElem?_set_ne w] at e1
      exact r.new j dj q e1 e2, fun j dj q e1 e2 => by
    exact r.newD j dj q (set_other e1 (by intro z; cases z)).2 e2⟩
theorem Rep.mutD (r : Rep K S0 H0 Sx σ S H ρ) {i : Nat} {kvs kvs' : List (D × D)} {p : Addr} {ys : List (NestedKey × Addr × Value)} (h : ρ[i]? = some (.dic kvs)) (h1 : σ[i]? = some (some (.ref p))) (h2 : S p = none) (h3 : DcOk K S ys kvs') :
    Rep K S0 H0 Sx σ S (upd H p (DNO p ys)) (ρ.set i (.dic kvs')) :=
  ⟨r.rp.mutD h h1 h2 h3, r.ext.own_upd (r.newD i kvs p h h1) h2, r.fl, fun j dj q e1 e2 => r.new j dj q (set_other e1 (by intro z; cases z)).2 e2, fun j dj q e1 e2 => by
    by_cases w : i = j
    · subst w
      exact r.newD i kvs q h e2
    · rw [List.getElem?_set_ne w] at e1
      exact r.newD j dj q e1 e2⟩
theorem Rep.frz (r : Rep K S0 H0 Sx σ S H ρ) (i : Nat) : ∃ S', Rep K S0 H0 Sx σ S' H (frzS i ρ) := by
  cases q : ρ[i]? with
  | none =>
    have e : frzS i ρ = ρ := by unfold frzS; rw [q]
    rw [e]; exact ⟨S, r⟩
  | some s =>
    cases s with
    | un =>
      have e : frzS i ρ = ρ := by unfold frzS; rw [q]
      rw [e]; exact ⟨S, r⟩
    | sh d =>
      have e : frzS i ρ = ρ := by unfold frzS; rw [q]
      rw [e]; exact ⟨S, r⟩
    | dic kvs =>
      have e : frzS i ρ = ρ := by unfold frzS; rw [q]
      rw [e]; exact ⟨S, r⟩
    | own ds =>
      have e : frzS i ρ = ρ.set i (.sh (.list ds)) := by unfold frzS; rw [q]
      rw [e]
      obtain ⟨p, xs, e1, e2, e3, e4, rp'⟩ := r.rp.frz q
      have sm : Same S (upd S p (.lst xs)) := upd_of_none e3
      refine ⟨_, rp', ⟨r.ext.s.trans sm, rp'.sub, r.ext.h, fun a o w => ?_⟩, r.fl.trans sm, fun j dj b w1 w2 => ?_, fun j dj b w1 w2 => r.newD j dj b (set_other w1 (by intro z; cases z)).2 w2⟩
      · by_cases z : a = p
        · subst z
          exact .inr (r.new i ds a q e1)
        · rw [upd_ne z] at w
          exact r.ext.new a o w
      · by_cases z : i = j
        · subst z
          by_cases l : i < ρ.length
          · rw [List.getElem?_set_self l] at w1; cases w1
          · rw [List.getElem?_eq_none (by rw [List.length_set]; omega)] at w1; cases w1
        · rw [List.getElem?_set_ne z] at w1
          exact r.new j dj b w1 w2
theorem sp_bind {r : Res D} {kf : D → Fl} {R : RT} {Q : VK} (rep : Rep K S0 H0 Sx σ S H ρ) (hp : SPst K ct W fr S0 H0 Sx En (toFl r ρ kf))
    (next : ∀ d v S1 H1, r = .ok d → Ext S H S1 H1 → R H S1 H1 v d → Rep K S0 H0 Sx σ S1 H1 ρ → SPst K ct W fr S0 H0 Sx En (kf d) → Q v H1) : Pst ct W σ S H R Q r := by
  cases r with
  | ok d => exact fun v S1 H1 x q => next d v S1 H1 rfl x q (rep.step x) hp
  | exc e => exact fun cls dd S1 H1 x q => hp cls dd σ S1 H1 (rep.ext.trans x) q
  | bad => exact hp
theorem sp_test {r : Res D} {a b : Fl} {Kt : Bool → Hp → Prop} (rep : Rep K S0 H0 Sx σ S H ρ) (hp : SPst K ct W fr S0 H0 Sx En (testF r ρ a b))
    (h1 : ∀ S1 H1, Rep K S0 H0 Sx σ S1 H1 ρ → SPst K ct W fr S0 H0 Sx En a → Kt true H1) (h2 : ∀ S1 H1, Rep K S0 H0 Sx σ S1 H1 ρ → SPst K ct W fr S0 H0 Sx En b → Kt false H1) : PstB ct W σ S H Kt r := by
  cases r with
  | ok d =>
    cases d with
    | bool c =>
      cases c with
      | true => exact fun S1 H1 x => h1 S1 H1 (rep.step x) hp
      | false => exact fun S1 H1 x => h2 S1 H1 (rep.step x) hp
    | _ => exact False.elim hp
  | exc e => exact fun cls dd S1 H1 x q => hp cls dd σ S1 H1 (rep.ext.trans x) q
  | bad => exact hp
theorem sp_guard {c : Bool} {f : Fl} (hp : SPst K ct W fr S0 H0 Sx En (guardF c f)) : c = true ∧ SPst K ct W fr S0 H0 Sx En f := by
  unfold guardF at hp
  split at hp
  · exact ⟨by assumption, hp⟩
  · exact hp.elim
theorem sp_own {i : Nat} {kf : List D → Fl} (hp : SPst K ct W fr S0 H0 Sx En (overOwn ρ i kf)) : ∃ ds, ρ[i]? = some (.own ds) ∧ SPst K ct W fr S0 H0 Sx En (kf ds) := by
  unfold overOwn at hp
  cases q : ρ[i]? with
  | none => rw [q] at hp; exact hp.elim
  | some s =>
    rw [q] at hp
    cases s with
    | own ds => exact ⟨ds, rfl, hp⟩
    | dic _ => exact hp.elim
    | un => exact hp.elim
    | sh d => exact hp.elim
theorem sp_dic {i : Nat} {kf : List (D × D) → Fl} (hp : SPst K ct W fr S0 H0 Sx En (overDic ρ i kf)) : ∃ ds, ρ[i]? = some (.dic ds) ∧ SPst K ct W fr S0 H0 Sx En (kf ds) := by
  unfold overDic at hp
  cases q : ρ[i]? with
  | none => rw [q] at hp; exact hp.elim
  | some s =>
    rw [q] at hp
    cases s with
    | dic ds => exact ⟨ds, rfl, hp⟩
    | _ => exact hp.elim
theorem sp_opt {o : Option Sl} (hp : SPst K ct W fr S0 H0 Sx En (optF o)) : ∃ ρ', o = some ρ' ∧ ∀ σ S H, Rep K S0 H0 Sx σ S H ρ' → En.nx σ H := by
  cases o with
  | none => exact hp.elim
  | some ρ' => exact ⟨ρ', rfl, hp⟩
/-- a new list lies beside the own ones -/
theorem Rep.beside (r : Rep K S0 H0 Sx σ S H ρ) {p : Addr} (h : H p = none) (j : Nat) (dj : List D) (hj : ρ[j]? = some (.own dj)) : σ[j]? ≠ some (some (.ref p)) := fun e => by
  obtain ⟨q, xs, e1, e2, _, _⟩ := r.rp.own hj
  rw [e] at e1
  cases e1
  rw [h] at e2
  cases e2

theorem Rep.besideD (r : Rep K S0 H0 Sx σ S H ρ) {p : Addr} (h : H p = none) (j : Nat) (dj : List (D × D)) (hj : ρ[j]? = some (.dic dj)) : σ[j]? ≠ some (some (.ref p)) := fun e => by
  obtain ⟨q, xs, e1, e2, _, _⟩ := r.rp.dic hj
  rw [e] at e1
  cases e1
  rw [h] at e2
  cases e2
/-! ### targets that keep the own lists -/
theorem gIs_ok2 : ∀ {is : List Nat} {vs : List V} {ds : List D} {σ : L2.St} {ρ ρ' : Sl} {Q : L2.St → Hp → Prop}, Rp K S H σ ρ → DpAll K S vs ds → setAll is ds ρ = some ρ' →
    (∀ σ', Rp K S H σ' ρ' → Keep σ ρ σ' ρ' → Q σ' H) → gIs is vs σ H Q
  | [], vs, [], σ, ρ, ρ', Q, rp, hd, hs, next => by
    cases hs
    cases hd
    exact ⟨rfl, next σ rp Keep.refl⟩
  | [], _, _ :: _, _, _, _, _, _, _, h, _ => by simp [setAll] at h
  | _ :: _, _, [], _, _, _, _, _, _, h, _ => by simp [setAll] at h
  | i :: is, vs, d :: ds, σ, ρ, ρ', Q, rp, hd, hs, next => by
    have hs : setAll is ds (ρ.set i (.sh d)) = some ρ' := hs
    cases hd with
    | cons h1 h2 => exact ⟨_, _, rfl, gIs_ok2 (rp.setSh i h1) h2 hs fun σ' rp' kp => next σ' rp' ((keep_set rp.len).trans kp)⟩
theorem gTg_ok2 {tgt : Tg} {v : V} {d : D} {Q : L2.St → Hp → Prop} (rp : Rp K S H σ ρ) (hd : Dp K S v d) (hs : setTg tgt d ρ = some ρ')
    (next : ∀ σ', Rp K S H σ' ρ' → Keep σ ρ σ' ρ' → Q σ' H) : gTg K tgt v σ H Q := by
  cases tgt with
  | one i =>
    cases hs
    exact next _ (rp.setSh i hd) (keep_set rp.len)
  | tup is =>
    cases d with
    | tuple ds =>
      have hs : setAll is ds ρ = some ρ' := hs
      cases hd with
      | tup h1 h2 => exact ⟨_, _, rfl, same_t rp.sub h1, by rw [dps_len h2, setAll_len hs], gIs_ok2 rp h2 hs next⟩
    | _ => cases hs
end
def SvP (X : Cx) (ct : Str → Option Addr) (W : WX) (fr : Fr) (t : TS) (f : Sl → Fl) : Prop :=
  ∀ (S0 H0 Sx : Hp) (En : Ends) (σ : L2.St) (S H : Hp) (ρ : Sl), Rep X.K S0 H0 Sx σ S H ρ → SPst X.K ct W fr S0 H0 Sx En (f ρ) → t En σ H
section
variable {X : Cx} {ct : Str → Option Addr} {k : Nat} {Γ : Ctx} {N : List Str} {sc : Scope} {W : WX} {fr : Fr} {e a b : E} {t v x y : Expr} {ts : List Expr} {pos : Pos}
/-! ### name = e -/
theorem asg_sv {te : TE} {i : Nat} (h1 : EvP X ct W te (RSh X.K) (ev Γ e false)) (h2 : isFresh e = true → EvP X ct W te (RFr X.K) (ev Γ e false)) : SvP X ct W fr (tAsg te (gName i)) (exec Γ fr (.asg i e)) := fun S0 H0 Sx En σ S H ρ rep hp => by
  have hp : SPst X.K ct W fr S0 H0 Sx En (toFl (ev Γ e false ρ) ρ fun d => .nx (ρ.set i (newSlot (isFresh e) d))) := hp
  cases f : isFresh e with
  | false =>
    rw [f] at hp
    exact h1 S H σ ρ _ rep.rp (sp_bind rep hp fun d v S1 H1 _ _ r rep1 hp1 => hp1 _ _ _ (rep1.setSh i r))
  | true =>
    rw [f] at hp
    refine h2 f S H σ ρ _ rep.rp (sp_bind rep hp fun d v S1 H1 _ x r rep1 hp1 => ?_)
    obtain ⟨p, xs, ds, rfl, rfl, w1, w2, w3, w4⟩ := r
    exact hp1 _ _ _ (rep1.setOwn i w1 w2 w4 (rep.ext.h.free w3) (rep.beside w3))
theorem sw_comp (h : isCompE v = false) {tg : Option Expr} {l : Nat} {env : Env} : swapsWith v tg l env = pure false := by
  cases v <;> first | rfl | cases h
theorem fresh_comp (h : isComp e = true) : isFresh e = true := by
  cases e <;> first | rfl | cases h
theorem s_asg (s : Stc X ct k Γ N sc W) {i : Nat} {n : Str} {p : Pos} (hi : N[i]? = some n) (hl : locB sc n = true) (hm : mE Γ N e sc v = true) (hw : (!isCompE v || (isComp e && (swT sc n (.Name n p) v || celB sc n))) = true) :
    ∃ t, PS X (.Assign [.Name n p] v pos) t ∧ SvP X ct W fr t (exec Γ fr (.asg i e)) := by
  have hu := s.room.units
  obtain ⟨te, pe_, h1, _, _, h2⟩ := ((snd_all e).e s hu hm).pe
  have l := s.lc hl
  rw [Bool.or_eq_true] at hw
  rcases hw with hw | hw
  · exact ⟨_, ps_set (by rw [s.hN]; exact s.nd) (by rw [s.hN]; exact hi) l.1 pe_ (sw_comp (by simpa using hw)) l.2, asg_sv h1 h2⟩
  · have hw := (Bool.and_eq_true _ _).mp hw
    obtain ⟨elt, tg, iter, ifs, s2, own, p2, rfl, lc⟩ := lc_all s hu hw.1 hm
    rcases (Bool.or_eq_true _ _).mp hw.2 with q | q
    · have q : (isLocB sc n && (lineOf (.Name n p) == p2.line) && !(s2.names.any fun (m, k) => m == n && (k == .local || k == .cell))) = true := by
        unfold swT at q
        split at q
        · rename_i w
          have e := asComp_eq w
          cases e
          exact q
        · cases q
      rw [Bool.and_eq_true, Bool.and_eq_true] at q
      have loc_ : X.env.scope.names.lookup n = some .local := by
        refine s.loc n ?_
        have q := q.1.1
        unfold isLocB at q
        split at q
        · assumption
        · cases q
      obtain ⟨wi, g, tt, te2, b1, b2, b3, b4, b5, b6, b7⟩ := lc.ex
      refine ⟨_, ps_setLc s.calm (by rw [s.hN]; exact s.nd) (by rw [s.hN]; exact hi) loc_ (sw_true s.kind loc_ q.1.2 (by simpa using q.2)) b1 b2 b3 b4 b5 b6, asg_sv b7.share fun _ => b7⟩
    · have cel : X.env.kindOf n = some .cell := by
        unfold celB at q
        split at q
        · exact (s.cel n (by assumption)).1
        · cases q
      have sw : swapsWith (.ListComp elt [⟨tg, iter, ifs, 0⟩] s2 p2) (some (.Name n p)) pos.line X.env = pure false := by
        unfold swapsWith
        simp only [cel]
        rw [show ((some NameKind.cell == some NameKind.local) = false) from rfl, Bool.and_false]
        rfl
      exact ⟨_, ps_set (by rw [s.hN]; exact s.nd) (by rw [s.hN]; exact hi) l.1 pe_ sw l.2, asg_sv h1 h2⟩

/-! ### a, b, .. = e -/
theorem sw_tup {l : Nat} {env : Env} {kk : Nat} {p : Pos} : swapsWithSole [.Tuple ts kk p] v l env = pure false := by
  cases v <;> rfl
theorem no_swap {env : Env} (h : notTup v = true) (tg : Expr) : swappedStores [tg] v env = pure none := by
  cases v <;> first | (cases tg <;> rfl) | cases h
theorem pg_or {tg : Expr} {g g' : TG} (h : PG X tg g) (h' : PG X tg g') : PG X tg (fun v σ H Q => g v σ H Q ∨ g' v σ H Q) := ⟨fun pins s σ H v u Q I r hw => hw.elim (h.run pins s σ H v u Q I r) (h'.run pins s σ H v u Q I r)⟩
theorem s_unp (s : Stc X ct k Γ N sc W) {is : List Nat} {kk : Nat} {p : Pos} (hv : notTup v = true) (ht : mTgs N sc is ts = true) (hm : mE Γ N e sc v = true) :
    ∃ t, PS X (.Assign [.Tuple ts kk p] v pos) t ∧ SvP X ct W fr t (exec Γ fr (.unp is e)) := by
  obtain ⟨te, pe_, _, h1, _, _⟩ := ((snd_all e).e s s.room.units hm).pe
  obtain ⟨q1, q2⟩ := asg_names (env := X.env) ht
  refine ⟨_, ps_asg pe_ (pg_or (pg_tup s.calm (pgs_of s ht) q1 q2) (pg_unl s.calm (pgs_of s ht) q1 q2)) sw_tup (no_swap hv _) rfl, fun S0 H0 Sx En σ S H ρ rep hp => ?_⟩
  have hp : SPst X.K ct W fr S0 H0 Sx En (toFl (ev Γ e true ρ) ρ fun d => unpD is d ρ) := hp
  refine h1 S H σ ρ _ rep.rp (sp_bind rep hp fun d u S1 H1 _ x r rep1 hp1 => ?_)
  cases d with
  | tuple ds =>
    obtain ⟨ρ', e1, hp2⟩ := sp_opt hp1
    exact .inl (gTg_ok2 (tgt := .tup is) rep1.rp (show Dp X.K S1 u (.tuple ds) from r) e1 fun σ' rp' kp => hp2 _ _ _ (rep1.keep rp' kp))
  | list ds =>
    obtain ⟨ρ', e1, hp2⟩ := sp_opt hp1
    obtain ⟨a, xs, rfl, h2, h3⟩ := (show ∃ a xs, u = .ref a ∧ SqL X.K H1 a xs ∧ DpAll X.K S1 xs ds from r)
    exact .inr ⟨a, xs, rfl, h2, by rw [dps_len h3, setAll_len e1], gIs_ok2 rep1.rp h3 e1 fun σ' rp' kp => hp2 _ _ _ (rep1.keep rp' kp)⟩
  | _ => exact False.elim hp1
/-- a call's value as its def tells -/
theorem call_rv (s : Stc X ct k Γ N sc W) {kk : Bool} {j : Nat} {es : E} (h : mE Γ N (.call kk j es) sc v = true) : ∃ te c, notTup v = true ∧ Γ.cals[j]? = some c ∧ PE X v te ∧ EvP X ct W te (RV X.K c.fr) (ev Γ (.call kk j es) false) := by
  unfold mE at h
  cases w : asCall v with
  | none => rw [w] at h; cases h
  | some u =>
    obtain ⟨x, ys⟩ := u
    cases w2 : Γ.cals[j]? with
    | none => simp only [w, w2] at h; cases h
    | some c =>
      simp only [w, w2] at h
      rw [Bool.and_eq_true, Bool.and_eq_true, Bool.and_eq_true, Bool.and_eq_true, Bool.and_eq_true] at h
      obtain ⟨⟨⟨⟨⟨h1, h2⟩, h3⟩, h4⟩, h5⟩, h6⟩ := h
      obtain ⟨p, q, rfl⟩ := asCall_eq w
      obtain ⟨te, p1, r1, _⟩ := call_ev (pos := q) s (p := p) w2 (of_decide_eq_true h1) h3 h4 (of_decide_eq_true h5) h6 ((snd_all es).l s s.room.units h6)
      exact ⟨te, c, rfl, rfl, p1, r1⟩
def RK (K : PySem.W.Frag) (k : Nat) (H0 S' H' : Hp) (vs : List V) (ds : List D) : Prop := vs.length = ds.length ∧ ∃ p xs es, vs[k]? = some (.ref p) ∧ ds[k]? = some (.list es) ∧ H' p = some (.lst xs) ∧ S' p = none ∧ H0 p = none ∧ DpAll K S' xs es ∧
  ∀ (j : Nat) (dj : D), j ≠ k → ds[j]? = some dj → ∃ vj, vs[j]? = some vj ∧ Dp K S' vj dj
theorem gIsK_ok {K : PySem.W.Frag} {S0 H0 Sx S H : Hp} {p : Addr} : ∀ {kk : Nat} {is : List Nat} {vs : List V} {ds : List D} {σ : L2.St} {ρ ρ' : Sl} {Q : L2.St → Hp → Prop} {xs : List V} {es : List D}, Rep K S0 H0 Sx σ S H ρ → setAllK kk is ds ρ = some ρ' →
    vs.length = ds.length → vs[kk]? = some (.ref p) → ds[kk]? = some (.list es) → H p = some (.lst xs) → S p = none → H0 p = none → DpAll K S xs es → (∀ (j : Nat) (dj : D), j ≠ kk → ds[j]? = some dj → ∃ vj, vs[j]? = some vj ∧ Dp K S vj dj) →
    (∀ (j : Nat) (dj : List D), ρ[j]? = some (.own dj) → σ[j]? ≠ some (some (.ref p))) → (∀ σ', Rep K S0 H0 Sx σ' S H ρ' → Q σ' H) → gIs is vs σ H Q
  | 0, i :: is, vs, d :: ds, σ, ρ, ρ', Q, xs, es, rep, hs, hl, h1, h2, h3, h4, h5, h6, h7, hn, next => by
    have hs : setAll is ds (ρ.set i (newSlot true d)) = some ρ' := hs
    cases vs with
    | nil => simp at hl
    | cons v vs =>
      have e1 : v = .ref p := by simpa using h1
      have e2 : d = .list es := by simpa using h2
      subst e1
      subst e2
      have rep1 := rep.setOwn i h3 h4 h6 h5 hn
      refine ⟨_, _, rfl, gIs_ok2 rep1.rp (dps_of_parts (by simpa using hl) fun j dj e => ?_) hs fun σ' rp' kp => next σ' (rep1.keep rp' kp)⟩
      simpa using h7 (j + 1) dj (by omega) (by simpa using e)
  | kk + 1, i :: is, vs, d :: ds, σ, ρ, ρ', Q, xs, es, rep, hs, hl, h1, h2, h3, h4, h5, h6, h7, hn, next => by
    have hs : setAllK kk is ds (ρ.set i (.sh d)) = some ρ' := hs
    cases vs with
    | nil => simp at hl
    | cons v vs =>
      obtain ⟨w, e1, e2⟩ := h7 0 d (by omega) rfl
      have e1 : v = w := by simpa using e1
      subst e1
      refine ⟨_, _, rfl, gIsK_ok (kk := kk) (rep.setSh i e2) hs (by simpa using hl) (by simpa using h1) (by simpa using h2) h3 h4 h5 h6 (fun j dj hj e => by simpa using h7 (j + 1) dj (by omega) (by simpa using e)) (fun j dj hj e => ?_) next⟩
      obtain ⟨a1, a2⟩ := (keep_set (σ := σ) (ρ := ρ) (i := i) (x := some v) (d := d) rep.rp.len).own j dj hj
      rw [a2] at e
      exact hn j dj a1 e
  | 0, [], _, [], _, _, _, _, _, _, _, h, _, _, _, _, _, _, _, _, _, _ => by simp [setAllK] at h
  | 0, [], _, _ :: _, _, _, _, _, _, _, _, h, _, _, _, _, _, _, _, _, _, _ => by simp [setAllK] at h
  | 0, _ :: _, _, [], _, _, _, _, _, _, _, h, _, _, _, _, _, _, _, _, _, _ => by simp [setAllK] at h
  | _ + 1, [], _, [], _, _, _, _, _, _, _, h, _, _, _, _, _, _, _, _, _, _ => by simp [setAllK] at h
  | _ + 1, [], _, _ :: _, _, _, _, _, _, _, _, h, _, _, _, _, _, _, _, _, _, _ => by simp [setAllK] at h
  | _ + 1, _ :: _, _, [], _, _, _, _, _, _, _, h, _, _, _, _, _, _, _, _, _, _ => by simp [setAllK] at h
theorem setAllK_len : ∀ {kk : Nat} {is : List Nat} {ds : List D} {ρ ρ' : Sl}, setAllK kk is ds ρ = some ρ' → ds.length = is.length
  | 0, i :: is, d :: ds, ρ, ρ', h => by
    have h : setAll is ds (ρ.set i (newSlot true d)) = some ρ' := h
    rw [List.length_cons, List.length_cons, setAll_len h]
  | kk + 1, i :: is, d :: ds, ρ, ρ', h => by
    have h : setAllK kk is ds (ρ.set i (.sh d)) = some ρ' := h
    rw [List.length_cons, List.length_cons, setAllK_len h]
  | 0, [], [], _, _, h => by simp [setAllK] at h
  | 0, [], _ :: _, _, _, h => by simp [setAllK] at h
  | 0, _ :: _, [], _, _, h => by simp [setAllK] at h
  | _ + 1, [], [], _, _, h => by simp [setAllK] at h
  | _ + 1, [], _ :: _, _, _, h => by simp [setAllK] at h
  | _ + 1, _ :: _, [], _, _, h => by simp [setAllK] at h
theorem s_unpC (s : Stc X ct k Γ N sc W) {is : List Nat} {j kk : Nat} {es : E} {p : Pos} (ht : mTgs N sc is ts = true) (hm : mE Γ N (.call false j es) sc v = true) :
    ∃ t, PS X (.Assign [.Tuple ts kk p] v pos) t ∧ SvP X ct W fr t (exec Γ fr (.unpC is j es)) := by
  obtain ⟨te, c, hv, hj, pe_, h1⟩ := call_rv s hm
  obtain ⟨q1, q2⟩ := asg_names (env := X.env) ht
  refine ⟨_, ps_asg pe_ (pg_tup s.calm (pgs_of s ht) q1 q2) sw_tup (no_swap hv _) rfl, fun S0 H0 Sx En σ S H ρ rep hp => ?_⟩
  have hp : SPst X.K ct W fr S0 H0 Sx En (toFl (ev Γ (.call false j es) false ρ) ρ fun d => unpKD (frK Γ j) is d ρ) := hp
  refine h1 S H σ ρ _ rep.rp (sp_bind rep hp fun d u S1 H1 _ x r rep1 hp1 => ?_)
  have ek : frK Γ j = (match c.fr with
    | .tup k => some k
    | _ => none) := by unfold frK; rw [hj] <;> rfl
  cases hf : c.fr with
  | sh => rw [ek, hf] at hp1; exact False.elim hp1
  | own => rw [ek, hf] at hp1; exact False.elim hp1
  | tup k2 =>
    rw [ek, hf] at hp1
    rw [hf] at r
    obtain ⟨a, vs, ds, q, xs, es', rfl, rfl, w3, w4, w5, w6, w7, w8, w9, w10, w11, w12, w13⟩ := r
    obtain ⟨ρ', e1, hp2⟩ := sp_opt hp1
    exact ⟨a, vs, rfl, SqT.of w3, by rw [w6, setAllK_len e1], gIsK_ok rep1 e1 w6 w7 w8 w9 w10 (rep.ext.h.free w11) w12 w13 (rep.beside w11) fun σ' rep' => hp2 _ _ _ rep'⟩

/-! ### a, b = x, y -/
theorem sw_par {n m : Str} {p1 p2 p3 p4 : Pos} {k1 k2 : Nat} {env : Env} (hk : env.scope.kind = .function) (h1 : env.scope.names.lookup n = some .local) (h2 : env.scope.names.lookup m = some .local) (hnm : n ≠ m) (hl : (p2.line == p1.line) = true)
    (s1 : notStar x = true) (s2 : notStar y = true) (f1 : (foldedForSure 8 x && foldedForSure 8 y) = false) (f2 : (constantsAlone 8 x && constantsAlone 8 y) = false) :
    swappedStores [.Tuple [.Name n p1, .Name m p2] k1 p3] (.Tuple [x, y] k2 p4) env = pure (some [n, m]) := by
  have bk : env.blockKind = .function := by unfold Env.blockKind; rw [hk]; rfl
  have k1 : env.kindOf n = some .local := h1
  have k2 : env.kindOf m = some .local := h2
  have st : ([x, y].any fun
    | .Starred .. => true
    | _ => false) = false := by
    cases x <;> first | (cases s1; done) | (cases y <;> first | (cases s2; done) | rfl)
  have e1 : (n == m) = false := by simpa using hnm
  have e2 : (m == n) = false := by simpa using fun z => hnm z.symm
  have a1 : ([x, y].all (foldedForSure 8)) = false := by simpa [List.all_cons] using f1
  have a2 : ([x, y].all (constantsAlone 8)) = false := by simpa [List.all_cons] using f2
  unfold swappedStores
  simp only [st, bk, a1, a2]
  have hl2 : p2.line = p1.line := eq_of_beq hl
  simp [k1, k2, Expr.pos, hl2, List.eraseDups_cons, List.filterMap_cons, e1, e2]
  intro h
  exfalso
  have z : ∀ u : Expr, notStar u = true → (match u with
    | .Starred _ _ => true
    | _ => false) = false := fun u hu => by cases u <;> first | (cases hu; done) | rfl
  rcases h with h | h
  · exact absurd (h.symm.trans (z x s1)) (by decide)
  · exact absurd (h.symm.trans (z y s2)) (by decide)
theorem s_par (s : Stc X ct k Γ N sc W) {i j : Nat} {n m : Str} {p1 p2 p3 p4 : Pos} {k1 k2 : Nat} (ht : mTgs N sc [i, j] [.Name n p1, .Name m p2] = true) (hij : i ≠ j) (hb : parB sc (.Name n p1) (.Name m p2) x y = true) (ha : mE Γ N a sc x = true) (hb2 : mE Γ N b sc y = true) :
    ∃ t, PS X (.Assign [.Tuple [.Name n p1, .Name m p2] k1 p3] (.Tuple [x, y] k2 p4) pos) t ∧ SvP X ct W fr t (exec Γ fr (.par i j a b)) := by
  unfold parB at hb
  rw [Bool.and_eq_true, Bool.and_eq_true, Bool.and_eq_true, Bool.and_eq_true, Bool.and_eq_true, Bool.and_eq_true] at hb
  obtain ⟨⟨⟨⟨⟨⟨b1, b2⟩, b3⟩, b4⟩, b5⟩, b6⟩, b7⟩ := hb
  have lo : ∀ n, isLocB sc n = true → X.env.scope.names.lookup n = some .local := fun n q => by
    refine s.loc n ?_
    unfold isLocB at q
    split at q
    · assumption
    · cases q
  have l1 := lo n b1
  have l2 := lo m b2
  have hN : N[i]? = some n ∧ N[j]? = some m := by
    simp only [mTgs, asName, Bool.and_eq_true, decide_eq_true_eq] at ht
    exact ⟨ht.1.1, ht.2.1.1⟩
  have hnm : n ≠ m := fun e => by
    subst e
    exact hij (nodup_ix s.nd hN.1 hN.2)
  obtain ⟨ta, pa, ra, _⟩ := ((snd_all a).e s s.room.units ha).pe
  obtain ⟨tb, pb, rb, _⟩ := ((snd_all b).e s s.room.units hb2).pe
  refine ⟨_, ps_par s.calm (by rw [s.hN]; exact s.nd) (by rw [s.hN]; exact hN.1) (by rw [s.hN]; exact hN.2) hij l1 l2 (pa_cons pa (pa_cons pb pa_nil (star_cons b5)) (star_cons b4)) (sw_par s.kind l1 l2 hnm b3 b4 b5 (by simpa only [Bool.not_eq_true'] using b6) (by simpa only [Bool.not_eq_true'] using b7)) rfl, fun S0 H0 Sx En σ S H ρ rep hp => ?_⟩
  have hp : SPst X.K ct W fr S0 H0 Sx En (toFl (ev Γ a false ρ) ρ fun x => toFl (ev Γ b false ρ) ρ fun y => .nx ((ρ.set i (.sh x)).set j (.sh y))) := hp
  refine ra S H σ ρ _ rep.rp (sp_bind rep hp fun d u S1 H1 _ x1 r rep1 hp1 => ?_)
  refine rb S1 H1 σ ρ _ rep1.rp (sp_bind rep1 hp1 fun d2 u2 S2 H2 _ x2 r2 rep2 hp2 => ?_)
  exact ⟨u, u2, rfl, hp2 _ _ _ ((rep2.setSh i (dp_mono x2.s _ _ r)).setSh j r2)⟩

/-! ### own lists changed -/
theorem var_pe (s : Stc X ct k Γ N sc W) {i : Nat} (h : mE Γ N (.var i) sc t = true) : PE X t (tVar i) ∧ notCall0 t = true ∧ notTup t = true := by
  unfold mE at h
  cases w : asName t with
  | none => rw [w] at h; cases h
  | some x =>
    simp only [w, Bool.and_eq_true, decide_eq_true_eq] at h
    obtain ⟨p, rfl⟩ := asName_eq w
    exact ⟨pe_var (by rw [s.hN]; exact h.1.1) (s.vis h.1.2) (nm_of h.2).1 (nm_of h.2).2.1, rfl, rfl⟩
theorem sw_sub {l : Nat} {env : Env} {p : Pos} : swapsWithSole [.Subscript x y p] v l env = pure false := by
  cases v <;> rfl
theorem no_swap_sub {env : Env} {p : Pos} : swappedStores [.Subscript x y p] v env = pure none := by
  cases v <;> rfl
theorem s_setIx (s : Stc X ct k Γ N sc W) {i : Nat} {ix : E} {p : Pos} (hs : notSlice y = true) (ho : mE Γ N (.var i) sc x = true) (hi : mE Γ N ix sc y = true) (hm : mE Γ N e sc v = true) :
    ∃ t, PS X (.Assign [.Subscript x y p] v pos) t ∧ SvP X ct W fr t (exec Γ fr (.setIx i ix e)) := by
  obtain ⟨te, pe_, re, _⟩ := ((snd_all e).e s s.room.units hm).pe
  obtain ⟨ti, pi_, _, ri, _⟩ := ((snd_all ix).e s s.room.units hi).pe
  have po := (var_pe s ho).1
  have ha : ∀ v, assign (.Subscript x y p) X.env v = (do
      let ov ← holding [v] (eval x X.env)
      let iv ← holding [v, ov] (eval y X.env)
      standAt p
      holding [v, ov, iv] (setItem ov iv v)
      release [v, ov, iv] []) := fun v => by
    cases y <;> first | rfl | (rename_i a b c d; cases c <;> first | rfl | cases hs)
  refine ⟨_, ps_asg pe_ (pg_sub po pi_ set_list ha) sw_sub no_swap_sub rfl, fun S0 H0 Sx En σ S H ρ rep hp => ?_⟩
  have hp : SPst X.K ct W fr S0 H0 Sx En (toFl (ev Γ e false ρ) ρ fun x => overOwn ρ i fun ds => toFl (ev Γ ix true ρ) ρ fun y => intF y fun k =>
      (match ixN ds.length k with
      | some j => .nx (ρ.set i (.own (ds.set j x)))
      | none => .bad)) := hp
  refine re S H σ ρ _ rep.rp (sp_bind rep hp fun d u S1 H1 _ x1 r rep1 hp1 => ?_)
  obtain ⟨ds, e1, hp2⟩ := sp_own hp1
  obtain ⟨q, xs, w1, w2, w3, w4⟩ := rep1.rp.own e1
  refine ⟨_, w1, ri S1 H1 σ ρ _ rep1.rp (sp_bind rep1 hp2 fun d2 u2 S2 H2 _ x2 r2 rep2 hp3 => ?_)⟩
  cases d2 with
  | int kk =>
    have hp3 : SPst X.K ct W fr S0 H0 Sx En (match ixN ds.length kk with
      | some j => .nx (ρ.set i (.own (ds.set j d)))
      | none => .bad) := hp3
    cases w : ixN ds.length kk with
    | none => rw [w] at hp3; exact hp3.elim
    | some j =>
      rw [w] at hp3
      refine ⟨q, xs, kk, j, rfl, rd_int r2, x2.h _ _ w2, by rw [dps_len w4]; exact w, hp3 _ _ _ (rep2.mut e1 w1 (x2.none w3 w2) ?_)⟩
      exact dps_set j (dps_mono x2.s _ _ w4) (dp_mono x2.s _ _ r)
  | _ => exact False.elim hp3
theorem s_app (s : Stc X ct k Γ N sc W) {i : Nat} {p q pos' : Pos} (ho : mE Γ N (.var i) sc x = true) (hl : (p.endLine == q.line) = true) (hs : notStar y = true) (hm : mE Γ N e sc y = true) :
    ∃ t, PS X (.Expr (.Call (.Attribute x "append" p) [y] [] q) pos') t ∧ SvP X ct W fr t (exec Γ fr (.app i e)) := by
  obtain ⟨te, pe_, re, _⟩ := ((snd_all e).e s s.room.units hm).pe
  obtain ⟨po, h0, _⟩ := var_pe s ho
  refine ⟨_, ps_expr (pe_bm PySem.F.plainAttrs_list PySem.F.slot_list_append PySem.F.type_list_append mt_append po (pa_cons pe_ pa_nil (star_cons hs)) (base_ok h0) (by rw [star_cons hs]; rfl) hl (star_cons hs) rfl) rfl, fun S0 H0 Sx En σ S H ρ rep hp => ?_⟩
  have hp : SPst X.K ct W fr S0 H0 Sx En (overOwn ρ i fun ds => toFl (ev Γ e false ρ) ρ fun x => guardF (decide (ds.length < lim)) (.nx (ρ.set i (.own (ds ++ [x]))))) := hp
  obtain ⟨ds, e1, hp2⟩ := sp_own hp
  obtain ⟨l, xs, w1, w2, w3, w4⟩ := rep.rp.own e1
  refine ⟨_, w1, .inl ⟨rfl, _, SqL.of w2⟩, re S H σ ρ _ rep.rp (sp_bind rep hp2 fun d u S1 H1 _ x1 r rep1 hp3 => ?_)⟩
  obtain ⟨g1, g2⟩ := sp_guard hp3
  have g1 := of_decide_eq_true g1
  rw [lim_eq] at g1
  exact ⟨l, xs, u, rfl, rfl, x1.h _ _ w2, by rw [dps_len w4]; exact g1, g2 _ _ _ (rep1.mut e1 w1 (x1.none w3 w2) (dps_append (dps_mono x1.s _ _ w4) (.cons r .nil)))⟩
theorem s_ext (s : Stc X ct k Γ N sc W) {i : Nat} {p q pos' : Pos} (ho : mE Γ N (.var i) sc x = true) (hl : (p.endLine == q.line) = true) (hs : notStar y = true) (hf : isFresh e = true) (hm : mE Γ N e sc y = true) :
    ∃ t, PS X (.Expr (.Call (.Attribute x "extend" p) [y] [] q) pos') t ∧ SvP X ct W fr t (exec Γ fr (.ext i e)) := by
  obtain ⟨te, pe_, _, _, _, re⟩ := ((snd_all e).e s s.room.units hm).pe
  obtain ⟨po, h0, _⟩ := var_pe s ho
  refine ⟨_, ps_expr (pe_bm PySem.F.plainAttrs_list PySem.F.slot_list_extend PySem.F.type_list_extend mt_extend po (pa_cons pe_ pa_nil (star_cons hs)) (base_ok h0) (by rw [star_cons hs]; rfl) hl (star_cons hs) rfl) rfl, fun S0 H0 Sx En σ S H ρ rep hp => ?_⟩
  have hp : SPst X.K ct W fr S0 H0 Sx En (overOwn ρ i fun ds => toFl (ev Γ e false ρ) ρ fun x => listF x fun es => guardF (decide (ds.length + es.length ≤ lim)) (.nx (ρ.set i (.own (ds ++ es))))) := hp
  obtain ⟨ds, e1, hp2⟩ := sp_own hp
  obtain ⟨l, xs, w1, w2, w3, w4⟩ := rep.rp.own e1
  refine ⟨_, w1, .inl ⟨rfl, _, SqL.of w2⟩, re hf S H σ ρ _ rep.rp (sp_bind rep hp2 fun d u S1 H1 _ x1 r rep1 hp3 => ?_)⟩
  obtain ⟨b, zs, es, rfl, rfl, z1, z2, z3, z4⟩ := r
  obtain ⟨g1, g2⟩ := sp_guard (show SPst X.K ct W fr S0 H0 Sx En (guardF (decide (ds.length + es.length ≤ lim)) (.nx (ρ.set i (.own (ds ++ es))))) from hp3)
  exact ⟨l, b, xs, zs, rfl, rfl, x1.h _ _ w2, z1, by rw [dps_len w4, dps_len z4]; exact lim_le g1, g2 _ _ _ (rep1.mut e1 w1 (x1.none w3 w2) (dps_append (dps_mono x1.s _ _ w4) z4))⟩

/-! ### dicts of the def's own -/
theorem s_dnew (s : Stc X ct k Γ N sc W) {i : Nat} {n : Str} {p q : Pos} (hi : N[i]? = some n) (hl : locB sc n = true) :
    ∃ t, PS X (.Assign [.Name n p] (.Dict [] [] q) pos) t ∧ SvP X ct W fr t (exec Γ fr (.dnew i)) := by
  have l := s.lc hl
  refine ⟨_, ps_set (by rw [s.hN]; exact s.nd) (by rw [s.hN]; exact hi) l.1 (pe_dnewN s.pq) (sw_comp rfl) l.2, fun S0 H0 Sx En σ S H ρ rep hp => ?_⟩
  have hp : ∀ σ S H, Rep X.K S0 H0 Sx σ S H (ρ.set i (.dic [])) → En.nx σ H := hp
  exact fun a ha => hp _ _ _ ((rep.step (Ext.made rep.rp.sub ha)).setDic i upd_same (Same.free rep.rp.sub ha) .nil (rep.ext.h.free ha) (rep.besideD ha))
theorem s_dput (s : Stc X ct k Γ N sc W) {i : Nat} {ix : E} {p : Pos} (hs : notSlice y = true) (ho : mE Γ N (.var i) sc x = true) (hi : mE Γ N ix sc y = true) (hm : mE Γ N e sc v = true) :
    ∃ t, PS X (.Assign [.Subscript x y p] v pos) t ∧ SvP X ct W fr t (exec Γ fr (.dput i ix e)) := by
  obtain ⟨te, pe_, re, _⟩ := ((snd_all e).e s s.room.units hm).pe
  obtain ⟨ti, pi_, ri, _⟩ := ((snd_all ix).e s s.room.units hi).pe
  have po := (var_pe s ho).1
  have ha : ∀ v, assign (.Subscript x y p) X.env v = (do
      let ov ← holding [v] (eval x X.env)
      let iv ← holding [v, ov] (eval y X.env)
      standAt p
      holding [v, ov, iv] (setItem ov iv v)
      release [v, ov, iv] []) := fun v => by
    cases y <;> first | rfl | (rename_i a b c d; cases c <;> first | rfl | cases hs)
  refine ⟨_, ps_asg pe_ (pg_sub po pi_ (set_dn s.pq s.room.units) ha) sw_sub no_swap_sub rfl, fun S0 H0 Sx En σ S H ρ rep hp => ?_⟩
  have hp : SPst X.K ct W fr S0 H0 Sx En (overDic ρ i fun kvs => toFl (ev Γ e false ρ) ρ fun x => toFl (ev Γ ix false ρ) ρ fun k => guardF (keyOk k && decide (kvs.length < lim)) (.nx (ρ.set i (.dic (dcPut kvs k x))))) := hp
  obtain ⟨kvs, e1, hp⟩ := sp_dic hp
  refine re S H σ ρ _ rep.rp (sp_bind rep hp fun d u S1 H1 _ x1 r rep1 hp1 => ?_)
  obtain ⟨q, xs, w1, w2, w3, w4⟩ := rep1.rp.dic e1
  refine ⟨_, w1, ri S1 H1 σ ρ _ rep1.rp (sp_bind rep1 hp1 fun d2 u2 S2 H2 _ x2 r2 rep2 hp3 => ?_)⟩
  obtain ⟨g1, g2⟩ := sp_guard hp3
  rw [Bool.and_eq_true] at g1
  obtain ⟨ds, n, rfl, hk, hd⟩ := key_of g1.1
  obtain ⟨a', rfl⟩ := dp_ref r2
  have gl := of_decide_eq_true g1.2
  rw [lim_eq] at gl
  have w3' := x2.none w3 w2
  exact ⟨a', q, S2, xs, kvs, _, n, d, rfl, rfl, ⟨x2.h _ _ w2, rep2.rp.sub, dc_mono x2.s w4, r2, hk, hd⟩, gl, dp_mono x2.s _ _ r, fun ys hy => g2 _ _ _ (rep2.mutD e1 w1 w3' hy)⟩
theorem s_clr (s : Stc X ct k Γ N sc W) {i : Nat} {p q pos' : Pos} (ho : mE Γ N (.var i) sc x = true) (hl : (p.endLine == q.line) = true) :
    ∃ t, PS X (.Expr (.Call (.Attribute x "clear" p) [] [] q) pos') t ∧ SvP X ct W fr t (exec Γ fr (.clr i)) := by
  obtain ⟨po, h0, _⟩ := var_pe s ho
  refine ⟨_, ps_expr (pe_bm0 PySem.F.plainAttrs_list PySem.F.slot_list_clear PySem.F.type_list_clear mt_clear po (base_ok h0) hl) rfl, fun S0 H0 Sx En σ S H ρ rep hp => ?_⟩
  have hp : SPst X.K ct W fr S0 H0 Sx En (overOwn ρ i fun ds => .nx (ρ.set i (.own []))) := hp
  obtain ⟨ds, e1, hp2⟩ := sp_own hp
  obtain ⟨l, xs, w1, w2, w3, w4⟩ := rep.rp.own e1
  exact ⟨_, w1, .inl ⟨rfl, _, SqL.of w2⟩, l, xs, rfl, rfl, w2, hp2 _ _ _ (rep.mut e1 w1 w3 .nil)⟩

/-! ### what is handed back -/
def ROw (K : PySem.W.Frag) (H0 : Hp) : RT := fun _ S' H' v d => RFr K H0 S' H' v d
theorem evo_read (s : Stc X ct k Γ N sc W) (hm : mE Γ N e sc t = true) : ∃ te, PE X t te ∧ ∀ (S0 H0 Sx S H : Hp) (σ : L2.St) (ρ : Sl) (Q : VK), Rep X.K S0 H0 Sx σ S H ρ → Pst ct W σ S H (ROw X.K H0) Q (evO Γ e ρ) → te σ H Q := by
  by_cases hv : ∃ i, e = .var i
  · obtain ⟨i, rfl⟩ := hv
    refine ⟨_, (var_pe s hm).1, fun S0 H0 Sx S H σ ρ Q rep hp => ?_⟩
    have hp : Pst ct W σ S H (ROw X.K H0) Q (slotOwn ρ i) := hp
    unfold slotOwn at hp
    cases q : ρ[i]? with
    | none => rw [q] at hp; exact hp.elim
    | some u =>
      rw [q] at hp
      cases u with
      | dic _ => exact hp.elim
      | un => exact hp.elim
      | sh d => exact hp.elim
      | own ds =>
        obtain ⟨p, xs, e1, e2, e3, e4⟩ := rep.rp.own q
        exact ⟨_, e1, hp _ S H (Ext.refl rep.rp.sub) ⟨p, xs, ds, rfl, rfl, e2, e3, rep.new i ds p q e1, e4⟩⟩
  · obtain ⟨te, pe_, _, _, _, re⟩ := ((snd_all e).e s s.room.units hm).pe
    refine ⟨te, pe_, fun S0 H0 Sx S H σ ρ Q rep hp => ?_⟩
    have e1 : evO Γ e ρ = guard' (isFresh e) (ev Γ e false ρ) := by
      cases e <;> first | rfl | exact absurd ⟨_, rfl⟩ hv
    rw [e1] at hp
    obtain ⟨g1, g2⟩ := pst_guard hp
    refine re g1 S H σ ρ Q rep.rp ?_
    cases q : ev Γ e false ρ with
    | ok d =>
      rw [q] at g2
      exact fun v S1 H1 x r => g2 v S1 H1 x (mn_fr _ _ _ _ _ _ rep.ext.h r)
    | exc z => rw [q] at g2; exact g2
    | bad => rw [q] at g2; exact g2
theorem evk_read (s : Stc X ct k Γ N sc W) : ∀ {kk : Nat} {es : E} {ts : List Expr}, mEs Γ N es sc ts = true → ∃ ta, PA X ts ta ∧
    ∀ (S0 H0 Sx S H : Hp) (σ : L2.St) (ρ : Sl) (Q : List V → Hp → Prop), Rep X.K S0 H0 Sx σ S H ρ → PstA ct W σ S H (fun S' H' vs ds => RK X.K kk H0 S' H' vs ds) Q (evK Γ kk es ρ) → ta σ H Q := by
  intro kk
  induction kk with
  | zero =>
    intro es ts hm
    cases es with
    | cons e es =>
      cases ts with
      | nil => simp [mEs] at hm
      | cons t ts =>
        unfold mEs at hm
        rw [Bool.and_eq_true, Bool.and_eq_true] at hm
        obtain ⟨te, pe_, re⟩ := evo_read s hm.1.2
        obtain ⟨tr, pr, rr⟩ := ((snd_all es).l s s.room.units hm.2).sh
        refine ⟨_, pa_cons pe_ pr (star_cons hm.1.1), fun S0 H0 Sx S H σ ρ Q rep hp => ?_⟩
        have hp : PstA ct W σ S H (fun S' H' vs ds => RK X.K 0 H0 S' H' vs ds) Q (evO Γ e ρ >>= fun d => tupOf (ev Γ es false ρ) fun ds => .ok (.tuple (d :: ds))) := hp
        refine re S0 H0 Sx S H σ ρ _ rep ?_
        cases q : evO Γ e ρ with
        | exc w => rw [q] at hp; exact hp
        | bad => rw [q] at hp; exact hp
        | ok d =>
          rw [q] at hp
          intro v S1 H1 x1 r1
          refine rr S1 H1 σ ρ _ (rep.rp.ext x1) ?_
          have hp : PstA ct W σ S1 H1 (fun S' H' vs ds => RK X.K 0 H0 S' H' vs ds) Q (tupOf (ev Γ es false ρ) fun ds => .ok (.tuple (d :: ds))) := PstA.shift x1 hp
          cases q2 : ev Γ es false ρ with
          | exc w => rw [q2] at hp; exact hp
          | bad => rw [q2] at hp; exact hp
          | ok d2 =>
            rw [q2] at hp
            intro ds ed
            subst ed
            intro vs S2 H2 x2 r2
            obtain ⟨p, xs, ls, rfl, rfl, w1, w2, w3, w4⟩ := r1
            refine hp (.list ls :: ds) rfl (.ref p :: vs) S2 H2 x2 ⟨by rw [List.length_cons, List.length_cons, dps_len r2], p, xs, ls, rfl, rfl, x2.h _ _ w1, x2.none w2 w1, w3, dps_mono x2.s _ _ w4, fun j dj hj ej => ?_⟩
            cases j with
            | zero => exact absurd rfl hj
            | succ j =>
              obtain ⟨vj, z1, z2⟩ := dps_at r2 (show ds[j]? = some dj by simpa using ej)
              exact ⟨vj, by simpa using z1, z2⟩
    | nil => cases ts with
      | nil => exact ⟨_, pa_nil, fun S0 H0 Sx S H σ ρ Q rep hp => False.elim hp⟩
      | cons t ts => simp [mEs] at hm
    | _ => simp [mEs] at hm
  | succ kk ih =>
    intro es ts hm
    cases es with
    | cons e es =>
      cases ts with
      | nil => simp [mEs] at hm
      | cons t ts =>
        unfold mEs at hm
        rw [Bool.and_eq_true, Bool.and_eq_true] at hm
        obtain ⟨te, pe_, re, _⟩ := ((snd_all e).e s s.room.units hm.1.2).pe
        obtain ⟨tr, pr, rr⟩ := ih hm.2
        refine ⟨_, pa_cons pe_ pr (star_cons hm.1.1), fun S0 H0 Sx S H σ ρ Q rep hp => ?_⟩
        have hp : PstA ct W σ S H (fun S' H' vs ds => RK X.K (kk + 1) H0 S' H' vs ds) Q (ev Γ e false ρ >>= fun d => tupOf (evK Γ kk es ρ) fun ds => .ok (.tuple (d :: ds))) := hp
        refine re S H σ ρ _ rep.rp ?_
        cases q : ev Γ e false ρ with
        | exc w => rw [q] at hp; exact hp
        | bad => rw [q] at hp; exact hp
        | ok d =>
          rw [q] at hp
          intro v S1 H1 x1 r1
          refine rr S0 H0 Sx S1 H1 σ ρ _ (rep.step x1) ?_
          have hp : PstA ct W σ S1 H1 (fun S' H' vs ds => RK X.K (kk + 1) H0 S' H' vs ds) Q (tupOf (evK Γ kk es ρ) fun ds => .ok (.tuple (d :: ds))) := PstA.shift x1 hp
          cases q2 : evK Γ kk es ρ with
          | exc w => rw [q2] at hp; exact hp
          | bad => rw [q2] at hp; exact hp
          | ok d2 =>
            rw [q2] at hp
            intro ds ed
            subst ed
            intro vs S2 H2 x2 r2
            obtain ⟨w1, p, xs, ls, w2, w3, w4, w5, w6, w7, w8⟩ := r2
            refine hp (d :: ds) rfl (v :: vs) S2 H2 x2 ⟨by rw [List.length_cons, List.length_cons, w1], p, xs, ls, by simpa using w2, by simpa using w3, w4, w5, w6, w7, fun j dj hj ej => ?_⟩
            cases j with
            | zero =>
              have : d = dj := by simpa using ej
              subst this
              exact ⟨v, rfl, dp_mono x2.s _ _ r1⟩
            | succ j =>
              obtain ⟨vj, z1, z2⟩ := w8 j dj (by omega) (by simpa using ej)
              exact ⟨vj, by simpa using z1, z2⟩
    | nil => cases ts with
      | nil => exact ⟨_, pa_nil, fun S0 H0 Sx S H σ ρ Q rep hp => False.elim hp⟩
      | cons t ts => simp [mEs] at hm
    | _ => simp [mEs] at hm
theorem evk_len {ρ : Sl} : ∀ {kk : Nat} {es : E} {ts : List Expr} {ds : List D}, mEs Γ N es sc ts = true → evK Γ kk es ρ = .ok (.tuple ds) → ds.length = cnt es := by
  intro kk
  induction kk with
  | zero =>
    intro es ts ds hm q
    cases es with
    | cons e es =>
      cases ts with
      | nil => simp [mEs] at hm
      | cons t ts =>
        unfold mEs at hm
        rw [Bool.and_eq_true] at hm
        have q : (evO Γ e ρ >>= fun d => tupOf (ev Γ es false ρ) fun ds => .ok (.tuple (d :: ds))) = .ok (.tuple ds) := q
        cases q1 : evO Γ e ρ with
        | exc w => rw [q1] at q; cases q
        | bad => rw [q1] at q; cases q
        | ok d =>
          rw [q1] at q
          have q : (tupOf (ev Γ es false ρ) fun ds => .ok (.tuple (d :: ds))) = .ok (.tuple ds) := q
          cases q2 : ev Γ es false ρ with
          | exc w => rw [q2] at q; cases q
          | bad => rw [q2] at q; cases q
          | ok d2 =>
            rw [q2] at q
            cases d2 with
            | tuple ds2 =>
              cases q
              show ds2.length + 1 = cnt es + 1
              rw [ev_cnt hm.2 q2]
            | _ => cases q
    | _ => cases q
  | succ kk ih =>
    intro es ts ds hm q
    cases es with
    | cons e es =>
      cases ts with
      | nil => simp [mEs] at hm
      | cons t ts =>
        unfold mEs at hm
        rw [Bool.and_eq_true] at hm
        have q : (ev Γ e false ρ >>= fun d => tupOf (evK Γ kk es ρ) fun ds => .ok (.tuple (d :: ds))) = .ok (.tuple ds) := q
        cases q1 : ev Γ e false ρ with
        | exc w => rw [q1] at q; cases q
        | bad => rw [q1] at q; cases q
        | ok d =>
          rw [q1] at q
          have q : (tupOf (evK Γ kk es ρ) fun ds => .ok (.tuple (d :: ds))) = .ok (.tuple ds) := q
          cases q2 : evK Γ kk es ρ with
          | exc w => rw [q2] at q; cases q
          | bad => rw [q2] at q; cases q
          | ok d2 =>
            rw [q2] at q
            cases d2 with
            | tuple ds2 =>
              cases q
              show ds2.length + 1 = cnt es + 1
              rw [ih hm.2 q2]
            | _ => cases q
    | _ => cases q
theorem s_ret (s : Stc X ct k Γ N sc W) (hm : mE Γ N e sc t = true) : ∃ u, PS X (.Return (some t) pos) u ∧ SvP X ct W fr u (exec Γ fr (.ret e)) := by
  cases fr with
  | sh =>
    obtain ⟨te, pe_, re, _⟩ := ((snd_all e).e s s.room.units hm).pe
    refine ⟨_, ps_ret pe_, fun S0 H0 Sx En σ S H ρ rep hp => ?_⟩
    exact re S H σ ρ _ rep.rp (sp_bind rep (show SPst X.K ct W .sh S0 H0 Sx En (toFl (ev Γ e false ρ) ρ .ret) from hp) fun d v S1 H1 _ x r rep1 hp1 => hp1 v S1 H1 rep1.ext r)
  | own =>
    obtain ⟨te, pe_, re⟩ := evo_read s hm
    refine ⟨_, ps_ret pe_, fun S0 H0 Sx En σ S H ρ rep hp => ?_⟩
    exact re S0 H0 Sx S H σ ρ _ rep (sp_bind rep (show SPst X.K ct W .own S0 H0 Sx En (toFl (evO Γ e ρ) ρ .ret) from hp) fun d v S1 H1 _ x r rep1 hp1 => hp1 v S1 H1 rep1.ext r)
  | tup kk =>
    by_cases hv : ∃ es, e = .tup es
    · obtain ⟨es, rfl⟩ := hv
      unfold mE at hm
      cases w : asTup t with
      | none => rw [w] at hm; cases hm
      | some vs =>
        simp only [w, Bool.and_eq_true, decide_eq_true_eq] at hm
        obtain ⟨k2, p, rfl⟩ := asTup_eq w
        obtain ⟨ta, pa, ra⟩ := evk_read (kk := kk) s hm.2
        refine ⟨_, ps_ret (pe_tup pa), fun S0 H0 Sx En σ S H ρ rep hp => ?_⟩
        have hp : SPst X.K ct W (.tup kk) S0 H0 Sx En (toFl (evK Γ kk es ρ) ρ .ret) := hp
        refine ra S0 H0 Sx S H σ ρ _ rep ?_
        cases q : evK Γ kk es ρ with
        | exc z => rw [q] at hp; exact fun cls dd S1 H1 x r => hp cls dd σ S1 H1 (rep.ext.trans x) r
        | bad => rw [q] at hp; exact hp
        | ok d =>
          rw [q] at hp
          intro ds ed
          subst ed
          intro us S1 H1 x r
          obtain ⟨w1, b, xs, ls, w2, w3, w4, w5, w6, w7, w8⟩ := r
          refine ⟨le1000 (w1.trans (evk_len hm.2 q)) hm.1, fun c hc => ?_⟩
          have nb : b ≠ c := ne_of_none w4 hc
          have h0c : H0 c = none := (rep.step x).ext.h.free hc
          refine hp _ S1 _ ((rep.step x).ext.own_upd h0c (Same.free x.sub hc)) ⟨c, us, ds, b, xs, ls, rfl, rfl, upd_same, Same.free x.sub hc, h0c, w1, w2, w3, by rw [upd_ne nb]; exact w4, w5, w6, w7, w8⟩
    · obtain ⟨te, pe_, re, _⟩ := ((snd_all e).e s s.room.units hm).pe
      refine ⟨_, ps_ret pe_, fun S0 H0 Sx En σ S H ρ rep hp => ?_⟩
      have e1 : exec Γ (.tup kk) (.ret e) ρ = .bad := by
        cases e <;> first | rfl | exact absurd ⟨_, rfl⟩ hv
      rw [e1] at hp
      exact hp.elim
end
end Rf

/-! Rf: reflection. Part M: loops, blocks, defs. -/
namespace Rf
open PySem L2
variable [PWd]
section
variable {X : Cx} {ct : Str → Option Addr} {k : Nat} {Γ : Ctx} {N : List Str} {sc : Scope} {W : WX} {fr : Fr} {e : E} {b : S} {t tg cx : Expr} {body : List Stmt} {pos : Pos}
theorem s_whl (s : Stc X ct k Γ N sc W) (hpa : PassesOwn (model X.prog X.w) X.A X.env X.xe) (lc : tst e = true) (hm : mE Γ N e sc cx = true) (hb : ∃ t, PSs X body t ∧ SvP X ct W fr t (exec Γ fr b)) :
    ∃ t, PS X (.While cx body [] pos) t ∧ SvP X ct W fr t (exec Γ fr (.whl e b)) := by
  obtain ⟨tt, pt, qt, _⟩ := ((snd_all e).e s s.room.units hm).pt lc
  obtain ⟨tb, pb, qb⟩ := hb
  refine ⟨_, ps_while hpa pt pb, fun S0 H0 Sx En σ S H ρ rep hp => ?_⟩
  refine ⟨fun m σ H => ∃ S ρ, Rep X.K S0 H0 Sx σ S H ρ ∧ SPst X.K ct W fr S0 H0 Sx En (loopW (ev Γ e true) (exec Γ fr b) m ρ), ⟨fuel, S, ρ, rep, hp⟩, ?_⟩
  rintro m σ H ⟨S, ρ, rep, hp⟩
  cases m with
  | zero => exact hp.elim
  | succ m =>
    have hp : SPst X.K ct W fr S0 H0 Sx En (testF (ev Γ e true ρ) ρ (match exec Γ fr b ρ with
      | .nx ρ' => loopW (ev Γ e true) (exec Γ fr b) m ρ'
      | .ct ρ' => loopW (ev Γ e true) (exec Γ fr b) m ρ'
      | .brk ρ' => .nx ρ'
      | .ret d => .ret d
      | .exc e ρ' => .exc e ρ'
      | .bad => .bad) (.nx ρ)) := hp
    refine qt S H σ ρ _ rep.rp (sp_test rep hp (fun S1 H1 rep1 hp1 => ?_) (fun S1 H1 rep1 hp1 => ?_))
    · rw [if_pos rfl]
      refine ⟨fun σ H => ∃ S ρ, Rep X.K S0 H0 Sx σ S H ρ ∧ SPst X.K ct W fr S0 H0 Sx En (loopW (ev Γ e true) (exec Γ fr b) m ρ), fun σ' H' w => ⟨m, Nat.lt_succ_self m, w⟩, qb S0 H0 Sx _ σ S1 H1 ρ rep1 ?_⟩
      cases q : exec Γ fr b ρ with
      | nx ρ' => rw [q] at hp1; exact fun σ S H r => ⟨S, ρ', r, hp1⟩
      | ct ρ' => rw [q] at hp1; exact fun σ S H r => ⟨S, ρ', r, hp1⟩
      | brk ρ' => rw [q] at hp1; exact hp1
      | ret d => rw [q] at hp1; exact hp1
      | exc z ρ' => rw [q] at hp1; exact hp1
      | bad => rw [q] at hp1; exact hp1
    · rw [if_neg Bool.false_ne_true]
      exact hp1 _ _ _ rep1
theorem s_for (s : Stc X ct k Γ N sc W) (hpa : PassesOwn (model X.prog X.w) X.A X.env X.xe) {tgt : Tg} (ht : mTg N sc tgt tg = true) (hm : mI Γ N e sc tg t = true) (hb : ∃ t, PSs X body t ∧ SvP X ct W fr t (exec Γ fr b)) :
    ∃ u, PS X (.For tg t body [] pos) u ∧ SvP X ct W fr u (exec Γ fr (.fr tgt e b)) := by
  have hi := (snd_all e).i s s.room.units hm
  obtain ⟨wi, pi_, iv⟩ := hi.pi false
  obtain ⟨tb, pb, qb⟩ := hb
  refine ⟨_, ps_for hpa s.calm pi_ (pg_of s ht) pb hi.nf, fun S0 H0 Sx En σ S H ρ rep hp => ?_⟩
  have hp : SPst X.K ct W fr S0 H0 Sx En (toFl (ev Γ e false ρ) ρ fun x => listF x fun ds => forL tgt (exec Γ fr b) ds ρ) := hp
  refine iv S H σ ρ _ rep.rp ?_
  cases q : ev Γ e false ρ with
  | exc z => rw [q] at hp; exact fun cls dd S1 H1 x r => hp cls dd σ S1 H1 (rep.ext.trans x) r
  | bad => rw [q] at hp; exact hp
  | ok d =>
    rw [q] at hp
    cases d with
    | list ds =>
      intro J S1 H1 x1 hJ
      have hJ : ItD X.K J S1 S1 ds := hJ
      have hp : SPst X.K ct W fr S0 H0 Sx En (forL tgt (exec Γ fr b) ds ρ) := hp
      have rep1 := rep.step x1
      refine ⟨fun i m σ H => m = ds.length - i ∧ i ≤ ds.length ∧ ∃ S ρ, Rep X.K S0 H0 S1 σ S H ρ ∧ SPst X.K ct W fr S0 H0 Sx En (forL tgt (exec Γ fr b) (ds.drop i) ρ), ⟨ds.length, rfl, Nat.zero_le _, S1, ρ, rep1.floor, hp⟩, ?_⟩
      rintro i m σ H ⟨rfl, hil, S, ρ, rep, hp⟩
      obtain ⟨go, stop⟩ := hJ i S H (rep.fl.trans rep.rp.sub) rep.fl rep.rp.sub
      by_cases hlt : i < ds.length
      · obtain ⟨go1, yld⟩ := go ds[i] (List.getElem?_eq_getElem hlt)
        rw [List.drop_eq_getElem_cons hlt] at hp
        have hp : SPst X.K ct W fr S0 H0 Sx En (match setTg tgt ds[i] ρ with
          | some ρ1 => (match exec Γ fr b ρ1 with
            | .nx ρ' => forL tgt (exec Γ fr b) (ds.drop (i + 1)) ρ'
            | .ct ρ' => forL tgt (exec Γ fr b) (ds.drop (i + 1)) ρ'
            | .brk ρ' => .nx ρ'
            | .ret d => .ret d
            | .exc e ρ' => .exc e ρ'
            | .bad => .bad)
          | none => .bad) := hp
        refine .inr ⟨go1, fun σ H => ∃ S ρ, Rep X.K S0 H0 S1 σ S H ρ ∧ SPst X.K ct W fr S0 H0 Sx En (forL tgt (exec Γ fr b) (ds.drop (i + 1)) ρ), fun σ' H' n => ⟨ds.length - (i + 1), by omega, rfl, hlt, n⟩, fun x H2 hy => ?_⟩
        obtain ⟨S2, x2, dx⟩ := yld x H2 hy
        have rep2 := rep.step x2
        cases q1 : setTg tgt ds[i] ρ with
        | none => rw [q1] at hp; exact hp.elim
        | some ρ1 =>
          rw [q1] at hp
          have hp : SPst X.K ct W fr S0 H0 Sx En (match exec Γ fr b ρ1 with
            | .nx ρ' => forL tgt (exec Γ fr b) (ds.drop (i + 1)) ρ'
            | .ct ρ' => forL tgt (exec Γ fr b) (ds.drop (i + 1)) ρ'
            | .brk ρ' => .nx ρ'
            | .ret d => .ret d
            | .exc e ρ' => .exc e ρ'
            | .bad => .bad) := hp
          refine gTg_ok2 rep2.rp dx q1 fun σ' rp' kp => ?_
          refine qb S0 H0 S1 _ σ' S2 H2 ρ1 (rep2.keep rp' kp) ?_
          cases q2 : exec Γ fr b ρ1 with
          | nx ρ' => rw [q2] at hp; exact fun σ S H r => ⟨S, ρ', r, hp⟩
          | ct ρ' => rw [q2] at hp; exact fun σ S H r => ⟨S, ρ', r, hp⟩
          | brk ρ' => rw [q2] at hp; exact fun σ S H r => hp σ S H (r.low rep1.fl)
          | ret d => rw [q2] at hp; exact hp
          | exc z ρ' => rw [q2] at hp; exact hp
          | bad => rw [q2] at hp; exact hp
      · have ei : i = ds.length := by omega
        subst ei
        rw [List.drop_length] at hp
        exact .inl ⟨stop (Nat.le_refl _), hp _ _ _ (rep.low rep1.fl)⟩
    | _ => exact False.elim hp

/-! ### blocks -/
theorem mB_seq {s r : S} {l : List Stmt} (h : mB Γ N sc (.seq s r) l = true) : (∃ i, s = .frz i ∧ mB Γ N sc r l = true) ∨ ∃ t l', l = t :: l' ∧ mS Γ N sc s t = true ∧ mB Γ N sc r l' = true := by
  cases s <;> first
    | (cases l with
      | nil => simp [mB] at h
      | cons t l' =>
        refine .inr ⟨t, l', rfl, ?_⟩
        simp only [mB, Bool.and_eq_true] at h
        exact h)
    | (refine .inl ⟨_, rfl, ?_⟩
       simp only [mB] at h
       exact h)
structure SB (ct : Str → Option Addr) (k : Nat) (Γ : Ctx) (N : List Str) (sc : Scope) (fr : Fr) (s : S) : Prop where
  st : ∀ {X : Cx} {W : WX} {stm : Stmt}, Stc X ct k Γ N sc W → PassesOwn (model X.prog X.w) X.A X.env X.xe → mS Γ N sc s stm = true → ∃ t, PS X stm t ∧ SvP X ct W fr t (exec Γ fr s)
  bl : ∀ {X : Cx} {W : WX} {l : List Stmt}, Stc X ct k Γ N sc W → PassesOwn (model X.prog X.w) X.A X.env X.xe → mB Γ N sc s l = true → ∃ t, PSs X l t ∧ SvP X ct W fr t (exec Γ fr s)
theorem SB.one {s : S} (h : ∀ {X : Cx} {W : WX} {stm : Stmt}, Stc X ct k Γ N sc W → PassesOwn (model X.prog X.w) X.A X.env X.xe → mS Γ N sc s stm = true → ∃ t, PS X stm t ∧ SvP X ct W fr t (exec Γ fr s)) (h1 : ∀ l, mB Γ N sc s l = false) : SB ct k Γ N sc fr s :=
  ⟨h, fun {X W l} _ _ q => by rw [h1] at q; (cases q)⟩
theorem sb_all : ∀ s : S, SB ct k Γ N sc fr s := by
  intro s
  induction s with
  | nil =>
    refine ⟨fun _ _ h => by simp [mS] at h, fun {X W l} s hp h => ?_⟩
    cases l with
    | nil => exact ⟨_, pss_nil, fun S0 H0 Sx En σ S H ρ rep hp => hp _ _ _ rep⟩
    | cons t l => simp [mB] at h
  | seq s0 r ihs ihr =>
    refine ⟨fun _ _ h => by simp [mS] at h, fun {X W l} s hp h => ?_⟩
    rcases mB_seq h with ⟨i, rfl, h1⟩ | ⟨t, l', rfl, h1, h2⟩
    · obtain ⟨t, p, q⟩ := ihr.bl s hp h1
      refine ⟨t, p, fun S0 H0 Sx En σ S H ρ rep hp => ?_⟩
      obtain ⟨S', rep'⟩ := rep.frz i
      exact q S0 H0 Sx En σ S' H _ rep' hp
    · obtain ⟨t1, p1, q1⟩ := ihs.st s hp h1
      obtain ⟨t2, p2, q2⟩ := ihr.bl s hp h2
      refine ⟨_, pss_cons p1 p2, fun S0 H0 Sx En σ S H ρ rep hp => q1 S0 H0 Sx _ σ S H ρ rep ?_⟩
      have hp : SPst X.K ct W fr S0 H0 Sx En (match exec Γ fr s0 ρ with
        | .nx ρ' => exec Γ fr r ρ'
        | .ret d => .ret d
        | .brk ρ' => .brk ρ'
        | .ct ρ' => .ct ρ'
        | .exc e ρ' => .exc e ρ'
        | .bad => .bad) := hp
      cases q : exec Γ fr s0 ρ with
      | nx ρ' => rw [q] at hp; exact fun σ S H r => q2 S0 H0 Sx En σ S H ρ' r hp
      | ct ρ' => rw [q] at hp; exact hp
      | brk ρ' => rw [q] at hp; exact hp
      | ret d => rw [q] at hp; exact hp
      | exc z ρ' => rw [q] at hp; exact hp
      | bad => rw [q] at hp; exact hp
  | asg i e =>
    refine SB.one (fun {X W stm} s hp h => ?_) (fun _ => by simp [mB])
    unfold mS at h
    cases w : asAsg stm with
    | none => rw [w] at h; cases h
    | some u =>
      obtain ⟨t, v, ps⟩ := u
      have e1 := asAsg_eq w
      subst e1
      cases w2 : asName t with
      | none => simp only [w, w2] at h; cases h
      | some x =>
        simp only [w, w2] at h
        obtain ⟨p, rfl⟩ := asName_eq w2
        rw [Bool.and_eq_true, Bool.and_eq_true, Bool.and_eq_true] at h
        exact s_asg s (of_decide_eq_true h.1.1.1) h.1.1.2 h.2 h.1.2
  | unp is e =>
    refine SB.one (fun {X W stm} s hp h => ?_) (fun _ => by simp [mB])
    unfold mS at h
    cases w : asAsg stm with
    | none => rw [w] at h; cases h
    | some u =>
      obtain ⟨t, v, ps⟩ := u
      have e1 := asAsg_eq w
      subst e1
      cases w2 : asTup t with
      | none => simp only [w, w2] at h; cases h
      | some ts =>
        simp only [w, w2] at h
        obtain ⟨kk, p, rfl⟩ := asTup_eq w2
        rw [Bool.and_eq_true, Bool.and_eq_true] at h
        exact s_unp s h.1.1 h.1.2 h.2
  | unpC is j es =>
    refine SB.one (fun {X W stm} s hp h => ?_) (fun _ => by simp [mB])
    unfold mS at h
    cases w : asAsg stm with
    | none => rw [w] at h; cases h
    | some u =>
      obtain ⟨t, v, ps⟩ := u
      have e1 := asAsg_eq w
      subst e1
      cases w2 : asTup t with
      | none => simp only [w, w2] at h; cases h
      | some ts =>
        simp only [w, w2] at h
        obtain ⟨kk, p, rfl⟩ := asTup_eq w2
        rw [Bool.and_eq_true, Bool.and_eq_true] at h
        exact s_unpC s h.1.1 h.2
  | par i j a b =>
    refine SB.one (fun {X W stm} s hp h => ?_) (fun _ => by simp [mB])
    unfold mS at h
    cases w : asAsg stm with
    | none => rw [w] at h; cases h
    | some u =>
      obtain ⟨t, v, ps⟩ := u
      have e1 := asAsg_eq w
      subst e1
      rw [w] at h
      cases w2 : asTup t with
      | none => simp only [w2] at h; cases h
      | some ts =>
        simp only [w2] at h
        match ts, w2, h with
        | [], _, h => cases h
        | [_], _, h => cases h
        | _ :: _ :: _ :: _, _, h => cases h
        | [x, y], w2, h =>
          cases w3 : asTup v with
          | none => simp only [w3] at h; cases h
          | some vs =>
            simp only [w3] at h
            match vs, w3, h with
            | [], _, h => cases h
            | [_], _, h => cases h
            | _ :: _ :: _ :: _, _, h => cases h
            | [a', b'], w3, h =>
              have h : (mTgs N sc [i, j] [x, y] && decide (i ≠ j) && parB sc x y a' b' && mE Γ N a sc a' && mE Γ N b sc b') = true := h
              rw [Bool.and_eq_true, Bool.and_eq_true, Bool.and_eq_true, Bool.and_eq_true] at h
              obtain ⟨⟨⟨⟨h1, h2⟩, h3⟩, h4⟩, h5⟩ := h
              obtain ⟨k1, p1, rfl⟩ := asTup_eq w2
              obtain ⟨k2, p2, rfl⟩ := asTup_eq w3
              have nx : ∃ n p, x = .Name n p := by
                unfold parB at h3
                cases q : asName x with
                | none => rw [q] at h3; simp at h3
                | some n => obtain ⟨p, e⟩ := asName_eq q; exact ⟨n, p, e⟩
              have ny : ∃ n p, y = .Name n p := by
                unfold parB at h3
                cases q : asName y with
                | none => rw [q] at h3; simp at h3
                | some n => obtain ⟨p, e⟩ := asName_eq q; exact ⟨n, p, e⟩
              obtain ⟨n, pn, rfl⟩ := nx
              obtain ⟨m, pm, rfl⟩ := ny
              exact s_par s h1 (of_decide_eq_true h2) h3 h4 h5
  | setIx i ix e =>
    refine SB.one (fun {X W stm} s hp h => ?_) (fun _ => by simp [mB])
    unfold mS at h
    cases w : asAsg stm with
    | none => rw [w] at h; cases h
    | some u =>
      obtain ⟨t, v, ps⟩ := u
      have e1 := asAsg_eq w
      subst e1
      cases w2 : asSub t with
      | none => simp only [w, w2] at h; cases h
      | some ts =>
        obtain ⟨o, kx⟩ := ts
        simp only [w, w2] at h
        obtain ⟨p, rfl⟩ := asSub_eq w2
        rw [Bool.and_eq_true, Bool.and_eq_true, Bool.and_eq_true] at h
        exact s_setIx s h.1.1.1 h.1.1.2 h.1.2 h.2
  | app i e =>
    refine SB.one (fun {X W stm} s hp h => ?_) (fun _ => by simp [mB])
    unfold mS at h
    cases w : asExpr stm with
    | none => rw [w] at h; cases h
    | some t =>
      obtain ⟨pp, rfl⟩ := asExpr_eq w
      cases w2 : asMeth t with
      | none => simp only [w, w2] at h; cases h
      | some v =>
        obtain ⟨o, n, ys, p, q⟩ := v
        have e1 := asMeth_eq w2
        subst e1
        rw [w] at h
        simp only [w2] at h
        match ys, h with
        | [], h => cases h
        | _ :: _ :: _, h => cases h
        | [y], h =>
          have h : (decide (("append" : Str) = n) && (p.endLine == q.line) && notStar y && mE Γ N (.var i) sc o && mE Γ N e sc y) = true := h
          rw [Bool.and_eq_true, Bool.and_eq_true, Bool.and_eq_true, Bool.and_eq_true] at h
          obtain ⟨⟨⟨⟨h1, h2⟩, h3⟩, h4⟩, h5⟩ := h
          have e2 := of_decide_eq_true h1
          subst e2
          exact s_app s h4 h2 h3 h5
  | ext i e =>
    refine SB.one (fun {X W stm} s hp h => ?_) (fun _ => by simp [mB])
    unfold mS at h
    cases w : asExpr stm with
    | none => rw [w] at h; cases h
    | some t =>
      obtain ⟨pp, rfl⟩ := asExpr_eq w
      cases w2 : asMeth t with
      | none => simp only [w, w2] at h; cases h
      | some v =>
        obtain ⟨o, n, ys, p, q⟩ := v
        have e1 := asMeth_eq w2
        subst e1
        rw [w] at h
        simp only [w2] at h
        match ys, h with
        | [], h => cases h
        | _ :: _ :: _, h => cases h
        | [y], h =>
          have h : (decide (("extend" : Str) = n) && (p.endLine == q.line) && notStar y && isFresh e && mE Γ N (.var i) sc o && mE Γ N e sc y) = true := h
          rw [Bool.and_eq_true, Bool.and_eq_true, Bool.and_eq_true, Bool.and_eq_true, Bool.and_eq_true] at h
          obtain ⟨⟨⟨⟨⟨h1, h2⟩, h3⟩, h6⟩, h4⟩, h5⟩ := h
          have e2 := of_decide_eq_true h1
          subst e2
          exact s_ext s h4 h2 h3 h6 h5
  | dnew i =>
    refine SB.one (fun {X W stm} s hp h => ?_) (fun _ => by simp [mB])
    unfold mS at h
    cases w : asAsg stm with
    | none => rw [w] at h; cases h
    | some u =>
      obtain ⟨t, v, ps⟩ := u
      have e1 := asAsg_eq w
      subst e1
      cases w2 : asName t with
      | none => simp only [w, w2] at h; cases h
      | some x =>
        simp only [w, w2] at h
        obtain ⟨p, rfl⟩ := asName_eq w2
        rw [Bool.and_eq_true, Bool.and_eq_true] at h
        obtain ⟨q, rfl⟩ := asDict0_eq h.2
        exact s_dnew s (of_decide_eq_true h.1.1) h.1.2
  | dput i ix e =>
    refine SB.one (fun {X W stm} s hp h => ?_) (fun _ => by simp [mB])
    unfold mS at h
    cases w : asAsg stm with
    | none => rw [w] at h; cases h
    | some u =>
      obtain ⟨t, v, ps⟩ := u
      have e1 := asAsg_eq w
      subst e1
      cases w2 : asSub t with
      | none => simp only [w, w2] at h; cases h
      | some ts =>
        obtain ⟨o, kx⟩ := ts
        simp only [w, w2] at h
        obtain ⟨p, rfl⟩ := asSub_eq w2
        rw [Bool.and_eq_true, Bool.and_eq_true, Bool.and_eq_true] at h
        exact s_dput s h.1.1.1 h.1.1.2 h.1.2 h.2
  | clr i =>
    refine SB.one (fun {X W stm} s hp h => ?_) (fun _ => by simp [mB])
    unfold mS at h
    cases w : asExpr stm with
    | none => rw [w] at h; cases h
    | some t =>
      obtain ⟨pp, rfl⟩ := asExpr_eq w
      cases w2 : asMeth0 t with
      | none => simp only [w, w2] at h; cases h
      | some v =>
        obtain ⟨o, n, p, q⟩ := v
        have e1 := asMeth0_eq w2
        subst e1
        simp only [w, w2] at h
        rw [Bool.and_eq_true, Bool.and_eq_true] at h
        have e2 := of_decide_eq_true h.1.1
        subst e2
        exact s_clr s h.2 h.1.2
  | ifs c a b iha ihb =>
    refine SB.one (fun {X W stm} s hp h => ?_) (fun _ => by simp [mB])
    unfold mS at h
    cases w : asIfS stm with
    | none => rw [w] at h; cases h
    | some u =>
      obtain ⟨t, x, y⟩ := u
      simp only [w] at h
      obtain ⟨p, rfl⟩ := asIfS_eq w
      rw [Bool.and_eq_true, Bool.and_eq_true, Bool.and_eq_true] at h
      obtain ⟨tt, pt, qt, _⟩ := ((snd_all c).e s s.room.units h.1.1.2).pt h.1.1.1
      obtain ⟨ta, pa, qa⟩ := iha.bl s hp h.1.2
      obtain ⟨tb, pb, qb⟩ := ihb.bl s hp h.2
      refine ⟨_, ps_if pt pa pb, fun S0 H0 Sx En σ S H ρ rep hp => ?_⟩
      have hp : SPst X.K ct W fr S0 H0 Sx En (testF (ev Γ c true ρ) ρ (exec Γ fr a ρ) (exec Γ fr b ρ)) := hp
      refine qt S H σ ρ _ rep.rp (sp_test rep hp (fun S1 H1 rep1 hp1 => ?_) (fun S1 H1 rep1 hp1 => ?_))
      · rw [if_pos rfl]; exact qa S0 H0 Sx En σ S1 H1 ρ rep1 hp1
      · rw [if_neg Bool.false_ne_true]; exact qb S0 H0 Sx En σ S1 H1 ρ rep1 hp1
  | whl c b ih =>
    refine SB.one (fun {X W stm} s hp h => ?_) (fun _ => by simp [mB])
    unfold mS at h
    cases w : asWhl stm with
    | none => rw [w] at h; cases h
    | some u =>
      obtain ⟨t, x⟩ := u
      simp only [w] at h
      obtain ⟨p, rfl⟩ := asWhl_eq w
      rw [Bool.and_eq_true, Bool.and_eq_true] at h
      exact s_whl s hp h.1.1 h.1.2 (ih.bl s hp h.2)
  | fr tgt it b ih =>
    refine SB.one (fun {X W stm} s hp h => ?_) (fun _ => by simp [mB])
    unfold mS at h
    cases w : asFor stm with
    | none => rw [w] at h; cases h
    | some u =>
      obtain ⟨t, i, x⟩ := u
      simp only [w] at h
      obtain ⟨p, rfl⟩ := asFor_eq w
      rw [Bool.and_eq_true, Bool.and_eq_true] at h
      exact s_for s hp h.1.1 h.1.2 (ih.bl s hp h.2)
  | ret e =>
    refine SB.one (fun {X W stm} s hp h => ?_) (fun _ => by simp [mB])
    unfold mS at h
    cases w : asRet stm with
    | none => rw [w] at h; cases h
    | some u =>
      cases u with
      | none => rw [w] at h; cases h
      | some t =>
        simp only [w] at h
        obtain ⟨p, rfl⟩ := asRet_eq w
        exact s_ret s h
  | retN =>
    refine SB.one (fun {X W stm} s hp h => ?_) (fun _ => by simp [mB])
    unfold mS at h
    cases w : asRet stm with
    | none => rw [w] at h; cases h
    | some u =>
      cases u with
      | some t => rw [w] at h; cases h
      | none =>
        obtain ⟨p, rfl⟩ := asRet_eq w
        refine ⟨_, ps_retN, fun S0 H0 Sx En σ S H ρ rep hp => ?_⟩
        cases fr with
        | sh => exact hp .non S H rep.ext .non
        | own => exact hp.elim
        | tup _ => exact hp.elim
  | frz i => exact SB.one (fun _ _ h => by simp [mS] at h) (fun _ => by simp [mB])
  | brk =>
    refine SB.one (fun {X W stm} s hp h => ?_) (fun _ => by simp [mB])
    obtain ⟨p, rfl⟩ := isBrk_eq (show isBrk stm = true by simpa [mS] using h)
    exact ⟨_, ps_break, fun S0 H0 Sx En σ S H ρ rep hp => hp _ _ _ rep⟩
  | cont =>
    refine SB.one (fun {X W stm} s hp h => ?_) (fun _ => by simp [mB])
    obtain ⟨p, rfl⟩ := isCont_eq (show isCont stm = true by simpa [mS] using h)
    exact ⟨_, ps_continue, fun S0 H0 Sx En σ S H ρ rep hp => hp _ _ _ rep⟩
end

/-! ### defs -/
theorem start_rp {K : PySem.W.Frag} {S H : Hp} {N : List Str} {vs : List V} {ds : List D} (sm : Same S H) (h : DpAll K S vs ds) : Rp K S H (L2.start N vs) (ds.map Slot.sh ++ List.replicate (N.length - ds.length) Slot.un) := by
  have hl := dps_len h
  have no : ∀ (i : Nat) (di : List D), (ds.map Slot.sh ++ List.replicate (N.length - ds.length) Slot.un)[i]? ≠ some (.own di) := fun i di e => by
    by_cases q : i < ds.length
    · rw [List.getElem?_append_left (by rw [List.length_map]; exact q), List.getElem?_map, List.getElem?_eq_getElem q] at e
      cases e
    · rw [List.getElem?_append_right (by rw [List.length_map]; omega)] at e
      rw [List.getElem?_replicate] at e
      split at e <;> cases e
  have noD : ∀ (i : Nat) (di : List (D × D)), (ds.map Slot.sh ++ List.replicate (N.length - ds.length) Slot.un)[i]? ≠ some (.dic di) := fun i di e => by
    by_cases q : i < ds.length
    · rw [List.getElem?_append_left (by rw [List.length_map]; exact q), List.getElem?_map, List.getElem?_eq_getElem q] at e
      cases e
    · rw [List.getElem?_append_right (by rw [List.length_map]; omega)] at e
      rw [List.getElem?_replicate] at e
      split at e <;> cases e
  refine ⟨?_, sm, fun i s e => ?_, fun i j p di dj e => absurd e (no i di), fun i j p di dj e => absurd e (noD i di)⟩
  · unfold L2.start
    rw [List.length_append, List.length_append, List.length_map, List.length_map, List.length_replicate, List.length_replicate, hl]
  · cases s with
    | un => trivial
    | own dj => exact absurd e (no i dj)
    | dic dj => exact absurd e (noD i dj)
    | sh d =>
      by_cases q : i < ds.length
      · rw [List.getElem?_append_left (by rw [List.length_map]; exact q), List.getElem?_map] at e
        cases w : ds[i]? with
        | none => rw [w] at e; cases e
        | some d' =>
          rw [w] at e
          cases e
          obtain ⟨v, e1, e2⟩ := dps_at h w
          refine ⟨v, ?_, e2⟩
          unfold L2.start
          rw [List.getElem?_append_left (by rw [List.length_map, hl]; exact q), List.getElem?_map, e1]; rfl
      · rw [List.getElem?_append_right (by rw [List.length_map]; omega)] at e
        rw [List.getElem?_replicate] at e
        split at e <;> cases e
section
variable {P : Program} {w : World} {K : PySem.W.Frag} {mg : Str → Option Value} {base : Heap}
theorem fn_ok (pw : P = PWd.P ∧ w = PWd.w) {x qual : Str} {st : Stmt} {f : Addr} {fd : FuncData} {N ps : List Str} {ct : Str → Option Addr} {k : Nat} {Γ : Ctx} {b : S} {c : Cal} (F : Fun K x qual st f fd) (Sc : FnScope N ps (defScope st)) (hn : c.n = ps.length)
    (hs : c.sem = run Γ c.fr N.length b) (hm : mB Γ N (defScope st) b (defBody st) = true) (hbl : ∀ x ∈ Γ.bl, mg x = none) (hdg : Γ.dig = true → PySem.W.nsIn K cStatics "sys.int_max_str_digits" = some none) (hgl : ∀ p ∈ Γ.globs, ∃ u v, mg p.1 = some u ∧ RelV v u ∧ flatD p.2 = some v)
    (hc : ∀ c ∈ Γ.cals, CalOk P w K mg base ct k c) : FnOk P w K mg base (L2.CX P w) (k + 1) f fd ps (spOf K ct c) := by
  refine F.okX Sc (fun vs H Q E ⟨S, ds, _, h2, h3, _⟩ => (dps_len h2).trans (h3.trans hn)) fun cdv A outer s H vs Q E room ⟨S, ds, h1, h2, h3, h4⟩ => ?_
  have stc : Stc (cxOf (L2.CX P w) P w K mg base N qual (defScope st) f cdv A outer s H E) ct k Γ N (defScope st) (fun cls d _ H => E cls d H) :=
    { hN := rfl, nd := Sc.nd, kind := Sc.kind, loc := fun _ h => h, cel := fun _ h => ⟨h, rfl⟩, fre := fun _ h => .inl h, glo := fun _ h => h, calm := rfl, bl := hbl, dig := hdg, globs := hgl, cals := hc, room := room, tk := takes_of rfl rfl rfl rfl, pq := ⟨pw.1, pw.2⟩ }
  obtain ⟨t, p, q⟩ := (sb_all (fr := c.fr) b).bl stc (passes_of rfl) hm
  refine ⟨t, p, q S H S _ _ S H _ ⟨start_rp h1 h2, Ext.refl h1, Same.refl S, fun i dj a e _ => ?_, fun i dj a e _ => ?_⟩ ?_⟩
  · exfalso
    by_cases q : i < ds.length
    · rw [List.getElem?_append_left (by rw [List.length_map]; exact q), List.getElem?_map, List.getElem?_eq_getElem q] at e
      cases e
    · rw [List.getElem?_append_right (by rw [List.length_map]; omega)] at e
      rw [List.getElem?_replicate] at e
      split at e <;> cases e
  · exfalso
    by_cases q : i < ds.length
    · rw [List.getElem?_append_left (by rw [List.length_map]; exact q), List.getElem?_map, List.getElem?_eq_getElem q] at e
      cases e
    · rw [List.getElem?_append_right (by rw [List.length_map]; omega)] at e
      rw [List.getElem?_replicate] at e
      split at e <;> cases e
  · rw [hs] at h4
    have h4 : Pst ct (fun cls dd _ H' => E cls dd H') [] S H (RV K c.fr) Q (endD c.fr (exec Γ c.fr b (ds.map Slot.sh ++ List.replicate (N.length - ds.length) Slot.un))) := h4
    cases w1 : exec Γ c.fr b (ds.map Slot.sh ++ List.replicate (N.length - ds.length) Slot.un) with
    | nx ρ =>
      rw [w1] at h4
      have h5 : Pst ct (fun cls dd _ H' => E cls dd H') [] S H (RV K c.fr) Q (match c.fr with
        | .sh => .ok .none
        | _ => .bad) := h4
      cases w2 : c.fr with
      | sh =>
        rw [w2] at h5
        exact fun σ' S' H' r => h5 .non S' H' r.ext .non
      | own => rw [w2] at h5; exact h5.elim
      | tup _ => rw [w2] at h5; exact h5.elim
    | ret d => rw [w1] at h4; exact fun v S' H' x r => h4 v S' H' x r
    | brk ρ => rw [w1] at h4; exact h4.elim
    | ct ρ => rw [w1] at h4; exact h4.elim
    | exc z ρ => rw [w1] at h4; exact fun cls dd σ S' H' x r => h4 cls dd S' H' x r
    | bad => rw [w1] at h4; exact h4.elim
end
end Rf

/-! Rf: reflection. Part N: defs as callees; the law's end. -/
namespace Rf
open PySem L2
variable [PWd]
section
variable {P : Program} {w : World} {K : PySem.W.Frag} {mg : Str → Option Value} {base : Heap}
theorem fn_body (pw : P = PWd.P ∧ w = PWd.w) {qual : Str} {body : List Stmt} {scope : Scope} {f : Addr} {N ps : List Str} {ct : Str → Option Addr} {k : Nat} {Γ : Ctx} {b : S} {c : Cal} (Sc : FnScope N ps scope)
    (hs : c.sem = run Γ c.fr N.length b) (hm : mB Γ N scope b body = true) (hbl : ∀ x ∈ Γ.bl, mg x = none) (hdg : Γ.dig = true → PySem.W.nsIn K cStatics "sys.int_max_str_digits" = some none) (hgl : ∀ p ∈ Γ.globs, ∃ u v, mg p.1 = some u ∧ RelV v u ∧ flatD p.2 = some v)
    (hc : ∀ c ∈ Γ.cals, CalOk P w K mg base ct k c) (cdv : Value) (A : Around) (outer : List Env) (s : Shared) (H : Hp) (vs : List V) (Q : VK) (E : XK) (room : Room k (A.deeper (PyProof.Rows.envOfC qual scope s.heap.objs.size f cdv))) (h : spOf K ct c vs H Q E) :
    ∃ t, PSs (cxOf (L2.CX P w) P w K mg base N qual scope f cdv A outer s H E) body t ∧ t { nx := fun _ H' => Q .non H', rt := Q } (L2.start N vs) H := by
  obtain ⟨S, ds, h1, h2, h3, h4⟩ := h
  have stc : Stc (cxOf (L2.CX P w) P w K mg base N qual scope f cdv A outer s H E) ct k Γ N scope (fun cls d _ H => E cls d H) :=
    { hN := rfl, nd := Sc.nd, kind := Sc.kind, loc := fun _ h => h, cel := fun _ h => ⟨h, rfl⟩, fre := fun _ h => .inl h, glo := fun _ h => h, calm := rfl, bl := hbl, dig := hdg, globs := hgl, cals := hc, room := room, tk := takes_of rfl rfl rfl rfl, pq := ⟨pw.1, pw.2⟩ }
  obtain ⟨t, p, q⟩ := (sb_all (fr := c.fr) b).bl stc (passes_of rfl) hm
  refine ⟨t, p, q S H S _ _ S H _ ⟨start_rp h1 h2, Ext.refl h1, Same.refl S, fun i dj a e _ => ?_, fun i dj a e _ => ?_⟩ ?_⟩
  · exfalso
    by_cases q : i < ds.length
    · rw [List.getElem?_append_left (by rw [List.length_map]; exact q), List.getElem?_map, List.getElem?_eq_getElem q] at e
      cases e
    · rw [List.getElem?_append_right (by rw [List.length_map]; omega)] at e
      rw [List.getElem?_replicate] at e
      split at e <;> cases e
  · exfalso
    by_cases q : i < ds.length
    · rw [List.getElem?_append_left (by rw [List.length_map]; exact q), List.getElem?_map, List.getElem?_eq_getElem q] at e
      cases e
    · rw [List.getElem?_append_right (by rw [List.length_map]; omega)] at e
      rw [List.getElem?_replicate] at e
      split at e <;> cases e
  · rw [hs] at h4
    have h4 : Pst ct (fun cls dd _ H' => E cls dd H') [] S H (RV K c.fr) Q (endD c.fr (exec Γ c.fr b (ds.map Slot.sh ++ List.replicate (N.length - ds.length) Slot.un))) := h4
    cases w1 : exec Γ c.fr b (ds.map Slot.sh ++ List.replicate (N.length - ds.length) Slot.un) with
    | nx ρ =>
      rw [w1] at h4
      have h5 : Pst ct (fun cls dd _ H' => E cls dd H') [] S H (RV K c.fr) Q (match c.fr with
        | .sh => .ok .none
        | _ => .bad) := h4
      cases w2 : c.fr with
      | sh =>
        rw [w2] at h5
        exact fun σ' S' H' r => h5 .non S' H' r.ext .non
      | own => rw [w2] at h5; exact h5.elim
      | tup _ => rw [w2] at h5; exact h5.elim
    | ret d => rw [w1] at h4; exact fun v S' H' x r => h4 v S' H' x r
    | brk ρ => rw [w1] at h4; exact h4.elim
    | ct ρ => rw [w1] at h4; exact h4.elim
    | exc z ρ => rw [w1] at h4; exact fun cls dd σ S' H' x r => h4 cls dd S' H' x r
    | bad => rw [w1] at h4; exact h4.elim
/-- facts of the module's names -/
structure Tp (K : PySem.W.Frag) (mg : Str → Option Value) (bl : List Str) (gl : List (Str × D)) (dg : Bool) : Prop where
  bl : ∀ x ∈ bl, mg x = none
  gl : ∀ p ∈ gl, ∃ u v, mg p.1 = some u ∧ RelV v u ∧ flatD p.2 = some v
  dig : dg = true → PySem.W.nsIn K cStatics "sys.int_max_str_digits" = some none
theorem mem_sub {α : Type} [BEq α] [LawfulBEq α] {l m : List α} (h : l.all (fun x => m.contains x) = true) : ∀ x ∈ l, x ∈ m := fun x hx => List.contains_iff_mem.mp (List.all_eq_true.mp h x hx)
variable {ct : Str → Option Addr} {k : Nat} {bl : List Str} {gl : List (Str × D)} {dg : Bool}
theorem CalOk.mono {j : Nat} {c : Cal} (h : CalOk P w K mg base ct j c) (l : j ≤ k) : CalOk P w K mg base ct k c := by
  obtain ⟨f, fd, ps, ds, dvs, F, r⟩ := h
  exact ⟨f, fd, ps, ds, dvs, F.mono l, r⟩
theorem cal_ok (pw : P = PWd.P ∧ w = PWd.w) {x : Str} {st : Stmt} {f : Addr} {fd : FuncData} {N ps : List Str} {Γ : Ctx} {b : S} {c : Cal} (F : Fun K x x st f fd) (T : Tp K mg bl gl dg) (hx : mg c.name = some (.ref f)) (hb : Binds K fd ps []) (Sc : FnScope N ps (defScope st)) (hn : c.n = ps.length) (hd : c.dfl = [])
    (hs : c.sem = run Γ c.fr N.length b) (hm : mB Γ N (defScope st) b (defBody st) = true) (h1 : Γ.bl.all (fun x => bl.contains x) = true) (h2 : ∀ p ∈ Γ.globs, p ∈ gl) (h3 : Γ.dig = dg) (hc : ∀ c ∈ Γ.cals, CalOk P w K mg base ct k c) : CalOk P w K mg base ct (k + 1) c := by
  refine ⟨f, fd, ps, [], [], ?_, hx, F.kp, hb, .nil, fun S => by rw [hd]; exact .nil⟩
  exact F.okX Sc (fun vs H Q E ⟨S, ds, _, h2, h3, _⟩ => (dps_len h2).trans (h3.trans hn)) fun cdv A outer s H vs Q E room h => fn_body pw Sc hs hm (fun x hx => T.bl x (mem_sub h1 x hx)) (fun e => T.dig (h3 ▸ e)) (fun p hp => T.gl p (h2 p hp)) hc cdv A outer s H vs Q E room h
theorem dps_flat : ∀ {dvs : List V} {ds : List D}, flatAll ds = some dvs → ∀ S, DpAll K S dvs ds
  | _, [], h, S => by cases h; exact .nil
  | dvs, d :: ds, h, S => by
    unfold flatAll at h
    cases q : flatD d with
    | none => rw [q] at h; cases h
    | some v =>
      rw [q] at h
      cases q2 : flatAll ds with
      | none => rw [q2] at h; cases h
      | some vs =>
        rw [q2] at h
        cases h
        exact .cons (dp_flat q) (dps_flat q2 S)
theorem cal_okD (pw : P = PWd.P ∧ w = PWd.w) {x : Str} {st : Stmt} {f : Addr} {fd : FuncData} {N ps : List Str} {Γ : Ctx} {b : S} {c : Cal} {dvs dvs' : List V} (F : FunD K x x (defArgs st) (defBody st) (defScope st) dvs [] f fd) (T : Tp K mg bl gl dg) (hx : mg c.name = some (.ref f)) (hb : ∃ ds, Vals dvs' ds ∧ Binds K fd ps ds) (Sc : FnScope N ps (defScope st)) (hn : c.n = ps.length) (hd : flatAll c.dfl = some dvs')
    (hs : c.sem = run Γ c.fr N.length b) (hm : mB Γ N (defScope st) b (defBody st) = true) (h1 : Γ.bl.all (fun x => bl.contains x) = true) (h2 : ∀ p ∈ Γ.globs, p ∈ gl) (h3 : Γ.dig = dg) (hc : ∀ c ∈ Γ.cals, CalOk P w K mg base ct k c) : CalOk P w K mg base ct (k + 1) c := by
  obtain ⟨ds, v, b0⟩ := hb
  refine ⟨f, fd, ps, ds, dvs', ?_, hx, F.kp, b0, v, dps_flat hd⟩
  exact F.ok Sc (fun vs H Q E ⟨S, ds, _, h2, h3, _⟩ => (dps_len h2).trans (h3.trans hn)) fun cdv A outer s H vs Q E room h => fn_body pw Sc hs hm (fun x hx => T.bl x (mem_sub h1 x hx)) (fun e => T.dig (h3 ▸ e)) (fun p hp => T.gl p (h2 p hp)) hc cdv A outer s H vs Q E room h
theorem law_ok (pw : P = PWd.P ∧ w = PWd.w) {x : Str} {st : Stmt} {f : Addr} {fd : FuncData} {N ps : List Str} {Γ : Ctx} {b : S} {c : Cal} (F : Fun K x x st f fd) (T : Tp K mg bl gl dg) (Sc : FnScope N ps (defScope st)) (hn : c.n = ps.length)
    (hs : c.sem = run Γ c.fr N.length b) (hm : mB Γ N (defScope st) b (defBody st) = true) (h1 : Γ.bl.all (fun x => bl.contains x) = true) (h2 : ∀ p ∈ Γ.globs, p ∈ gl) (h3 : Γ.dig = dg) (hc : ∀ c ∈ Γ.cals, CalOk P w K mg base ct k c) : FnOk P w K mg base (L2.CX P w) (k + 1) f fd ps (spOf K ct c) :=
  F.okX Sc (fun vs H Q E ⟨S, ds, _, h2, h3, _⟩ => (dps_len h2).trans (h3.trans hn)) fun cdv A outer s H vs Q E room h => fn_body pw Sc hs hm (fun x hx => T.bl x (mem_sub h1 x hx)) (fun e => T.dig (h3 ▸ e)) (fun p hp => T.gl p (h2 p hp)) hc cdv A outer s H vs Q E room h
theorem funD_mk {x qual : Str} {st : Stmt} {f T : Addr} {oc oc2 : Value} {od an od2 : Option Addr} {osl osl2 : Array (Option Value)} {kV doc pm cdv ct : Value} {its : Array Value} {n : Nat} {dvs : List V} (l : K.lookup f = some ⟨oc, od, .func (PySem.W.fnOf x qual (defArgs st) (defBody st) (defScope st) (.ref T) kV doc pm an cdv ct), osl⟩)
    (c : PySem.W.codeIn K cdv qual = true) (k : PySem.W.keepIn K (.ref f) = true) (lT : K.lookup T = some ⟨oc2, od2, .seq its n, osl2⟩) (r : He.relAll dvs its.toList = true) (hne : dvs ≠ []) : FunD K x qual (defArgs st) (defBody st) (defScope st) dvs [] f (PySem.W.fnOf x qual (defArgs st) (defBody st) (defScope st) (.ref T) kV doc pm an cdv ct) :=
  ⟨⟨oc, od, _, kV, doc, pm, an, cdv, ct, osl, rfl, l, c, .inr ⟨hne, T, _, its.toList, n, rfl, lT, rfl, He.relAll_ok r⟩, .inl rfl⟩, k⟩
omit [PWd] in
/-- the law's promise from the plain law -/
theorem law_sp {c : Cal} {H : Hp} {a : Addr} {ns : List Int} (hn : c.n = 1) (hf : c.fr = .sh) (h : c.sem [.list (ns.map .int)] = .ok (.bool true)) (hS : SqL K H a (ns.map V.int)) : spOf K ct c [.ref a] H (fun v _ => v = .bl true) fun _ _ _ => False := by
  refine ⟨H, [.list (ns.map .int)], Same.refl H, .cons (.lst hS (dps_ints.mpr rfl)) .nil, hn.symm, ?_⟩
  rw [h, hf]
  intro v S' H' _ r
  cases (show Dp K S' v (.bool true) from r)
  rfl
omit [PWd] in
theorem law_cx {H : Hp} {s : Shared} {e : Value} {s' : Shared} (h : L2.CX P w [] H s (fun _ _ _ => False) e s') : False := by
  obtain ⟨_, _, _, _, _, _, _, _, _, _, _, _, z⟩ := h
  exact z.elim
end
omit [PWd] in
theorem walk_rf {l : PySem.W.OpenLaw} {n k : Nat} {q : Program} {loose : List Str} {XP : (Str → Option Value) → Heap → Prop} {YP : World → Heap → Prop} {d : DefRec} {K : Params → PySem.W.Frag} {x : Str} {ct : Str → Option Addr} {c : Cal}
    (hn : l.most = some n) (hn2 : n ≤ sizeLine) (hdf : d.params.defaults = []) (hr : Room k callerA) (hc : c.n = 1) (hf : c.fr = .sh) (hp : ∀ ns : List Int, ns.length ≤ n → c.sem [.list (ns.map .int)] = .ok (.bool true))
    (hY : ∀ (w : World) (h : Heap), YP w h → (K w.params).In h)
    (F : ∀ (w : World) (mg : Str → Option Value) (fa : Addr) (h : Heap), (K w.params).In h → h.Ns mainGlobals mg → mg d.name = some (.ref fa) →
      ∃ fd : FuncData, (∀ (s : Shared) (u : Value), BindsTo s fd ⟨[u], []⟩ [(x, u)]) ∧
        ∀ base : Heap, (K w.params).In base → base.Ns mainGlobals mg → FnOk l.prog w (K w.params) mg base (L2.CX l.prog w) k fa fd [x] (spOf (K w.params) ct c)) :
    PySem.W.WalkO q loose XP YP l.row.toRowW d [] (fun f vs => PySem.call f vs) :=
  L2.walk_of (CX := fun w => L2.CX l.prog w) (sp := fun w => spOf (K w.params) ct c) hn hn2 hdf hr hY F (fun w H a ns hl _ hS => law_sp hc hf (hp ns hl) hS) fun _ _ _ _ _ z => law_cx z
omit [PWd] in
theorem walk_rfB {l : PySem.W.OpenLaw} {n k : Nat} {q : Program} {loose : List Str} {XP : (Str → Option Value) → Heap → Prop} {YP : World → Heap → Prop} {d : DefRec} {K : Params → PySem.W.Frag} {x : Str} {ct : Str → Option Addr} {c : Cal}
    (hn : l.most = some n) (hn2 : n ≤ sizeLine) (hdf : d.params.defaults = []) (hr : Room k callerA) (hc : c.n = 1) (hf : c.fr = .sh) (hp : ∀ ns : List Int, ns.length ≤ n → (∀ z ∈ ns, Builtin.Int.intBits z ≤ 1048576) → c.sem [.list (ns.map .int)] = .ok (.bool true))
    (hY : ∀ (w : World) (h : Heap), YP w h → (K w.params).In h)
    (F : ∀ (w : World) (mg : Str → Option Value) (fa : Addr) (h : Heap), (K w.params).In h → h.Ns mainGlobals mg → mg d.name = some (.ref fa) →
      ∃ fd : FuncData, (∀ (s : Shared) (u : Value), BindsTo s fd ⟨[u], []⟩ [(x, u)]) ∧
        ∀ base : Heap, (K w.params).In base → base.Ns mainGlobals mg → FnOk l.prog w (K w.params) mg base (L2.CX l.prog w) k fa fd [x] (spOf (K w.params) ct c)) :
    PySem.W.WalkO q loose XP YP l.row.toRowW d [] (fun f vs => PySem.call f vs) :=
  L2.walk_ofB (CX := fun w => L2.CX l.prog w) (sp := fun w => spOf (K w.params) ct c) hn hn2 hdf hr hY F (fun w H a ns hl hb _ hS => law_sp hc hf (hp ns hl hb) hS) fun _ _ _ _ _ z => law_cx z
end Rf

/-! Rf: reflection. Part P: reckoning with the evaluator (no program in sight). -/
namespace Rf
open PySem L2
/-! ### one step -/
def seqF (f : Fl) (k : Sl → Fl) : Fl := match f with
  | .nx ρ => k ρ
  | .ret d => .ret d
  | .brk ρ => .brk ρ
  | .ct ρ => .ct ρ
  | .exc e ρ => .exc e ρ
  | .bad => .bad
section
variable {Γ : Ctx} {fr : Fr} {ρ ρ' : Sl} {k : Sl → Fl} {m : Bool} {d x y : D} {ds es : List D} {a b c e : E} {s r : S} {i j : Nat}
@[simp] theorem seqF_nx : seqF (.nx ρ) k = k ρ := id rfl
@[simp] theorem seqF_ret : seqF (.ret d) k = .ret d := id rfl
@[simp] theorem seqF_brk : seqF (.brk ρ) k = .brk ρ := id rfl
@[simp] theorem seqF_ct : seqF (.ct ρ) k = .ct ρ := id rfl
@[simp] theorem exec_nil : exec Γ fr .nil ρ = .nx ρ := id rfl
theorem exec_seq : exec Γ fr (.seq s r) ρ = seqF (exec Γ fr s ρ) (exec Γ fr r) := by
  have e : exec Γ fr (.seq s r) ρ = (match exec Γ fr s ρ with
    | .nx ρ' => exec Γ fr r ρ'
    | .ret d => .ret d
    | .brk ρ' => .brk ρ'
    | .ct ρ' => .ct ρ'
    | .exc e ρ' => .exc e ρ'
    | .bad => .bad) := rfl
  rw [e]
  cases exec Γ fr s ρ <;> rfl
@[simp] theorem exec_asg : exec Γ fr (.asg i e) ρ = toFl (ev Γ e false ρ) ρ fun d => .nx (ρ.set i (newSlot (isFresh e) d)) := id rfl
@[simp] theorem exec_unp {is : List Nat} : exec Γ fr (.unp is e) ρ = toFl (ev Γ e true ρ) ρ fun d => unpD is d ρ := id rfl
@[simp] theorem exec_unpC {is : List Nat} : exec Γ fr (.unpC is j e) ρ = toFl (ev Γ (.call false j e) false ρ) ρ fun d => unpKD (frK Γ j) is d ρ := id rfl
@[simp] theorem exec_par : exec Γ fr (.par i j a b) ρ = toFl (ev Γ a false ρ) ρ fun x => toFl (ev Γ b false ρ) ρ fun y => .nx ((ρ.set i (.sh x)).set j (.sh y)) := id rfl
@[simp] theorem exec_setIx : exec Γ fr (.setIx i a e) ρ = toFl (ev Γ e false ρ) ρ fun x => overOwn ρ i fun ds => toFl (ev Γ a true ρ) ρ fun y => intF y fun k =>
      (match ixN ds.length k with
      | some j => .nx (ρ.set i (.own (ds.set j x)))
      | none => .bad) := rfl
@[simp] theorem exec_app : exec Γ fr (.app i e) ρ = overOwn ρ i fun ds => toFl (ev Γ e false ρ) ρ fun x => guardF (decide (ds.length < lim)) (.nx (ρ.set i (.own (ds ++ [x])))) := id rfl
@[simp] theorem exec_ext : exec Γ fr (.ext i e) ρ = overOwn ρ i fun ds => toFl (ev Γ e false ρ) ρ fun x => listF x fun es => guardF (decide (ds.length + es.length ≤ lim)) (.nx (ρ.set i (.own (ds ++ es)))) := id rfl
@[simp] theorem exec_dnew : exec Γ fr (.dnew i) ρ = .nx (ρ.set i (.dic [])) := id rfl
@[simp] theorem exec_dput : exec Γ fr (.dput i a e) ρ = overDic ρ i fun kvs => toFl (ev Γ e false ρ) ρ fun x => toFl (ev Γ a false ρ) ρ fun k => guardF (keyOk k && decide (kvs.length < lim)) (.nx (ρ.set i (.dic (dcPut kvs k x)))) := id rfl
@[simp] theorem exec_clr : exec Γ fr (.clr i) ρ = overOwn ρ i fun _ => .nx (ρ.set i (.own [])) := id rfl
@[simp] theorem exec_ifs {s r : S} : exec Γ fr (.ifs c s r) ρ = testF (ev Γ c true ρ) ρ (exec Γ fr s ρ) (exec Γ fr r ρ) := id rfl
@[simp] theorem exec_ret : exec Γ fr (.ret e) ρ = toFl (retD Γ fr e ρ) ρ .ret := id rfl
@[simp] theorem exec_retN : exec Γ .sh .retN ρ = .ret .none := id rfl
@[simp] theorem exec_frz : exec Γ fr (.frz i) ρ = .nx (frzS i ρ) := id rfl
@[simp] theorem exec_brk : exec Γ fr .brk ρ = .brk ρ := id rfl
@[simp] theorem exec_cont : exec Γ fr .cont ρ = .ct ρ := id rfl
theorem exec_for {tg : Tg} : exec Γ fr (.fr tg e s) ρ = toFl (ev Γ e false ρ) ρ fun x => listF x fun ds => forL tg (exec Γ fr s) ds ρ := id rfl
theorem exec_whl : exec Γ fr (.whl e s) ρ = loopW (ev Γ e true) (exec Γ fr s) fuel ρ := id rfl
@[simp] theorem retD_sh : retD Γ .sh e ρ = ev Γ e false ρ := id rfl
@[simp] theorem retD_own : retD Γ .own e ρ = evO Γ e ρ := id rfl
@[simp] theorem evO_var : evO Γ (.var i) ρ = slotOwn ρ i := id rfl
@[simp] theorem evO_sl {lo hi : E} : evO Γ (.sl true a lo hi) ρ = ev Γ (.sl true a lo hi) false ρ := id rfl
@[simp] theorem evO_lst : evO Γ (.lst e) ρ = ev Γ (.lst e) false ρ := id rfl
@[simp] theorem evO_cat : evO Γ (.cat a b) ρ = ev Γ (.cat a b) false ρ := id rfl
@[simp] theorem evO_call : evO Γ (.call true j e) ρ = ev Γ (.call true j e) false ρ := id rfl
@[simp] theorem evO_comp {tg : Tg} {own : List Nat} : evO Γ (.comp a tg b own) ρ = ev Γ (.comp a tg b own) false ρ := id rfl
@[simp] theorem evO_compC {tg : Tg} {own : List Nat} : evO Γ (.compC a tg b c own) ρ = ev Γ (.compC a tg b c own) false ρ := id rfl
@[simp] theorem toFl_ok {α : Type} {v : α} {g : α → Fl} : toFl (.ok v) ρ g = g v := id rfl
@[simp] theorem toFl_bad {α : Type} {g : α → Fl} : toFl (.bad : Res α) ρ g = .bad := id rfl
@[simp] theorem testF_t {p q : Fl} : testF (.ok (.bool true)) ρ p q = p := id rfl
@[simp] theorem testF_f {p q : Fl} : testF (.ok (.bool false)) ρ p q = q := id rfl
@[simp] theorem testF_d {p q : Fl} {P : Prop} [Decidable P] : testF (.ok (.bool (decide P))) ρ p q = if P then p else q := by
  by_cases h : P
  · rw [if_pos h, decide_eq_true h]; rfl
  · rw [if_neg h, decide_eq_false h]; rfl
@[simp] theorem testF_nd {p q : Fl} {P : Prop} [Decidable P] : testF (.ok (.bool (!decide P))) ρ p q = if P then q else p := by
  by_cases h : P
  · rw [if_pos h, decide_eq_true h]; rfl
  · rw [if_neg h, decide_eq_false h]; rfl
theorem testF_b {p q : Fl} {z : Bool} : testF (.ok (.bool z)) ρ p q = if z = true then p else q := id rfl
@[simp] theorem newSlot_t : newSlot true (.list ds) = .own ds := id rfl
@[simp] theorem newSlot_f : newSlot false d = .sh d := id rfl
@[simp] theorem listF_l {g : List D → Fl} : listF (.list ds) g = g ds := id rfl
@[simp] theorem intF_i {g : Int → Fl} {n : Int} : intF (.int n) g = g n := id rfl
@[simp] theorem unpD_t {is : List Nat} : unpD is (.tuple ds) ρ = optF (setAll is ds ρ) := id rfl
@[simp] theorem unpD_l {is : List Nat} : unpD is (.list ds) ρ = optF (setAll is ds ρ) := id rfl
@[simp] theorem setAll_nil : setAll [] [] ρ = some ρ := id rfl
@[simp] theorem setAll_cons {is : List Nat} : setAll (i :: is) (d :: ds) ρ = setAll is ds (ρ.set i (.sh d)) := id rfl
@[simp] theorem optF_s : optF (some ρ) = .nx ρ := id rfl
@[simp] theorem guardF_t {f : Fl} : guardF true f = f := id rfl
@[simp] theorem guard_t {α : Type} {r : Res α} : guard' true r = r := id rfl
@[simp] theorem setTg_one : setTg (.one i) d ρ = some (ρ.set i (.sh d)) := id rfl
@[simp] theorem setTg_tup {is : List Nat} : setTg (.tup is) (.tuple ds) ρ = setAll is ds ρ := id rfl
@[simp] theorem isFresh_lst : isFresh (.lst e) = true := id rfl
@[simp] theorem isFresh_cat : isFresh (.cat a b) = true := id rfl
@[simp] theorem isFresh_sl {z : Bool} {lo hi : E} : isFresh (.sl z a lo hi) = z := id rfl
@[simp] theorem isFresh_call {z : Bool} : isFresh (.call z j e) = z := id rfl
@[simp] theorem isFresh_callB : isFresh (.callB j e) = false := id rfl
@[simp] theorem isFresh_blt_list : isFresh (.blt .list e) = true := id rfl
@[simp] theorem isFresh_blt_sorted : isFresh (.blt .sorted e) = true := id rfl
@[simp] theorem isFresh_blt_maxT1 : isFresh (.blt .maxT1 e) = false := id rfl
@[simp] theorem isFresh_blt_maxT2 : isFresh (.blt .maxT2 e) = false := id rfl
@[simp] theorem isFresh_dkeys : isFresh (.dkeys i) = true := id rfl
@[simp] theorem isFresh_din {z : Bool} : isFresh (.din z i e) = false := id rfl
@[simp] theorem isFresh_dget : isFresh (.dget i e) = false := id rfl
@[simp] theorem isFresh_dgetO : isFresh (.dgetO i a b) = false := id rfl
@[simp] theorem isFresh_blt_tuple : isFresh (.blt .tuple e) = false := id rfl
@[simp] theorem isFresh_blt_len : isFresh (.blt .len e) = false := id rfl
@[simp] theorem isFresh_blt_int : isFresh (.blt .int e) = false := id rfl
@[simp] theorem isFresh_blt_str : isFresh (.blt .str e) = false := id rfl
@[simp] theorem isFresh_blt_strL : isFresh (.blt .strL e) = false := id rfl
@[simp] theorem isFresh_blt_abs : isFresh (.blt .abs e) = false := id rfl
@[simp] theorem isFresh_blt_sum : isFresh (.blt .sum e) = false := id rfl
@[simp] theorem isFresh_blt_max1 : isFresh (.blt .max1 e) = false := id rfl
@[simp] theorem isFresh_blt_min1 : isFresh (.blt .min1 e) = false := id rfl
@[simp] theorem isFresh_blt_max2 : isFresh (.blt .max2 e) = false := id rfl
@[simp] theorem isFresh_blt_min2 : isFresh (.blt .min2 e) = false := id rfl
@[simp] theorem isFresh_mth_join : isFresh (.mth .join a e) = false := id rfl
@[simp] theorem isFresh_comp {tg : Tg} {own : List Nat} : isFresh (.comp a tg b own) = true := id rfl
@[simp] theorem isFresh_compC {tg : Tg} {own : List Nat} : isFresh (.compC a tg b c own) = true := id rfl
@[simp] theorem isFresh_var : isFresh (.var i) = false := id rfl
@[simp] theorem isFresh_cst {q : Const} : isFresh (.cst q) = false := id rfl
@[simp] theorem isFresh_bin {o : Operator} : isFresh (.bin o a b) = false := id rfl
@[simp] theorem isFresh_idx : isFresh (.idx a b) = false := id rfl
@[simp] theorem isFresh_tup : isFresh (.tup a) = false := id rfl
@[simp] theorem isFresh_neg : isFresh (.neg a) = false := id rfl
@[simp] theorem isFresh_not : isFresh (.not a) = false := id rfl
@[simp] theorem isFresh_cmp {o : CmpOp} : isFresh (.cmp o a b) = false := id rfl
@[simp] theorem isFresh_and : isFresh (.and a b) = false := id rfl
@[simp] theorem isFresh_or : isFresh (.or a b) = false := id rfl
@[simp] theorem isFresh_ite : isFresh (.ite c a b) = false := id rfl
@[simp] theorem isFresh_chn {o o2 : CmpOp} : isFresh (.chn o o2 a b c) = false := id rfl
@[simp] theorem isFresh_isi {t : Ty} : isFresh (.isi t a) = false := id rfl
@[simp] theorem isFresh_glob : isFresh (.glob j) = false := id rfl

/-! ### expressions -/
@[simp] theorem ev_nil : ev Γ .nil m ρ = .ok (.tuple []) := id rfl
@[simp] theorem ev_cons : ev Γ (.cons e a) m ρ = (ev Γ e m ρ >>= fun d => tupOf (ev Γ a m ρ) fun ds => .ok (.tuple (d :: ds))) := id rfl
@[simp] theorem ev_var : ev Γ (.var i) m ρ = slot m ρ i := id rfl
@[simp] theorem ev_int {n : Int} : ev Γ (.cst (.int n)) m ρ = .ok (.int n) := id rfl
@[simp] theorem ev_str {n : Str} : ev Γ (.cst (.str n)) m ρ = .ok (.str n) := id rfl
@[simp] theorem ev_bool {n : Bool} : ev Γ (.cst (.bool n)) m ρ = .ok (.bool n) := id rfl
@[simp] theorem ev_none : ev Γ (.cst .none) m ρ = .ok .none := id rfl
@[simp] theorem ev_bin {o : Operator} : ev Γ (.bin o a b) m ρ = (ev Γ a true ρ >>= fun x => ev Γ b true ρ >>= fun y => binD o x y) := id rfl
@[simp] theorem ev_cat : ev Γ (.cat a b) m ρ = (lsOf a (ev Γ a true ρ) ρ >>= fun x => lsOf b (ev Γ b true ρ) ρ >>= fun y => catD x y) := id rfl
@[simp] theorem ev_neg : ev Γ (.neg a) m ρ = (ev Γ a true ρ >>= negD) := id rfl
@[simp] theorem ev_not : ev Γ (.not a) m ρ = (ev Γ a true ρ >>= notD) := id rfl
@[simp] theorem ev_cmp {o : CmpOp} : ev Γ (.cmp o a b) m ρ = (ev Γ a true ρ >>= fun x => ev Γ b true ρ >>= fun y => cmpD o x y) := id rfl
@[simp] theorem ev_chn {o o2 : CmpOp} : ev Γ (.chn o o2 a b c) m ρ = (ev Γ a true ρ >>= fun x => ev Γ b true ρ >>= fun y => cmpB o x y >>= fun k => if k = true then ev Γ c true ρ >>= fun z => cmpD o2 y z else .ok (.bool false)) := id rfl
@[simp] theorem ev_and : ev Γ (.and a b) m ρ = boolOf (ev Γ a true ρ) fun k => if k = true then boolOf (ev Γ b true ρ) fun k => .ok (.bool k) else .ok (.bool false) := id rfl
@[simp] theorem ev_or : ev Γ (.or a b) m ρ = boolOf (ev Γ a true ρ) fun k => if k = true then .ok (.bool true) else boolOf (ev Γ b true ρ) fun k => .ok (.bool k) := id rfl
@[simp] theorem ev_ite : ev Γ (.ite c a b) m ρ = boolOf (ev Γ c true ρ) fun k => if k = true then ev Γ a false ρ else ev Γ b false ρ := id rfl
@[simp] theorem ev_tup : ev Γ (.tup a) m ρ = tupOf (ev Γ a false ρ) fun ds => .ok (.tuple ds) := id rfl
@[simp] theorem ev_lst : ev Γ (.lst a) m ρ = tupOf (ev Γ a false ρ) fun ds => .ok (.list ds) := id rfl
@[simp] theorem ev_idx : ev Γ (.idx a b) m ρ = (ev Γ a true ρ >>= fun x => ev Γ b true ρ >>= fun y => idxD x y) := id rfl
@[simp] theorem ev_sl {z : Bool} {lo hi : E} : ev Γ (.sl z a lo hi) m ρ = (ev Γ a true ρ >>= fun x => optE lo (ev Γ lo true ρ) fun l => optE hi (ev Γ hi true ρ) fun h => slD z x l h) := id rfl
@[simp] theorem ev_call {z : Bool} : ev Γ (.call z j e) m ρ = tupOf (ev Γ e false ρ) fun ds => callD Γ j ds := id rfl
@[simp] theorem ev_callB : ev Γ (.callB j e) m ρ = tupOf (ev Γ e true ρ) fun ds => callD Γ j ds >>= fun d => guard' (atom d) (.ok d) := id rfl
@[simp] theorem ev_blt {t : Bi} : ev Γ (.blt t e) m ρ = tupOf (ev Γ e true ρ) fun ds => bltD t ds := id rfl
@[simp] theorem ev_isi {t : Ty} : ev Γ (.isi t a) m ρ = (ev Γ a true ρ >>= isiD t) := id rfl
@[simp] theorem ev_mth {t : Mt} : ev Γ (.mth t a e) m ρ = (ev Γ a true ρ >>= fun x => guard' (rcv t x) (ev Γ e true ρ >>= fun y => mthD t x y)) := id rfl
@[simp] theorem ev_comp {tg : Tg} {own : List Nat} : ev Γ (.comp a tg b own) m ρ = (ev Γ b true ρ >>= fun xs => compD (fun d => turn1 tg (wipeR ρ own) d fun ρ' => ev Γ a false ρ' >>= fun y => .ok (some y)) xs) := id rfl
@[simp] theorem ev_compC {tg : Tg} {own : List Nat} : ev Γ (.compC a tg b c own) m ρ = (ev Γ b true ρ >>= fun xs => compD (fun d => turn1 tg (wipeR ρ own) d fun ρ' => ev Γ c true ρ' >>= fun k => turn2 k (ev Γ a false ρ' >>= fun y => .ok (some y))) xs) := id rfl
@[simp] theorem ev_iseq : ev Γ (.iseq a) m ρ = (ev Γ a m ρ >>= fun x => optL (seqOf x)) := id rfl
@[simp] theorem ev_istr : ev Γ (.istr a) m ρ = (ev Γ a m ρ >>= fun x => optL (itStr x)) := id rfl
@[simp] theorem ev_irng : ev Γ (.irng a) m ρ = tupOf (ev Γ a true ρ) rngD := id rfl
@[simp] theorem ev_ienum : ev Γ (.ienum a) m ρ = (ev Γ a m ρ >>= fun x => optL (itEnum x)) := id rfl
@[simp] theorem ev_izip : ev Γ (.izip a b) m ρ = (ev Γ a m ρ >>= fun x => ev Γ b m ρ >>= fun y => optL (itZip x y)) := id rfl
@[simp] theorem ev_irev : ev Γ (.irev a) m ρ = (ev Γ a m ρ >>= fun x => optL (itRev x)) := id rfl
@[simp] theorem ev_din {z : Bool} : ev Γ (.din z i a) m ρ = slotD ρ i fun kvs => ev Γ a false ρ >>= fun k => guard' (keyOk k) (.ok (.bool (xor z (dcGet kvs k).isSome))) := id rfl
@[simp] theorem ev_dget : ev Γ (.dget i a) m ρ = slotD ρ i fun kvs => ev Γ a false ρ >>= fun k => guard' (keyOk k) (dgetR (dcGet kvs k)) := id rfl
@[simp] theorem ev_dgetO : ev Γ (.dgetO i a b) m ρ = slotD ρ i fun kvs => ev Γ a false ρ >>= fun k => ev Γ b false ρ >>= fun x => guard' (keyOk k) (.ok ((dcGet kvs k).getD x)) := id rfl
@[simp] theorem ev_dkeys : ev Γ (.dkeys i) m ρ = slotD ρ i fun kvs => guard' (decide (kvs.length ≤ lim)) (.ok (.list (kvs.map (·.1)))) := id rfl
@[simp] theorem tupOf_t {g : List D → Res D} : tupOf (.ok (.tuple ds)) g = g ds := id rfl
@[simp] theorem boolOf_b {g : Bool → Res D} {z : Bool} : boolOf (.ok (.bool z)) g = g z := id rfl
@[simp] theorem lsOf_var {r : Res D} : lsOf (.var i) r ρ = slotOwn ρ i := id rfl
@[simp] theorem lsOf_lst {r : Res D} : lsOf (.lst a) r ρ = r := id rfl
@[simp] theorem lsOf_cat {r : Res D} : lsOf (.cat a b) r ρ = r := id rfl
@[simp] theorem lsOf_sl {r : Res D} {z : Bool} {lo hi : E} : lsOf (.sl z a lo hi) r ρ = r := id rfl
@[simp] theorem lsOf_call {r : Res D} {z : Bool} : lsOf (.call z j e) r ρ = r := id rfl
@[simp] theorem lsOf_comp {r : Res D} {tg : Tg} {own : List Nat} : lsOf (.comp a tg b own) r ρ = r := id rfl
@[simp] theorem lsOf_compC {r : Res D} {tg : Tg} {own : List Nat} : lsOf (.compC a tg b c own) r ρ = r := id rfl
@[simp] theorem lsOf_blt {r : Res D} {t : Bi} : lsOf (.blt t a) r ρ = r := id rfl
@[simp] theorem optE_non {r : Res D} {g : Option Int → Res D} : optE .non r g = g none := id rfl
@[simp] theorem optE_cst {r : Res D} {g : Option Int → Res D} {q : Const} : optE (.cst q) r g = (r >>= fun d => intR d fun i => g (some i)) := id rfl
@[simp] theorem optE_var {r : Res D} {g : Option Int → Res D} : optE (.var i) r g = (r >>= fun d => intR d fun i => g (some i)) := id rfl
@[simp] theorem optE_bin {r : Res D} {g : Option Int → Res D} {o : Operator} : optE (.bin o a b) r g = (r >>= fun d => intR d fun i => g (some i)) := id rfl
@[simp] theorem optE_neg {r : Res D} {g : Option Int → Res D} : optE (.neg a) r g = (r >>= fun d => intR d fun i => g (some i)) := id rfl
@[simp] theorem optE_idx {r : Res D} {g : Option Int → Res D} : optE (.idx a b) r g = (r >>= fun d => intR d fun i => g (some i)) := id rfl
@[simp] theorem optE_blt {r : Res D} {g : Option Int → Res D} {t : Bi} : optE (.blt t a) r g = (r >>= fun d => intR d fun i => g (some i)) := id rfl
@[simp] theorem optE_call {r : Res D} {g : Option Int → Res D} {z : Bool} : optE (.call z j a) r g = (r >>= fun d => intR d fun i => g (some i)) := id rfl
@[simp] theorem intR_i {g : Int → Res D} {n : Int} : intR (.int n) g = g n := id rfl
@[simp] theorem optL_some : optL (some ds) = .ok (.list ds) := id rfl
@[simp] theorem seqOf_list : seqOf (.list ds) = some ds := id rfl
@[simp] theorem seqOf_tuple : seqOf (.tuple ds) = some ds := id rfl
@[simp] theorem turn1_one {g : Sl → Res (Option D)} : turn1 (.one i) ρ d g = g (ρ.set i (.sh d)) := id rfl
theorem turn1_tup {is : List Nat} {g : Sl → Res (Option D)} : turn1 (.tup is) ρ (.tuple ds) g = (match setAll is ds ρ with
  | some ρ' => g ρ'
  | none => .bad) := rfl
@[simp] theorem turn2_b {z : Bool} {q : Res (Option D)} : turn2 (.bool z) q = if z = true then q else .ok none := id rfl
@[simp] theorem wipeR_nil : wipeR ρ [] = ρ := id rfl
@[simp] theorem wipeR_cons {v : Nat} {vs : List Nat} : wipeR ρ (v :: vs) = (wipeR ρ vs).set v .un := id rfl

/-! ### values -/
variable {n q : Int} {zs ws : Str}
@[simp] theorem bin_add : binD .Add (.int n) (.int q) = .ok (.int (n + q)) := id rfl
@[simp] theorem bin_sub : binD .Sub (.int n) (.int q) = .ok (.int (n - q)) := id rfl
@[simp] theorem bin_mul : binD .Mult (.int n) (.int q) = mulD n q := id rfl
@[simp] theorem bin_fdiv : binD .FloorDiv (.int n) (.int q) = fdivD n q := id rfl
@[simp] theorem bin_mod : binD .Mod (.int n) (.int q) = modD n q := id rfl
@[simp] theorem bin_pow : binD .Pow (.int n) (.int q) = powD n q := id rfl
theorem mul_ok_l (h1 : -18446744073709551616 < n) (h2 : n < 18446744073709551616) : mulD n q = .ok (.int (n * q)) := by
  unfold mulD mulOk
  rw [decide_eq_true (Or.inl ⟨h1, h2⟩)]
  rfl
theorem mul_ok_r (h1 : -18446744073709551616 < q) (h2 : q < 18446744073709551616) : mulD n q = .ok (.int (n * q)) := by
  unfold mulD mulOk
  rw [decide_eq_true (Or.inr ⟨h1, h2⟩)]
  rfl
theorem fdiv_ok (h1 : 0 < q) (h2 : q < 1606938044258990275541962092341162602522202993782792835301376) : fdivD n q = .ok (.int (n / q)) := by
  unfold fdivD
  have h : q.natAbs.log2 < 9000 := by
    have h3 : q.natAbs < 2 ^ 200 := by
      have : q.natAbs < 1606938044258990275541962092341162602522202993782792835301376 := by omega
      exact this
    have h4 : q.natAbs.log2 < 200 := (Nat.log2_lt (by omega)).mpr h3
    omega
  rw [decide_eq_true ⟨h1, h⟩]
  rfl
theorem fdiv_okL (h1 : 0 < q) (h : q.natAbs.log2 < 9000) : fdivD n q = .ok (.int (n / q)) := by
  unfold fdivD
  rw [decide_eq_true ⟨h1, h⟩]
  rfl
theorem mul_okB (h : mulOk n q = true) : mulD n q = .ok (.int (n * q)) := by
  unfold mulD
  rw [h]; rfl
theorem pow_ok (h0 : 0 ≤ q) (h1 : q ≤ 1000000) (h2 : n.natAbs < 18446744073709551616) : powD n q = .ok (.int (n ^ q.toNat)) := by
  unfold powD
  rw [decide_eq_true ⟨h0, h1, h2⟩]; rfl
theorem pow_okL (h0 : 0 ≤ q) (h1 : (Builtin.Int.intBits n : Int) * q ≤ 134217728) : powD n q = .ok (.int (n ^ q.toNat)) := by
  unfold powD
  rw [show decide (0 ≤ q ∧ (Builtin.Int.intBits n : Int) * q ≤ 2 ^ 27) = true from decide_eq_true ⟨h0, h1⟩, Bool.or_true]; rfl
theorem mod_ok (h1 : 0 < q) : modD n q = .ok (.int (n % q)) := by
  unfold modD
  rw [decide_eq_true h1]
  rfl
@[simp] theorem neg_int : negD (.int n) = .ok (.int (-n)) := id rfl
@[simp] theorem not_bool {z : Bool} : notD (.bool z) = .ok (.bool (!z)) := id rfl
@[simp] theorem cmpD_eq {o : CmpOp} : cmpD o x y = (cmpB o x y >>= fun b => .ok (.bool b)) := id rfl
@[simp] theorem cmp_lt : cmpB .Lt (.int n) (.int q) = .ok (decide (n < q)) := id rfl
@[simp] theorem cmp_le : cmpB .LtE (.int n) (.int q) = .ok (decide (n ≤ q)) := id rfl
@[simp] theorem cmp_gt : cmpB .Gt (.int n) (.int q) = .ok (decide (q < n)) := id rfl
@[simp] theorem cmp_ge : cmpB .GtE (.int n) (.int q) = .ok (decide (q ≤ n)) := id rfl
@[simp] theorem cmp_eq : cmpB .Eq (.int n) (.int q) = .ok (decide (n = q)) := by
  show eqD (.int n) (.int q) = _
  unfold eqD
  show (if scal (.int n) (.int q) = true then Res.ok (decide ((V.int n) = V.int q)) else _) = _
  rw [if_pos (show scal (V.int n) (V.int q) = true from rfl)]
  congr 1
  exact decide_eq_decide.mpr ⟨fun e => V.int.inj e, fun e => by rw [e]⟩
@[simp] theorem cmp_ne : cmpB .NotEq (.int n) (.int q) = .ok (!decide (n = q)) := by
  have e : cmpB .NotEq (.int n) (.int q) = (cmpB .Eq (.int n) (.int q) >>= fun b => .ok (!b)) := rfl
  rw [e, cmp_eq]
  rfl
@[simp] theorem cmp_eqS : cmpB .Eq (.str zs) (.str ws) = .ok (decide (zs = ws)) := by
  show eqD (.str zs) (.str ws) = _
  unfold eqD
  show (if scal (.str zs) (.str ws) = true then Res.ok (decide ((V.str zs) = V.str ws)) else _) = _
  rw [if_pos (show scal (V.str zs) (V.str ws) = true from rfl)]
  congr 1
  exact decide_eq_decide.mpr ⟨fun e => V.str.inj e, fun e => by rw [e]⟩
@[simp] theorem cmp_neS : cmpB .NotEq (.str zs) (.str ws) = .ok (!decide (zs = ws)) := by
  have e : cmpB .NotEq (.str zs) (.str ws) = (cmpB .Eq (.str zs) (.str ws) >>= fun b => .ok (!b)) := rfl
  rw [e, cmp_eqS]
  rfl
@[simp] theorem cmp_eqB {z w : Bool} : cmpB .Eq (.bool z) (.bool w) = .ok (decide (z = w)) := by
  show eqD (.bool z) (.bool w) = _
  unfold eqD
  show (if scal (.bl z) (.bl w) = true then Res.ok (decide ((V.bl z) = V.bl w)) else _) = _
  rw [if_pos (show scal (V.bl z) (V.bl w) = true from rfl)]
  congr 1
  exact decide_eq_decide.mpr ⟨fun e => V.bl.inj e, fun e => by rw [e]⟩
@[simp] theorem cmp_neB {z w : Bool} : cmpB .NotEq (.bool z) (.bool w) = .ok (!decide (z = w)) := by
  have e : cmpB .NotEq (.bool z) (.bool w) = (cmpB .Eq (.bool z) (.bool w) >>= fun b => .ok (!b)) := rfl
  rw [e, cmp_eqB]
  rfl
theorem cmp_isN {x : D} : cmpB .Is x .none = .ok (isNone x) := id rfl
theorem cmp_notN {x : D} : cmpB .IsNot x .none = .ok (!isNone x) := id rfl
@[simp] theorem isNone_none : isNone .none = true := id rfl
@[simp] theorem isNone_int {n : Int} : isNone (.int n) = false := id rfl
@[simp] theorem isNone_tup {ds : List D} : isNone (.tuple ds) = false := id rfl
@[simp] theorem isNone_list {ds : List D} : isNone (.list ds) = false := id rfl
@[simp] theorem isNone_str {s : Str} : isNone (.str s) = false := id rfl
@[simp] theorem blt_one_len : bltD .len [x] = lenD x := id rfl
@[simp] theorem blt_one_list : bltD .list [x] = listD x := id rfl
@[simp] theorem blt_one_tuple : bltD .tuple [x] = tupleD x := id rfl
@[simp] theorem blt_one_int : bltD .int [x] = intD x := id rfl
@[simp] theorem blt_one_str : bltD .str [x] = strD x := id rfl
@[simp] theorem blt_one_strL : bltD .strL [x] = strLD x := id rfl
@[simp] theorem blt_one_abs : bltD .abs [.int n] = .ok (.int (if n < 0 then -n else n)) := id rfl
@[simp] theorem len_list : lenD (.list ds) = .ok (.int ds.length) := id rfl
@[simp] theorem len_tuple : lenD (.tuple ds) = .ok (.int ds.length) := id rfl
@[simp] theorem list_of : listD (.list ds) = .ok (.list ds) := id rfl
@[simp] theorem list_ofT : listD (.tuple ds) = .ok (.list ds) := id rfl
@[simp] theorem tuple_of : tupleD (.list ds) = .ok (.tuple ds) := id rfl
@[simp] theorem tuple_ofT : tupleD (.tuple ds) = .ok (.tuple ds) := id rfl
@[simp] theorem int_of : intD (.int n) = .ok (.int n) := id rfl
@[simp] theorem int_ofB {z : Bool} : intD (.bool z) = .ok (.int (if z = true then 1 else 0)) := by cases z <;> rfl
@[simp] theorem blt_max2 : bltD .max2 [.int n, .int q] = .ok (.int (max n q)) := by
  show (.ok (.int (if q > n then q else n)) : Res D) = _
  congr 2
  split <;> omega
@[simp] theorem blt_min2 : bltD .min2 [.int n, .int q] = .ok (.int (min n q)) := by
  show (.ok (.int (if q < n then q else n)) : Res D) = _
  congr 2
  split <;> omega
theorem intsOf_map : ∀ {l : List Int}, intsOf (l.map PyData.int) = some l
  | [] => rfl
  | a :: l => by
    show (intsOf (l.map PyData.int)).map (a :: ·) = _
    rw [intsOf_map]; rfl
theorem boolsOf_map : ∀ {l : List Bool}, boolsOf (l.map PyData.bool) = some l
  | [] => rfl
  | a :: l => by
    show (boolsOf (l.map PyData.bool)).map (a :: ·) = _
    rw [boolsOf_map]; rfl
theorem strsOf_map : ∀ {l : List Str}, strsOf (l.map PyData.str) = some l
  | [] => rfl
  | a :: l => by
    show (strsOf (l.map PyData.str)).map (a :: ·) = _
    rw [strsOf_map]; rfl
@[simp] theorem blt_sum {l : List Int} : bltD .sum [.list (l.map PyData.int)] = .ok (.int l.sum) := by
  show (match intsOf (l.map PyData.int) with
    | some ns => .ok (.int ns.sum)
    | none => .bad : Res D) = _
  rw [intsOf_map]
@[simp] theorem blt_sumT {l : List Int} : bltD .sum [.tuple (l.map PyData.int)] = .ok (.int l.sum) := by
  show (match intsOf (l.map PyData.int) with
    | some ns => .ok (.int ns.sum)
    | none => .bad : Res D) = _
  rw [intsOf_map]
@[simp] theorem blt_all {l : List Bool} : bltD .all [.list (l.map PyData.bool)] = .ok (.bool (l.all id)) := by
  show (match boolsOf (l.map PyData.bool) with
    | some ns => .ok (.bool (ns.all id))
    | none => .bad : Res D) = _
  rw [boolsOf_map]
@[simp] theorem blt_any {l : List Bool} : bltD .any [.list (l.map PyData.bool)] = .ok (.bool (l.any id)) := by
  show (match boolsOf (l.map PyData.bool) with
    | some ns => .ok (.bool (ns.any id))
    | none => .bad : Res D) = _
  rw [boolsOf_map]
theorem blt_max1 {l : List Int} (h : l ≠ []) : bltD .max1 [.list (l.map PyData.int)] = .ok (.int (maxOf l)) := by
  show (match intsOf (l.map PyData.int) with
    | some ns => guard' (!ns.isEmpty) (.ok (.int (maxOf ns)))
    | none => .bad : Res D) = _
  rw [intsOf_map]
  cases l with
  | nil => exact absurd rfl h
  | cons a l => rfl
theorem blt_min1 {l : List Int} (h : l ≠ []) : bltD .min1 [.list (l.map PyData.int)] = .ok (.int (minOf l)) := by
  show (match intsOf (l.map PyData.int) with
    | some ns => guard' (!ns.isEmpty) (.ok (.int (minOf ns)))
    | none => .bad : Res D) = _
  rw [intsOf_map]
  cases l with
  | nil => exact absurd rfl h
  | cons a l => rfl
@[simp] theorem isi_int_int : isiD .int (.int n) = .ok (.bool true) := id rfl
@[simp] theorem isi_bool_int : isiD .bool (.int n) = .ok (.bool false) := id rfl
@[simp] theorem isi_tuple_tuple : isiD .tuple (.tuple ds) = .ok (.bool true) := id rfl
@[simp] theorem isi_list_list : isiD .list (.list ds) = .ok (.bool true) := id rfl
@[simp] theorem isi_bool_bool {z : Bool} : isiD .bool (.bool z) = .ok (.bool true) := id rfl
@[simp] theorem isi_str_str : isiD .str (.str zs) = .ok (.bool true) := id rfl
@[simp] theorem isi_bool_tuple : isiD .bool (.tuple ds) = .ok (.bool false) := id rfl
@[simp] theorem isi_bool_list : isiD .bool (.list ds) = .ok (.bool false) := id rfl
/-! items -/
theorem atI_nat {α : Type} {l : List α} {n : Int} (h0 : 0 ≤ n) (h1 : n < l.length) : atI l n = l[n.toNat]? := by
  unfold atI
  have e : ixN l.length n = some n.toNat := by
    unfold ixN
    rw [if_pos h0, if_pos h1]
  rw [e]; rfl
end
end Rf

/-! Rf: reflection. Part Q: what is wanted behind a statement; loops; comprehensions; cuts. -/
namespace Rf
open PySem L2
/-- n: behind it; c: at continue; b: at break; r: of what is handed back -/
def WpD (f : Fl) (n c b : Sl → Prop) (r : D → Prop) : Prop := match f with
  | .nx ρ => n ρ
  | .ct ρ => c ρ
  | .brk ρ => b ρ
  | .ret d => r d
  | _ => False
structure Wp (f : Fl) (n c b : Sl → Prop) (r : D → Prop) : Prop where
  h : WpD f n c b r
abbrev No : Sl → Prop := fun _ => False
section
variable {Γ : Ctx} {fr : Fr} {ρ ρ' : Sl} {k : Sl → Fl} {m : Bool} {d x y : D} {ds es : List D} {e : E} {s s2 : S} {i j : Nat} {n c b : Sl → Prop} {r : D → Prop} {f : Fl}
@[simp] theorem Wp_nx : Wp (.nx ρ) n c b r = n ρ := propext ⟨fun h => h.h, fun h => ⟨h⟩⟩
@[simp] theorem Wp_ct : Wp (.ct ρ) n c b r = c ρ := propext ⟨fun h => h.h, fun h => ⟨h⟩⟩
@[simp] theorem Wp_brk : Wp (.brk ρ) n c b r = b ρ := propext ⟨fun h => h.h, fun h => ⟨h⟩⟩
@[simp] theorem Wp_ret : Wp (.ret d) n c b r = r d := propext ⟨fun h => h.h, fun h => ⟨h⟩⟩
@[simp] theorem Wp_bad : Wp .bad n c b r = False := propext ⟨fun h => h.h, fun h => h.elim⟩
theorem Wp_exc {e : Exc} : Wp (.exc e ρ) n c b r = False := propext ⟨fun h => h.h, fun h => h.elim⟩
theorem Wp_seq : Wp (seqF f k) n c b r = Wp f (fun ρ => Wp (k ρ) n c b r) c b r := by
  cases f with
  | exc e ρ => rw [Wp_exc]; exact Wp_exc
  | bad => rw [Wp_bad]; exact Wp_bad
  | _ => simp
@[simp] theorem Wp_ite {P : Prop} [Decidable P] {f g : Fl} : Wp (if P then f else g) n c b r = if P then Wp f n c b r else Wp g n c b r := by split <;> rfl
theorem Wp.imp {n' c' b' : Sl → Prop} {r' : D → Prop} (h : Wp f n c b r) (h1 : ∀ ρ, n ρ → n' ρ) (h2 : ∀ ρ, c ρ → c' ρ) (h3 : ∀ ρ, b ρ → b' ρ) (h4 : ∀ d, r d → r' d) : Wp f n' c' b' r' := by
  cases f with
  | nx ρ => exact ⟨h1 ρ h.h⟩
  | ct ρ => exact ⟨h2 ρ h.h⟩
  | brk ρ => exact ⟨h3 ρ h.h⟩
  | ret d => exact ⟨h4 d h.h⟩
  | exc e ρ => exact h.h.elim
  | bad => exact h.h.elim
/-- what is to come: unfolded at once -/
structure Kx (Γ : Ctx) (fr : Fr) (s : S) (n c b : Sl → Prop) (r : D → Prop) (ρ : Sl) : Prop where
  h : Wp (exec Γ fr s ρ) n c b r
/-- what is to come: behind a fork or a loop; unfolded by hand (simp [Kf_eq]) -/
structure Kf (Γ : Ctx) (fr : Fr) (s : S) (n c b : Sl → Prop) (r : D → Prop) (ρ : Sl) : Prop where
  h : Wp (exec Γ fr s ρ) n c b r
theorem Kx_eq : Kx Γ fr s n c b r = fun ρ => Wp (exec Γ fr s ρ) n c b r := funext fun _ => propext ⟨fun h => h.h, fun h => ⟨h⟩⟩
theorem Kf_eqF : Kf Γ fr s n c b r = fun ρ => Wp (exec Γ fr s ρ) n c b r := funext fun _ => propext ⟨fun h => h.h, fun h => ⟨h⟩⟩
theorem Kf_eq : Kf Γ fr s n c b r ρ = Wp (exec Γ fr s ρ) n c b r := by rw [Kf_eqF]
@[simp] theorem Kx_cons {u : Slot} : Kx Γ fr s n c b r (u :: ρ) = Wp (exec Γ fr s (u :: ρ)) n c b r := by rw [Kx_eq]
theorem wp_seq {s s2 : S} : Wp (exec Γ fr (.seq s s2) ρ) n c b r = Wp (exec Γ fr s ρ) (Kx Γ fr s2 n c b r) c b r := by
  rw [exec_seq, Wp_seq, Kx_eq]
theorem wp_seqF {s s2 : S} : Wp (exec Γ fr (.seq s s2) ρ) n c b r = Wp (exec Γ fr s ρ) (Kf Γ fr s2 n c b r) c b r := by
  rw [exec_seq, Wp_seq, Kf_eqF]
section
variable {is : List Nat} {e2 : E} {tg : Tg} {s3 : S}
@[simp] theorem wp_asg : Wp (exec Γ fr (.seq (.asg i e) s2) ρ) n c b r = Wp (exec Γ fr (.asg i e) ρ) (Kx Γ fr s2 n c b r) c b r := wp_seq
@[simp] theorem wp_unp : Wp (exec Γ fr (.seq (.unp is e) s2) ρ) n c b r = Wp (exec Γ fr (.unp is e) ρ) (Kx Γ fr s2 n c b r) c b r := wp_seq
@[simp] theorem wp_unpC : Wp (exec Γ fr (.seq (.unpC is j e) s2) ρ) n c b r = Wp (exec Γ fr (.unpC is j e) ρ) (Kx Γ fr s2 n c b r) c b r := wp_seq
@[simp] theorem wp_par : Wp (exec Γ fr (.seq (.par i j e e2) s2) ρ) n c b r = Wp (exec Γ fr (.par i j e e2) ρ) (Kx Γ fr s2 n c b r) c b r := wp_seq
@[simp] theorem wp_setIx : Wp (exec Γ fr (.seq (.setIx i e e2) s2) ρ) n c b r = Wp (exec Γ fr (.setIx i e e2) ρ) (Kx Γ fr s2 n c b r) c b r := wp_seq
@[simp] theorem wp_app : Wp (exec Γ fr (.seq (.app i e) s2) ρ) n c b r = Wp (exec Γ fr (.app i e) ρ) (Kx Γ fr s2 n c b r) c b r := wp_seq
@[simp] theorem wp_ext : Wp (exec Γ fr (.seq (.ext i e) s2) ρ) n c b r = Wp (exec Γ fr (.ext i e) ρ) (Kx Γ fr s2 n c b r) c b r := wp_seq
@[simp] theorem wp_dnew : Wp (exec Γ fr (.seq (.dnew i) s2) ρ) n c b r = Wp (exec Γ fr (.dnew i) ρ) (Kx Γ fr s2 n c b r) c b r := wp_seq
@[simp] theorem wp_dput : Wp (exec Γ fr (.seq (.dput i e e2) s2) ρ) n c b r = Wp (exec Γ fr (.dput i e e2) ρ) (Kx Γ fr s2 n c b r) c b r := wp_seq
@[simp] theorem wp_clr : Wp (exec Γ fr (.seq (.clr i) s2) ρ) n c b r = Wp (exec Γ fr (.clr i) ρ) (Kx Γ fr s2 n c b r) c b r := wp_seq
@[simp] theorem wp_frz : Wp (exec Γ fr (.seq (.frz i) s2) ρ) n c b r = Wp (exec Γ fr (.frz i) ρ) (Kx Γ fr s2 n c b r) c b r := wp_seq
@[simp] theorem wp_ret : Wp (exec Γ fr (.seq (.ret e) s2) ρ) n c b r = Wp (exec Γ fr (.ret e) ρ) (Kf Γ fr s2 n c b r) c b r := wp_seqF
@[simp] theorem wp_retN : Wp (exec Γ fr (.seq .retN s2) ρ) n c b r = Wp (exec Γ fr .retN ρ) (Kf Γ fr s2 n c b r) c b r := wp_seqF
@[simp] theorem wp_brk_ : Wp (exec Γ fr (.seq .brk s2) ρ) n c b r = b ρ := by rw [wp_seq, exec_brk, Wp_brk]
@[simp] theorem wp_cont_ : Wp (exec Γ fr (.seq .cont s2) ρ) n c b r = c ρ := by rw [wp_seq, exec_cont, Wp_ct]
@[simp] theorem wp_ifs : Wp (exec Γ fr (.seq (.ifs e s s3) s2) ρ) n c b r = Wp (exec Γ fr (.ifs e s s3) ρ) (Kf Γ fr s2 n c b r) c b r := wp_seqF
@[simp] theorem wp_whl_ : Wp (exec Γ fr (.seq (.whl e s) s2) ρ) n c b r = Wp (exec Γ fr (.whl e s) ρ) (Kf Γ fr s2 n c b r) c b r := wp_seqF
@[simp] theorem wp_for_ : Wp (exec Γ fr (.seq (.fr tg e s) s2) ρ) n c b r = Wp (exec Γ fr (.fr tg e s) ρ) (Kf Γ fr s2 n c b r) c b r := wp_seqF
end
theorem run_wp {kk : Nat} {P : D → Prop} (h : Wp (exec Γ fr s (ds.map Slot.sh ++ List.replicate (kk - ds.length) .un)) No No No P) : ∃ d, run Γ fr kk s ds = .ok d ∧ P d := by
  unfold run
  cases q : exec Γ fr s (ds.map Slot.sh ++ List.replicate (kk - ds.length) .un) with
  | ret d => rw [q] at h; exact ⟨d, rfl, h.h⟩
  | nx ρ => rw [q] at h; exact h.h.elim
  | ct ρ => rw [q] at h; exact h.h.elim
  | brk ρ => rw [q] at h; exact h.h.elim
  | exc e ρ => rw [q] at h; exact h.h.elim
  | bad => rw [q] at h; exact h.h.elim
theorem run_eq {kk : Nat} (h : Wp (exec Γ fr s (ds.map Slot.sh ++ List.replicate (kk - ds.length) .un)) No No No (fun z => z = d)) : run Γ fr kk s ds = .ok d := by
  obtain ⟨z, e, rfl⟩ := run_wp h
  exact e
/-- a def that may end without return -/
theorem run_wpN {kk : Nat} {P : D → Prop} (h : Wp (exec Γ .sh s (ds.map Slot.sh ++ List.replicate (kk - ds.length) .un)) (fun _ => P .none) No No P) : ∃ d, run Γ .sh kk s ds = .ok d ∧ P d := by
  unfold run
  cases q : exec Γ .sh s (ds.map Slot.sh ++ List.replicate (kk - ds.length) .un) with
  | ret d => rw [q] at h; exact ⟨d, rfl, h.h⟩
  | nx ρ => rw [q] at h; exact ⟨.none, rfl, h.h⟩
  | ct ρ => rw [q] at h; exact h.h.elim
  | brk ρ => rw [q] at h; exact h.h.elim
  | exc e ρ => rw [q] at h; exact h.h.elim
  | bad => rw [q] at h; exact h.h.elim

/-! ### slots -/
def slotV (m : Bool) : Slot → Res D
  | .sh d => .ok d
  | .own ds => guard' m (.ok (.list ds))
  | .un => .bad
  | .dic _ => .bad
variable {u : Slot}
@[simp] theorem slotV_sh : slotV m (.sh d) = .ok d := id rfl
@[simp] theorem slotV_own : slotV true (.own ds) = .ok (.list ds) := id rfl
@[simp] theorem slot_zero : slot m (u :: ρ) 0 = slotV m u := by cases u <;> rfl
@[simp] theorem slot_succ : slot m (u :: ρ) (i + 1) = slot m ρ i := id rfl
@[simp] theorem slotOwn_zero : slotOwn (.own ds :: ρ) 0 = .ok (.list ds) := id rfl
@[simp] theorem slotOwn_succ : slotOwn (u :: ρ) (i + 1) = slotOwn ρ i := id rfl
def overK : List Slot → Nat → (List D → Fl) → Fl
  | [], _, _ => .bad
  | u :: _, 0, g => (match u with
    | .own ds => g ds
    | _ => .bad)
  | _ :: ρ, i + 1, g => overK ρ i g
theorem overOwn_k {g : List D → Fl} : ∀ {ρ : Sl} {i : Nat}, overOwn ρ i g = overK ρ i g
  | [], i => by unfold overOwn; rw [List.getElem?_nil]; rfl
  | u :: ρ, 0 => by cases u <;> rfl
  | u :: ρ, i + 1 => by
    have e : overOwn (u :: ρ) (i + 1) g = overOwn ρ i g := rfl
    rw [e, overOwn_k]; rfl
@[simp] theorem overOwn_zero {g : List D → Fl} : overOwn (.own ds :: ρ) 0 g = g ds := id rfl
@[simp] theorem overOwn_succ {g : List D → Fl} : overOwn (u :: ρ) (i + 1) g = overOwn ρ i g := id rfl
@[simp] theorem overDic_zero {kvs : List (D × D)} {g : List (D × D) → Fl} : overDic (.dic kvs :: ρ) 0 g = g kvs := id rfl
@[simp] theorem overDic_succ {g : List (D × D) → Fl} : overDic (u :: ρ) (i + 1) g = overDic ρ i g := id rfl
@[simp] theorem slotD_zero {α : Type} {kvs : List (D × D)} {g : List (D × D) → Res α} : slotD (.dic kvs :: ρ) 0 g = g kvs := id rfl
@[simp] theorem slotD_succ {α : Type} {g : List (D × D) → Res α} : slotD (u :: ρ) (i + 1) g = slotD ρ i g := id rfl
@[simp] theorem frzS_zero : frzS 0 (.own ds :: ρ) = .sh (.list ds) :: ρ := id rfl
@[simp] theorem frzS_zeroS : frzS 0 (.sh d :: ρ) = .sh d :: ρ := id rfl
@[simp] theorem frzS_zeroU : frzS 0 (.un :: ρ) = .un :: ρ := id rfl
@[simp] theorem frzS_succ : frzS (i + 1) (u :: ρ) = u :: frzS i ρ := by
  unfold frzS
  rw [List.getElem?_cons_succ]
  cases q : ρ[i]? with
  | none => rfl
  | some v => cases v <;> rfl
@[simp] theorem No_eq : No ρ = False := id rfl
theorem guardF_lt {q : Nat} (h : q < 16777216) : guardF (decide (q < lim)) f = f := by
  rw [show decide (q < lim) = true from decide_eq_true h]; rfl
theorem guardF_le {q : Nat} (h : q ≤ 16777216) : guardF (decide (q ≤ lim)) f = f := by
  rw [show decide (q ≤ lim) = true from decide_eq_true h]; rfl

/-! ### loops -/
theorem wp_forL {tg : Tg} {bd : Sl → Fl} (I : Nat → Sl → Prop) (h0 : I 0 ρ) (step : ∀ i d ρ, ds[i]? = some d → I i ρ → ∃ ρ1, setTg tg d ρ = some ρ1 ∧ Wp (bd ρ1) (I (i + 1)) (I (i + 1)) n r)
    (fin : ∀ ρ, I ds.length ρ → n ρ) : Wp (forL tg bd ds ρ) n c b r := by
  have key : ∀ (l : List D) (k : Nat) (ρ : Sl), k + l.length = ds.length → (∀ j, l[j]? = ds[k + j]?) → I k ρ → Wp (forL tg bd l ρ) n c b r := by
    intro l
    induction l with
    | nil =>
      intro k ρ hl _ hI
      have e : k = ds.length := by simpa using hl
      subst e
      exact ⟨fin ρ hI⟩
    | cons d l ih =>
      intro k ρ hl hg hI
      obtain ⟨ρ1, e1, w⟩ := step k d ρ (by have := hg 0; rw [Nat.add_zero] at this; rw [← this]; rfl) hI
      have hn : ∀ ρ2, I (k + 1) ρ2 → Wp (forL tg bd l ρ2) n c b r := fun ρ2 h2 => ih (k + 1) ρ2 (by rw [List.length_cons] at hl; omega) (fun j => by
        have := hg (j + 1)
        rw [List.getElem?_cons_succ] at this
        rw [this, show k + 1 + j = k + (j + 1) by omega]) h2
      show Wp (match setTg tg d ρ with
        | some ρ1 => (match bd ρ1 with
          | .nx ρ' => forL tg bd l ρ'
          | .ct ρ' => forL tg bd l ρ'
          | .brk ρ' => .nx ρ'
          | .ret d => .ret d
          | .exc e ρ' => .exc e ρ'
          | .bad => .bad)
        | none => .bad) n c b r
      rw [e1]
      show Wp (match bd ρ1 with
          | .nx ρ' => forL tg bd l ρ'
          | .ct ρ' => forL tg bd l ρ'
          | .brk ρ' => .nx ρ'
          | .ret d => .ret d
          | .exc e ρ' => .exc e ρ'
          | .bad => .bad) n c b r
      cases q : bd ρ1 with
      | nx ρ2 => rw [q] at w; exact hn ρ2 w.h
      | ct ρ2 => rw [q] at w; exact hn ρ2 w.h
      | brk ρ2 => rw [q] at w; exact ⟨w.h⟩
      | ret d => rw [q] at w; exact ⟨w.h⟩
      | exc e ρ2 => rw [q] at w; exact w.h.elim
      | bad => rw [q] at w; exact w.h.elim
  exact key ds 0 ρ (Nat.zero_add _) (fun j => by rw [Nat.zero_add]) h0
/-- over numbers from lo on -/
theorem wp_rngL {v : Nat} {lo hi : Int} {bd : Sl → Fl} (I : Nat → Sl → Prop) (h0 : I 0 ρ) (step : ∀ (i : Nat) ρ, lo + i < hi → I i ρ → Wp (bd (ρ.set v (.sh (.int (lo + i))))) (I (i + 1)) (I (i + 1)) n r)
    (fin : ∀ ρ, I (hi - lo).toNat ρ → n ρ) : Wp (forL (.one v) bd (rngL lo hi) ρ) n c b r := by
  have hl : (rngL lo hi).length = (hi - lo).toNat := by unfold rngL; rw [List.length_map, List.length_range]
  refine wp_forL I h0 (fun i d ρ e hI => ⟨_, rfl, ?_⟩) (fun ρ h => fin ρ (hl ▸ h))
  unfold rngL at e
  rw [List.getElem?_map] at e
  cases q : (List.range (hi - lo).toNat)[i]? with
  | none => rw [q] at e; cases e
  | some j =>
    rw [q] at e
    cases e
    obtain ⟨h1, h2⟩ := List.getElem?_eq_some_iff.mp q
    rw [List.length_range] at h1
    rw [List.getElem_range] at h2
    subst h2
    exact step i ρ (by omega) hI
theorem wp_whl {cd : Sl → Res D} {bd : Sl → Fl} {kk : Nat} (I : Nat → Sl → Prop) (m0 : Nat) (hk : m0 < kk) (h0 : I m0 ρ) (step : ∀ m ρ, I m ρ → ∃ z, cd ρ = .ok (.bool z) ∧ if z = true then Wp (bd ρ) (fun ρ => ∃ m', m' < m ∧ I m' ρ) (fun ρ => ∃ m', m' < m ∧ I m' ρ) n r else n ρ) :
    Wp (loopW cd bd kk ρ) n c b r := by
  induction kk generalizing m0 ρ with
  | zero => omega
  | succ kk ih =>
    obtain ⟨z, e, w⟩ := step m0 ρ h0
    show Wp (testF (cd ρ) ρ (match bd ρ with
      | .nx ρ' => loopW cd bd kk ρ'
      | .ct ρ' => loopW cd bd kk ρ'
      | .brk ρ' => .nx ρ'
      | .ret d => .ret d
      | .exc e ρ' => .exc e ρ'
      | .bad => .bad) (.nx ρ)) n c b r
    rw [e, testF_b]
    cases z with
    | false => exact ⟨w⟩
    | true =>
      rw [if_pos rfl] at w ⊢
      cases q : bd ρ with
      | nx ρ2 => rw [q] at w; obtain ⟨m', l, h⟩ := w.h; exact ih m' (by omega) h
      | ct ρ2 => rw [q] at w; obtain ⟨m', l, h⟩ := w.h; exact ih m' (by omega) h
      | brk ρ2 => rw [q] at w; exact ⟨w.h⟩
      | ret d => rw [q] at w; exact ⟨w.h⟩
      | exc e ρ2 => rw [q] at w; exact w.h.elim
      | bad => rw [q] at w; exact w.h.elim

/-! ### comprehensions -/
theorem compL_map {α : Type} {f : D → Res (Option D)} {g : α → D} {h : α → D} : ∀ {l : List α}, (∀ a ∈ l, f (g a) = .ok (some (h a))) → compL f (l.map g) = .ok (l.map h)
  | [], _ => rfl
  | a :: l, H => by
    show (match f (g a) with
      | .ok o => (match compL f (l.map g) with
        | .ok ys => (match o with
          | some y => .ok (y :: ys)
          | none => .ok ys)
        | _ => .bad)
      | _ => .bad : Res (List D)) = _
    rw [H a List.mem_cons_self, compL_map fun a ha => H a (List.mem_cons_of_mem _ ha)]
    rfl
theorem compL_filter {α : Type} {f : D → Res (Option D)} {g : α → D} {h : α → D} {p : α → Bool} : ∀ {l : List α}, (∀ a ∈ l, f (g a) = .ok (if p a = true then some (h a) else none)) → compL f (l.map g) = .ok ((l.filter p).map h)
  | [], _ => rfl
  | a :: l, H => by
    show (match f (g a) with
      | .ok o => (match compL f (l.map g) with
        | .ok ys => (match o with
          | some y => .ok (y :: ys)
          | none => .ok ys)
        | _ => .bad)
      | _ => .bad : Res (List D)) = _
    rw [H a List.mem_cons_self, compL_filter fun a ha => H a (List.mem_cons_of_mem _ ha)]
    rw [List.filter_cons]
    cases p a <;> rfl
theorem compD_of {f : D → Res (Option D)} {l ys : List D} (hl : l.length ≤ 16777216) (h : compL f l = .ok ys) : compD f (.list l) = .ok (.list ys) := by
  show guard' (decide (l.length ≤ lim)) (match compL f l with
    | .ok ys => Res.ok (PyData.list ys)
    | _ => .bad) = _
  rw [show decide (l.length ≤ lim) = true from decide_eq_true hl, h]
  rfl
theorem compD_map {α : Type} {f : D → Res (Option D)} {g : α → D} {l : List α} (h : α → D) (hl : l.length ≤ 16777216) (H : ∀ a ∈ l, f (g a) = .ok (some (h a))) : compD f (.list (l.map g)) = .ok (.list (l.map h)) :=
  compD_of (by rw [List.length_map]; exact hl) (compL_map H)
theorem compD_filter {α : Type} {f : D → Res (Option D)} {g : α → D} {l : List α} (h : α → D) (p : α → Bool) (hl : l.length ≤ 16777216) (H : ∀ a ∈ l, f (g a) = .ok (if p a = true then some (h a) else none)) : compD f (.list (l.map g)) = .ok (.list ((l.filter p).map h)) :=
  compD_of (by rw [List.length_map]; exact hl) (compL_filter H)
theorem compD_bools {α : Type} {f : D → Res (Option D)} {g : α → D} {l : List α} (h : α → Bool) (hl : l.length ≤ 16777216) (H : ∀ a ∈ l, f (g a) = .ok (some (.bool (h a)))) : compD f (.list (l.map g)) = .ok (.list ((l.map h).map .bool)) := by
  rw [compD_map (fun a => .bool (h a)) hl H, List.map_map]; rfl
theorem compD_ints {α : Type} {f : D → Res (Option D)} {g : α → D} {l : List α} (h : α → Int) (hl : l.length ≤ 16777216) (H : ∀ a ∈ l, f (g a) = .ok (some (.int (h a)))) : compD f (.list (l.map g)) = .ok (.list ((l.map h).map .int)) := by
  rw [compD_map (fun a => .int (h a)) hl H, List.map_map]; rfl
/-- each thing, whatever it is made of -/
theorem compD_id {f : D → Res (Option D)} {l : List D} (h : D → D) (hl : l.length ≤ 16777216) (H : ∀ a ∈ l, f a = .ok (some (h a))) : compD f (.list l) = .ok (.list (l.map h)) := by
  have := compD_map (g := id) h hl H
  rwa [List.map_id] at this
theorem compD_rng {f : D → Res (Option D)} {lo hi : Int} (h : Nat → D) (hl : (hi - lo).toNat ≤ 16777216) (H : ∀ i : Nat, lo + i < hi → f (.int (lo + i)) = .ok (some (h i))) : compD f (.list (rngL lo hi)) = .ok (.list ((List.range (hi - lo).toNat).map h)) := by
  unfold rngL
  refine compD_map h (by rw [List.length_range]; exact hl) fun i hi' => H i ?_
  rw [List.mem_range] at hi'
  omega
theorem rng1 {q : Int} (h : sm62 q = true) : rngD [.int q] = .ok (.list (rngL 0 q)) := by
  show guard' (sm62 q) _ = _
  rw [h]; rfl
theorem rng2 {p q : Int} (h : sm62 p = true) (h2 : sm62 q = true) : rngD [.int p, .int q] = .ok (.list (rngL p q)) := by
  show guard' (sm62 p && sm62 q) _ = _
  rw [h, h2]; rfl
theorem sm62_of {q : Int} (h1 : -4611686018427387904 ≤ q) (h2 : q < 4611686018427387904) : sm62 q = true := decide_eq_true ⟨h1, h2⟩

/-! ### cuts -/
theorem cut_map {α : Type} {l : List α} {g : α → D} {lo hi : Option Int} : cutD (l.map g) lo hi = ((l.drop (HT.sIx l.length 0 lo)).take (HT.sIx l.length l.length hi - HT.sIx l.length 0 lo)).map g := by
  unfold cutD
  rw [List.length_map, List.map_take, List.map_drop]
theorem cut_take {l : List D} {q : Nat} : cutD l none (some (q : Int)) = l.take q := by
  unfold cutD
  rw [HT.sIx_nat]
  show (l.drop 0).take (min q l.length - 0) = _
  rw [List.drop_zero, Nat.sub_zero]
  by_cases h : q ≤ l.length
  · rw [Nat.min_eq_left h]
  · rw [Nat.min_eq_right (by omega), List.take_of_length_le (Nat.le_refl _), List.take_of_length_le (by omega)]
theorem cut_takeZ {l : List D} {q : Int} (h : 0 ≤ q) : cutD l none (some q) = l.take q.toNat := by
  obtain ⟨n, rfl⟩ := Int.eq_ofNat_of_zero_le h
  exact cut_take
theorem cut_drop {l : List D} {q : Nat} : cutD l (some (q : Int)) none = l.drop q := by
  unfold cutD
  rw [HT.sIx_nat]
  show (l.drop (min q l.length)).take (l.length - min q l.length) = _
  by_cases h : q ≤ l.length
  · rw [Nat.min_eq_left h, List.take_of_length_le (by rw [List.length_drop]; exact Nat.le_refl _)]
  · rw [Nat.min_eq_right (by omega), List.drop_of_length_le (Nat.le_refl _), List.drop_of_length_le (by omega), List.take_nil]
theorem cut_mid {l : List D} {p q : Nat} : cutD l (some (p : Int)) (some (q : Int)) = (l.take q).drop p := by
  unfold cutD
  rw [HT.sIx_nat, HT.sIx_nat, List.drop_take]
  by_cases h : p ≤ l.length
  · rw [Nat.min_eq_left h]
    by_cases h2 : q ≤ l.length
    · rw [Nat.min_eq_left h2]
    · have e : min q l.length = l.length := by omega
      rw [e, List.take_of_length_le (by rw [List.length_drop]; exact Nat.le_refl _), List.take_of_length_le (by rw [List.length_drop]; omega)]
  · have e : min p l.length = l.length := by omega
    rw [e, List.drop_of_length_le (Nat.le_refl _), List.drop_of_length_le (show l.length ≤ p by omega), List.take_nil, List.take_nil]
theorem cut_midZ {l : List D} {p q : Int} (h : 0 ≤ p) (h2 : 0 ≤ q) : cutD l (some p) (some q) = (l.take q.toNat).drop p.toNat := by
  obtain ⟨a, rfl⟩ := Int.eq_ofNat_of_zero_le h
  obtain ⟨b, rfl⟩ := Int.eq_ofNat_of_zero_le h2
  exact cut_mid
@[simp] theorem slD_l {l : List D} {lo hi : Option Int} : slD true (.list l) lo hi = .ok (.list (cutD l lo hi)) := rfl
@[simp] theorem slD_t {l : List D} {lo hi : Option Int} : slD false (.tuple l) lo hi = .ok (.tuple (cutD l lo hi)) := rfl
theorem ixN_nat {n : Nat} {q : Int} (h0 : 0 ≤ q) (h1 : q < n) : ixN n q = some q.toNat := by
  unfold ixN
  rw [if_pos h0, if_pos h1]
theorem set_ints {l : List Int} {q : Nat} {v : Int} : (l.map PyData.int).set q (.int v) = (l.set q v).map .int := List.map_set.symm
/-- the k-th -/
def nth (l : List Int) (k : Nat) : Int := l.getD k 0
def nthD (l : List D) (k : Nat) : D := l.getD k .none
theorem nth_eq {l : List Int} {k : Nat} (h : k < l.length) : nth l k = l[k] := by
  unfold nth
  rw [List.getD_eq_getElem?_getD, List.getElem?_eq_getElem h]; rfl
theorem nthD_eq {l : List D} {k : Nat} (h : k < l.length) : nthD l k = l[k] := by
  unfold nthD
  rw [List.getD_eq_getElem?_getD, List.getElem?_eq_getElem h]; rfl
theorem nth_mem {l : List Int} {k : Nat} (h : k < l.length) : nth l k ∈ l := by
  rw [nth_eq h]; exact List.getElem_mem h
theorem nth_set {l : List Int} {k i : Nat} {v : Int} (h : i < l.length) : nth (l.set k v) i = if k = i then v else nth l i := by
  unfold nth
  rw [List.getD_eq_getElem?_getD, List.getElem?_set]
  by_cases e : k = i
  · subst e
    rw [if_pos rfl, if_pos rfl, if_pos h]; rfl
  · rw [if_neg e, if_neg e, List.getD_eq_getElem?_getD]
theorem nth_rng {n i : Nat} {f : Nat → Int} (h : i < n) : nth ((List.range n).map f) i = f i := by
  rw [nth_eq (by rw [List.length_map, List.length_range]; exact h), List.getElem_map, List.getElem_range]
theorem nth_map {l : List Int} {f : Int → Int} {i : Nat} (h : i < l.length) : nth (l.map f) i = f (nth l i) := by
  rw [nth_eq (by rw [List.length_map]; exact h), List.getElem_map, nth_eq h]
theorem ext_nth {l m : List Int} (h : l.length = m.length) (e : ∀ i, i < l.length → nth l i = nth m i) : l = m :=
  List.ext_getElem h fun i h1 h2 => by rw [← nth_eq h1, ← nth_eq h2]; exact e i h1
theorem nth_drop {l : List Int} {k i : Nat} : nth (l.drop k) i = nth l (k + i) := by
  unfold nth
  rw [List.getD_eq_getElem?_getD, List.getElem?_drop, List.getD_eq_getElem?_getD]
theorem nth_take {l : List Int} {k i : Nat} (h : i < k) : nth (l.take k) i = nth l i := by
  unfold nth
  rw [List.getD_eq_getElem?_getD, List.getElem?_take_of_lt h, List.getD_eq_getElem?_getD]
theorem take_nth {l : List Int} {i : Nat} (h : i < l.length) : l.take i ++ [nth l i] = l.take (i + 1) := by
  rw [nth_eq h, List.take_append_getElem]
theorem take_nthM {l : List Int} {i : Nat} (h : i < l.length) : (l.take i).map PyData.int ++ [.int (nth l i)] = (l.take (i + 1)).map .int := by
  rw [← take_nth h, List.map_append]; rfl
theorem ite_p {P A B : Prop} [Decidable P] (h1 : P → A) (h2 : ¬P → B) : if P then A else B := by
  by_cases h : P
  · rw [if_pos h]; exact h1 h
  · rw [if_neg h]; exact h2 h
theorem nthD_map {α : Type} {l : List α} {g : α → D} {k : Nat} (h : k < l.length) : nthD (l.map g) k = g l[k] := by
  rw [nthD_eq (by rw [List.length_map]; exact h), List.getElem_map]
/-- the k-th, of any kind -/
def nthA {α : Type} [Inhabited α] (l : List α) (k : Nat) : α := l.getD k default
theorem nthA_eq {α : Type} [Inhabited α] {l : List α} {k : Nat} (h : k < l.length) : nthA l k = l[k] := by
  unfold nthA
  rw [List.getD_eq_getElem?_getD, List.getElem?_eq_getElem h]; rfl
theorem nthA_mem {α : Type} [Inhabited α] {l : List α} {k : Nat} (h : k < l.length) : nthA l k ∈ l := by
  rw [nthA_eq h]; exact List.getElem_mem h
theorem nthA_map {α β : Type} [Inhabited α] [Inhabited β] {l : List α} {f : α → β} {i : Nat} (h : i < l.length) : nthA (l.map f) i = f (nthA l i) := by
  rw [nthA_eq (by rw [List.length_map]; exact h), List.getElem_map, nthA_eq h]
theorem ext_nthA {α : Type} [Inhabited α] {l m : List α} (h : l.length = m.length) (e : ∀ i, i < l.length → nthA l i = nthA m i) : l = m :=
  List.ext_getElem h fun i h1 h2 => by rw [← nthA_eq h1, ← nthA_eq h2]; exact e i h1
theorem sum_succ {f : Nat → Int} {n : Nat} : ((List.range (n + 1)).map f).sum = ((List.range n).map f).sum + f n := by
  rw [List.range_succ, List.map_append, List.sum_append]
  simp
theorem zipD_map {α β : Type} {f : α → D} {g : β → D} : ∀ {l : List α} {m : List β}, zipD (l.map f) (m.map g) = (l.zip m).map fun p => .tuple [f p.1, g p.2]
  | [], _ => by rw [List.zip_nil_left]; rfl
  | _ :: _, [] => by rw [List.zip_nil_right]; rfl
  | a :: l, b :: m => by
    have e : zipD ((a :: l).map f) ((b :: m).map g) = .tuple [f a, g b] :: zipD (l.map f) (m.map g) := rfl
    rw [e, zipD_map]; rfl
theorem idx_list {l : List D} {q : Int} (h0 : 0 ≤ q) (h1 : q < l.length) : idxD (.list l) (.int q) = .ok (nthD l q.toNat) := by
  show (match atI l q with
    | some d => .ok d
    | none => .bad : Res D) = _
  rw [atI_nat h0 h1]
  have h2 : q.toNat < l.length := by omega
  rw [List.getElem?_eq_getElem h2, nthD_eq h2]
theorem idx_tup {l : List D} {q : Int} (h0 : 0 ≤ q) (h1 : q < l.length) : idxD (.tuple l) (.int q) = .ok (nthD l q.toNat) := idx_list h0 h1
theorem idx_ints {l : List Int} {q : Int} (h0 : 0 ≤ q) (h1 : q < l.length) : idxD (.list (l.map .int)) (.int q) = .ok (.int (nth l q.toNat)) := by
  have h2 : q.toNat < l.length := by omega
  rw [idx_list h0 (by rw [List.length_map]; exact h1), nthD_map h2, nth_eq h2]
theorem idx_intsT {l : List Int} {q : Int} (h0 : 0 ≤ q) (h1 : q < l.length) : idxD (.tuple (l.map .int)) (.int q) = .ok (.int (nth l q.toNat)) := idx_ints h0 h1
theorem idxA {α : Type} [Inhabited α] {l : List α} {g : α → D} {q : Int} (h0 : 0 ≤ q) (h1 : q < l.length) : idxD (.list (l.map g)) (.int q) = .ok (g (nthA l q.toNat)) := by
  have h2 : q.toNat < l.length := by omega
  rw [idx_list h0 (by rw [List.length_map]; exact h1), nthD_map h2, nthA_eq h2]
theorem idxAT {α : Type} [Inhabited α] {l : List α} {g : α → D} {q : Int} (h0 : 0 ≤ q) (h1 : q < l.length) : idxD (.tuple (l.map g)) (.int q) = .ok (g (nthA l q.toNat)) := idxA h0 h1
/-- the last -/
theorem idx_last {l : List D} (h : l ≠ []) : idxD (.list l) (.int (-1)) = .ok (l.getLast h) := by
  have hl : 0 < l.length := List.length_pos_iff.mpr h
  show (match atI l (-1) with
    | some d => .ok d
    | none => .bad : Res D) = _
  have e : atI l (-1) = some (l.getLast h) := by
    unfold atI ixN
    rw [if_neg (by decide), if_pos (by omega)]
    show l[((-1 : Int) + l.length).toNat]? = _
    rw [show ((-1 : Int) + l.length).toNat = l.length - 1 by omega, List.getLast_eq_getElem, List.getElem?_eq_getElem]
  rw [e]
theorem idx_lastT {l : List D} (h : l ≠ []) : idxD (.tuple l) (.int (-1)) = .ok (l.getLast h) := idx_last h
/-- one of a written list, by a rest -/
theorem pick_ints {l : List Int} {x n : Int} (hn : n = l.length) (h : 0 < n) : ∃ v, v ∈ l ∧ idxD (.list (l.map .int)) (.int (x % n)) = .ok (.int v) := by
  have h1 := Int.emod_nonneg x (show n ≠ 0 by omega)
  have h2 := Int.emod_lt_of_pos x h
  exact ⟨_, nth_mem (by omega), idx_ints h1 (by omega)⟩
theorem idx_map {α : Type} {l : List α} {g : α → D} {k : Nat} (h : k < l.length) : idxD (.list (l.map g)) (.int (k : Int)) = .ok (g l[k]) := by
  rw [idx_list (by omega) (by rw [List.length_map]; omega)]
  rw [show ((k : Int)).toNat = k from Int.toNat_natCast k, nthD_map h]
theorem idx_mapT {α : Type} {l : List α} {g : α → D} {k : Nat} (h : k < l.length) : idxD (.tuple (l.map g)) (.int (k : Int)) = .ok (g l[k]) := idx_map h
/-- written lists -/
@[simp] theorem idx_l0 {a : D} {l : List D} : idxD (.list (a :: l)) (.int 0) = .ok a := by
  rw [idx_list (by omega) (by rw [List.length_cons]; omega)]; rfl
@[simp] theorem idx_t0 {a : D} {l : List D} : idxD (.tuple (a :: l)) (.int 0) = .ok a := idx_l0
@[simp] theorem idx_t1 {a b : D} {l : List D} : idxD (.tuple (a :: b :: l)) (.int 1) = .ok b := by
  rw [idx_tup (by omega) (by rw [List.length_cons, List.length_cons]; omega)]; rfl
@[simp] theorem idx_t2 {a b c : D} {l : List D} : idxD (.tuple (a :: b :: c :: l)) (.int 2) = .ok c := by
  rw [idx_tup (by omega) (by rw [List.length_cons, List.length_cons, List.length_cons]; omega)]; rfl
@[simp] theorem idx_t3 {a b c e : D} {l : List D} : idxD (.tuple (a :: b :: c :: e :: l)) (.int 3) = .ok e := by
  rw [idx_tup (by omega) (by rw [List.length_cons, List.length_cons, List.length_cons, List.length_cons]; omega)]; rfl
@[simp] theorem idx_t4 {a b c e f : D} {l : List D} : idxD (.tuple (a :: b :: c :: e :: f :: l)) (.int 4) = .ok f := by
  rw [idx_tup (by omega) (by rw [List.length_cons, List.length_cons, List.length_cons, List.length_cons, List.length_cons]; omega)]; rfl
@[simp] theorem idx_l1 {a b : D} {l : List D} : idxD (.list (a :: b :: l)) (.int 1) = .ok b := idx_t1
@[simp] theorem idx_l2 {a b c : D} {l : List D} : idxD (.list (a :: b :: c :: l)) (.int 2) = .ok c := idx_t2
@[simp] theorem idx_l3 {a b c e : D} {l : List D} : idxD (.list (a :: b :: c :: e :: l)) (.int 3) = .ok e := idx_t3
@[simp] theorem idx_l4 {a b c e f : D} {l : List D} : idxD (.list (a :: b :: c :: e :: f :: l)) (.int 4) = .ok f := idx_t4
theorem catD_l {l m : List D} (h : l.length + m.length ≤ 16777216) : catD (.list l) (.list m) = .ok (.list (l ++ m)) := by
  show guard' (decide (l.length + m.length ≤ lim)) _ = _
  rw [show decide (l.length + m.length ≤ lim) = true from decide_eq_true h]
  rfl
end
end Rf

/-! Rf: reflection. Part R: == of deep values, in, more of the built-ins. -/
namespace Rf
open PySem L2
structure Shp (n : Nat) (d : D) : Prop where
  c : PyData.canLay0 d = true
  d : PyData.depth d ≤ n
theorem Shp.int {n : Nat} {i : Int} : Shp n (.int i) := ⟨by simp [PyData.canLay0], by simp [PyData.depth]⟩
theorem Shp.bool {n : Nat} {i : Bool} : Shp n (.bool i) := ⟨by simp [PyData.canLay0], by simp [PyData.depth]⟩
theorem Shp.none {n : Nat} : Shp n .none := ⟨by simp [PyData.canLay0], by simp [PyData.depth]⟩
theorem Shp.str {n : Nat} {z : Str} (h : PyData.canLay0 (.str z) = true) : Shp n (.str z) := ⟨h, by simp [PyData.depth]⟩
theorem canAll : ∀ {ds : List D}, (∀ d ∈ ds, PyData.canLay0 d = true) → PyData.canLayAll0 ds = true
  | [], _ => by simp [PyData.canLayAll0]
  | d :: ds, h => by
    rw [PyData.canLayAll0, h d List.mem_cons_self, canAll fun x hx => h x (List.mem_cons_of_mem _ hx)]; rfl
theorem depAll {n : Nat} : ∀ {ds : List D}, (∀ d ∈ ds, PyData.depth d ≤ n) → PyData.depthAll ds ≤ n
  | [], _ => by simp [PyData.depthAll]
  | d :: ds, h => by
    rw [PyData.depthAll]
    have h1 := h d List.mem_cons_self
    have h2 := depAll fun x hx => h x (List.mem_cons_of_mem _ hx)
    omega
theorem Shp.list {n : Nat} {ds : List D} (h : ∀ d ∈ ds, Shp n d) : Shp (n + 1) (.list ds) :=
  ⟨by rw [PyData.canLay0]; exact canAll fun d hd => (h d hd).c, by rw [PyData.depth]; exact Nat.succ_le_succ (depAll fun d hd => (h d hd).d)⟩
theorem Shp.tup {n : Nat} {ds : List D} (h : ∀ d ∈ ds, Shp n d) : Shp (n + 1) (.tuple ds) :=
  ⟨by rw [PyData.canLay0]; exact canAll fun d hd => (h d hd).c, by rw [PyData.depth]; exact Nat.succ_le_succ (depAll fun d hd => (h d hd).d)⟩
theorem Shp.mono {n m : Nat} {d : D} (h : Shp n d) (l : n ≤ m) : Shp m d := ⟨h.c, Nat.le_trans h.d l⟩
theorem Shp.ints {l : List Int} : Shp 1 (.list (l.map .int)) := Shp.list fun d hd => by
  obtain ⟨i, _, rfl⟩ := List.mem_map.mp hd
  exact Shp.int
theorem Shp.intsT {l : List Int} : Shp 1 (.tuple (l.map .int)) := Shp.tup fun d hd => by
  obtain ⟨i, _, rfl⟩ := List.mem_map.mp hd
  exact Shp.int
theorem Shp.sh {n : Nat} {d : D} (h : Shp n d) (l : n ≤ 64) : SeqAt.shaped d = true := by
  unfold SeqAt.shaped
  rw [h.c, decide_eq_true (Nat.le_trans h.d l)]; rfl
mutual
theorem eqv_refl : ∀ d : D, PyData.canLay0 d = true → PyData.eqv d d = true
  | .none, _ => by simp [PyData.eqv]
  | .bool b, _ => by simp [PyData.eqv]
  | .int i, _ => by simp [PyData.eqv]
  | .str x, _ => by simp [PyData.eqv]
  | .list xs, h => by
    rw [PyData.eqv]
    rw [PyData.canLay0] at h
    exact eqvAll_refl xs h
  | .tuple xs, h => by
    rw [PyData.eqv]
    rw [PyData.canLay0] at h
    exact eqvAll_refl xs h
  | .dict kvs, h => by simp [PyData.canLay0] at h
theorem eqvAll_refl : ∀ ds : List D, PyData.canLayAll0 ds = true → PyData.eqvAll ds ds = true
  | [], _ => by simp [PyData.eqvAll]
  | d :: ds, h => by
    rw [PyData.canLayAll0, Bool.and_eq_true] at h
    rw [PyData.eqvAll, eqv_refl d h.1, eqvAll_refl ds h.2]; rfl
end
theorem eqD_deep {x y : D} {n : Nat} (hx : Shp n x) (hy : Shp n y) (hn : n ≤ 64) (h : flatD x = none) : eqD x y = .ok (PyData.eqv x y) := by
  unfold eqD
  rw [h]
  show guard' (SeqAt.shaped x && SeqAt.shaped y) (.ok (PyData.eqv x y)) = _
  rw [hx.sh hn, hy.sh hn]; rfl
theorem eq_self {x : D} {n : Nat} (hx : Shp n x) (hn : n ≤ 64) (h : flatD x = none) : cmpB .Eq x x = .ok true := by
  show eqD x x = _
  rw [eqD_deep hx hx hn h, eqv_refl x hx.c]
theorem ne_self {x : D} {n : Nat} (hx : Shp n x) (hn : n ≤ 64) (h : flatD x = none) : cmpB .NotEq x x = .ok false := by
  show (eqD x x >>= fun b => Res.ok (!b)) = _
  rw [eqD_deep hx hx hn h, eqv_refl x hx.c]; rfl
theorem eqv_ints : ∀ {l m : List Int}, PyData.eqvAll (l.map .int) (m.map .int) = decide (l = m)
  | [], [] => by simp [PyData.eqvAll]
  | [], _ :: _ => by simp [PyData.eqvAll]
  | _ :: _, [] => by simp [PyData.eqvAll]
  | a :: l, b :: m => by
    rw [List.map_cons, List.map_cons, PyData.eqvAll, eqv_ints, PyData.eqv]
    by_cases h : a = b
    · subst h
      simp
    · simp [h]
theorem eqv_nil {l : List D} : PyData.eqv (.list l) (.list []) = decide (l = []) := by
  rw [PyData.eqv]
  cases l with
  | nil => simp [PyData.eqvAll]
  | cons a l => simp [PyData.eqvAll]
theorem ne_nil {l : List D} {n : Nat} (hx : Shp n (.list l)) (hn : n ≤ 64) (h1 : 1 ≤ n) : cmpB .NotEq (.list l) (.list []) = .ok (!decide (l = [])) := by
  have e : cmpB .NotEq (.list l) (.list []) = (eqD (.list l) (.list []) >>= fun b => Res.ok (!b)) := rfl
  rw [e, eqD_deep hx ((Shp.list (n := 0) (ds := []) fun _ h => nomatch h).mono h1) hn rfl, eqv_nil]; rfl
theorem Shp.bools {l : List Bool} : Shp 1 (.list (l.map .bool)) := Shp.list fun d hd => by
  obtain ⟨i, _, rfl⟩ := List.mem_map.mp hd
  exact Shp.bool
theorem Shp.boolsT {l : List Bool} : Shp 1 (.tuple (l.map .bool)) := Shp.tup fun d hd => by
  obtain ⟨i, _, rfl⟩ := List.mem_map.mp hd
  exact Shp.bool
/-! ### in -/
theorem flatAll_map {α : Type} {g : α → D} {gv : α → V} : ∀ {l : List α}, (∀ a ∈ l, flatD (g a) = some (gv a)) → flatAll (l.map g) = some (l.map gv)
  | [], _ => rfl
  | a :: l, h => by
    show (match flatD (g a) with
      | some v => (flatAll (l.map g)).map (v :: ·)
      | none => none) = _
    rw [h a List.mem_cons_self, flatAll_map fun x hx => h x (List.mem_cons_of_mem _ hx)]
    rfl
theorem in_of {x : D} {ys : List D} {a : V} {vs : List V} (h1 : flatD x = some a) (h2 : flatAll ys = some vs) : inD x (.list ys) = .ok (inV a vs) ∧ inD x (.tuple ys) = .ok (inV a vs) := by
  constructor
  · show (match flatD x with
      | some a => (match flatAll ys with
        | some vs => .ok (inV a vs)
        | none => .bad)
      | none => .bad : Res Bool) = _
    rw [h1, h2]
  · show (match flatD x with
      | some a => (match flatAll ys with
        | some vs => .ok (inV a vs)
        | none => .bad)
      | none => .bad : Res Bool) = _
    rw [h1, h2]
theorem inV_int {a : Int} {l : List Int} : inV (.int a) (l.map V.int) = decide (a ∈ l) := by
  unfold inV
  rw [List.any_map]
  induction l with
  | nil => rfl
  | cons b l ih =>
    rw [List.any_cons, ih]
    show ((b == a) || decide (a ∈ l)) = decide (a ∈ b :: l)
    by_cases h : b = a
    · subst h; simp
    · have h2 : ¬ a = b := fun e => h e.symm
      simp [h, h2]
theorem inV_bool {a : Bool} {l : List Bool} : inV (.bl a) (l.map V.bl) = decide (a ∈ l) := by
  unfold inV
  rw [List.any_map]
  induction l with
  | nil => rfl
  | cons b l ih =>
    rw [List.any_cons, ih]
    show ((b == a) || decide (a ∈ l)) = decide (a ∈ b :: l)
    by_cases h : b = a
    · subst h; simp
    · have h2 : ¬ a = b := fun e => h e.symm
      simp [h, h2]
theorem inV_str {a : Str} {l : List Str} : inV (.str a) (l.map V.str) = decide (a ∈ l) := by
  unfold inV
  rw [List.any_map]
  induction l with
  | nil => rfl
  | cons b l ih =>
    rw [List.any_cons, ih]
    show ((b == a) || decide (a ∈ l)) = decide (a ∈ b :: l)
    by_cases h : b = a
    · subst h; simp
    · have h2 : ¬ a = b := fun e => h e.symm
      simp [h, h2]
theorem in_ints {a : Int} {l : List Int} : cmpB .In (.int a) (.list (l.map .int)) = .ok (decide (a ∈ l)) := by
  have e : cmpB .In (.int a) (.list (l.map .int)) = inD (.int a) (.list (l.map .int)) := rfl
  rw [e, (in_of (a := .int a) rfl (flatAll_map (gv := V.int) fun _ _ => rfl)).1, inV_int]
theorem in_bools {a : Bool} {l : List Bool} : cmpB .In (.bool a) (.list (l.map .bool)) = .ok (decide (a ∈ l)) := by
  have e : cmpB .In (.bool a) (.list (l.map .bool)) = inD (.bool a) (.list (l.map .bool)) := rfl
  rw [e, (in_of (a := .bl a) rfl (flatAll_map (gv := V.bl) fun _ _ => rfl)).1, inV_bool]
theorem in_strs {a : Str} {l : List Str} : cmpB .In (.str a) (.list (l.map .str)) = .ok (decide (a ∈ l)) := by
  have e : cmpB .In (.str a) (.list (l.map .str)) = inD (.str a) (.list (l.map .str)) := rfl
  rw [e, (in_of (a := .str a) rfl (flatAll_map (gv := V.str) fun _ _ => rfl)).1, inV_str]
theorem notIn_of {x y : D} {b : Bool} (h : cmpB .In x y = .ok b) : cmpB .NotIn x y = .ok (!b) := by
  have e : cmpB .NotIn x y = (cmpB .In x y >>= fun b => .ok (!b)) := rfl
  rw [e, h]; rfl
end Rf

namespace Rf
open PySem L2
def bStream : S :=
  (.seq (.asg 3 (.lst .nil)) (.seq (.asg 4 (.blt .abs (.cons (.var 0) .nil))) (.seq (.ifs (.cmp .Gt (.var 2) (.cst (.int 0))) (.seq (.fr (.one 5) (.irng (.cons (.var 1) .nil)) (.seq (.app 3 (.bin .Mod (.var 4) (.var 2))) (.seq (.asg 4 (.bin .FloorDiv (.var 4) (.var 2))) .nil))) (.seq (.ret (.var 3)) .nil)) .nil) (.seq (.asg 4 (.bin .Add (.bin .Mod (.var 0) (.cst (.int 2147483647))) (.cst (.int 48271)))) (.seq (.fr (.one 5) (.irng (.cons (.bin .Add (.var 1) (.cst (.int 1))) .nil)) (.seq (.asg 4 (.bin .Mod (.bin .Add (.bin .Add (.bin .Mult (.var 4) (.var 4)) (.bin .Mult (.cst (.int 48271)) (.var 4))) (.var 5)) (.cst (.int 2147483647)))) (.seq (.app 3 (.var 4)) .nil))) (.seq (.ret (.sl true (.var 3) (.cst (.int 1)) .non)) .nil))))))
theorem stream_spec (Γ : Rf.Ctx) (cell : Int) (m : Nat) (hm : m ≤ 100000) : ∃ xs : List Int, run Γ .own 6 bStream [.int cell, .int m, .int 0] = .ok (.list (xs.map .int)) ∧ xs.length = m ∧ ∀ x ∈ xs, 0 ≤ x ∧ x < 2147483647 := by
  obtain ⟨d, e, xs, rfl, h⟩ := run_wp (Γ := Γ) (fr := .own) (s := bStream) (kk := 6) (ds := [.int cell, .int m, .int 0]) (P := fun d => ∃ xs : List Int, d = .list (xs.map .int) ∧ xs.length = m ∧ ∀ x ∈ xs, 0 ≤ x ∧ x < 2147483647) (by
    unfold bStream
    simp [List.replicate, exec_for, mod_ok, Kf_eq]
    rw [rng1 (sm62_of (by omega) (by omega))]
    simp only [toFl_ok, listF_l]
    refine wp_rngL (fun i ρ => ∃ (xs : List Int) (z : Int) (u : Slot), ρ = [.sh (.int cell), .sh (.int m), .sh (.int 0), .own (xs.map .int), .sh (.int z), u] ∧ xs.length = i ∧ 0 ≤ z ∧ z < 2147531918 ∧ ∀ x ∈ xs, 0 ≤ x ∧ x < 2147483647) ⟨[], _, _, rfl, rfl, by omega, by omega, by simp⟩ ?_ ?_
    · rintro i ρ hi ⟨xs, z, u, rfl, hl, h0, h1, hx⟩
      simp [mul_ok_l (show -18446744073709551616 < z by omega) (show z < 18446744073709551616 by omega), mul_ok_l, mod_ok, guardF_lt (show xs.length < 16777216 by omega)]
      refine ⟨xs ++ [(z * z + 48271 * z + i) % 2147483647], _, ⟨by simp, rfl⟩, by simp [hl], by omega, by omega, fun x h => ?_⟩
      rcases List.mem_append.mp h with h | h
      · exact hx x h
      · simp only [List.mem_singleton] at h
        omega
    · rintro ρ ⟨xs, z, u, rfl, hl, h0, h1, hx⟩
      simp [Kf_eq]
      exact ⟨xs.drop 1, by rw [show (1 : Int) = ((1 : Nat) : Int) from rfl, cut_drop, List.map_drop], by simp; omega, fun x h => hx x (List.mem_of_mem_drop h)⟩)
  exact ⟨xs, e, h⟩
theorem streamB_spec (Γ : Rf.Ctx) (cell : Int) (m : Nat) (hm : m ≤ 100000) (b : Int) (h0 : 0 < b) (h1 : b.natAbs.log2 < 9000) : ∃ xs : List Int, run Γ .own 6 bStream [.int cell, .int m, .int b] = .ok (.list (xs.map .int)) ∧ xs.length = m ∧ ∀ x ∈ xs, 0 ≤ x ∧ x < b := by
  obtain ⟨d, e, xs, rfl, h⟩ := run_wp (Γ := Γ) (fr := .own) (s := bStream) (kk := 6) (ds := [.int cell, .int m, .int b]) (P := fun d => ∃ xs : List Int, d = .list (xs.map .int) ∧ xs.length = m ∧ ∀ x ∈ xs, 0 ≤ x ∧ x < b) (by
    unfold bStream
    simp [List.replicate, exec_for, h0, Kf_eq]
    rw [rng1 (sm62_of (by omega) (by omega))]
    simp only [toFl_ok, listF_l]
    refine wp_rngL (fun i ρ => ∃ (xs : List Int) (z : Int) (u : Slot), ρ = [.sh (.int cell), .sh (.int m), .sh (.int b), .own (xs.map .int), .sh (.int z), u] ∧ xs.length = i ∧ ∀ x ∈ xs, 0 ≤ x ∧ x < b) ⟨[], _, _, rfl, rfl, by simp⟩ ?_ ?_
    · rintro i ρ hi ⟨xs, z, u, rfl, hl, hx⟩
      simp [mod_ok h0, fdiv_okL h0 h1, guardF_lt (show xs.length < 16777216 by omega)]
      refine ⟨xs ++ [z % b], by simp, by simp [hl], fun x h => ?_⟩
      rcases List.mem_append.mp h with h | h
      · exact hx x h
      · simp only [List.mem_singleton] at h
        subst h
        exact ⟨Int.emod_nonneg _ (by omega), Int.emod_lt_of_pos _ h0⟩
    · rintro ρ ⟨xs, z, u, rfl, hl, hx⟩
      simp [Kf_eq]
      exact ⟨xs, rfl, by omega, hx⟩)
  exact ⟨xs, e, h⟩
/-- whatever the base -/
theorem streamA_spec (Γ : Rf.Ctx) (cell : Int) (m : Nat) (hm : m ≤ 100000) (b : Int) (h0 : 0 ≤ b) (h1 : b.natAbs.log2 < 9000) : ∃ xs : List Int, run Γ .own 6 bStream [.int cell, .int m, .int b] = .ok (.list (xs.map .int)) ∧ xs.length = m ∧ ∀ x ∈ xs, 0 ≤ x := by
  by_cases h : b = 0
  · subst h
    obtain ⟨xs, e, hl, hx⟩ := stream_spec Γ cell m hm
    exact ⟨xs, e, hl, fun x h => (hx x h).1⟩
  · obtain ⟨xs, e, hl, hx⟩ := streamB_spec Γ cell m hm b (by omega) h1
    exact ⟨xs, e, hl, fun x h => (hx x h).1⟩
def bShifted : S :=
  (.seq (.asg 4 (.blt .list (.cons (.var 0) .nil))) (.seq (.ifs (.cmp .GtE (.var 1) (.cst (.int 0))) (.seq (.setIx 4 (.var 1) (.bin .Sub (.idx (.var 4) (.var 1)) (.var 3))) .nil) .nil) (.seq (.ifs (.cmp .GtE (.var 2) (.cst (.int 0))) (.seq (.setIx 4 (.var 2) (.bin .Add (.idx (.var 4) (.var 2)) (.var 3))) .nil) .nil) (.seq (.ret (.blt .tuple (.cons (.var 4) .nil))) .nil))))
def shL (cs : List Int) (one other b : Int) : List Int := (List.range cs.length).map fun k => nth cs k + b * ((if (k : Int) = other then 1 else 0) - (if (k : Int) = one then 1 else 0))
theorem shL_len {cs : List Int} {one other b : Int} : (shL cs one other b).length = cs.length := by
  unfold shL
  rw [List.length_map, List.length_range]
theorem shL_at {cs : List Int} {one other b : Int} {i : Nat} (h : i < cs.length) : nth (shL cs one other b) i = nth cs i + b * ((if (i : Int) = other then 1 else 0) - (if (i : Int) = one then 1 else 0)) := nth_rng h
theorem shifted_spec (Γ : Rf.Ctx) (cs : List Int) (one other b : Int) (h1 : -1 ≤ one ∧ one < cs.length) (h2 : -1 ≤ other ∧ other < cs.length) (hne : one ≠ other) :
    run Γ .sh 5 bShifted [.tuple (cs.map .int), .int one, .int other, .int b] = .ok (.tuple ((shL cs one other b).map .int)) := by
  refine run_eq ?_
  unfold bShifted
  simp [-List.map_set, -List.map_map, List.replicate]
  by_cases a : 0 ≤ one
  · simp [-List.map_set, -List.map_map, a, idx_ints a h1.2, ixN_nat a h1.2, set_ints, Kf_eq]
    by_cases c : 0 ≤ other
    · have h3 : other < ((cs.set one.toNat (nth cs one.toNat - b)).length : Nat) := by rw [List.length_set]; exact h2.2
      have h4 := idx_ints c h3
      simp [-List.map_set, -List.map_map, c, h4, ixN_nat c h2.2, set_ints, Kf_eq]
      congr 1
      refine ext_nth (by rw [shL_len, List.length_set, List.length_set]) fun i hi => ?_
      rw [List.length_set, List.length_set] at hi
      rw [shL_at hi, nth_set (by rw [List.length_set]; exact hi), nth_set hi, nth_set (by omega)]
      by_cases e1 : other.toNat = i
      · have e2 : (i : Int) = other := by omega
        have e3 : ¬ (i : Int) = one := by omega
        rw [if_pos e1, if_pos e2, if_neg e3, if_neg (by omega), e1]; omega
      · have e2 : ¬ (i : Int) = other := by omega
        rw [if_neg e1, if_neg e2]
        by_cases e3 : one.toNat = i
        · have e4 : (i : Int) = one := by omega
          rw [if_pos e3, if_pos e4, e3]; omega
        · have e4 : ¬ (i : Int) = one := by omega
          rw [if_neg e3, if_neg e4]; omega
    · simp [-List.map_set, -List.map_map, c, Kf_eq]
      congr 1
      refine ext_nth (by rw [shL_len, List.length_set]) fun i hi => ?_
      rw [List.length_set] at hi
      rw [shL_at hi, nth_set hi]
      have e2 : ¬ (i : Int) = other := by omega
      rw [if_neg e2]
      by_cases e3 : one.toNat = i
      · have e4 : (i : Int) = one := by omega
        rw [if_pos e3, if_pos e4, e3]; omega
      · have e4 : ¬ (i : Int) = one := by omega
        rw [if_neg e3, if_neg e4]; omega
  · simp [-List.map_set, -List.map_map, a, Kf_eq]
    by_cases c : 0 ≤ other
    · simp [-List.map_set, -List.map_map, c, idx_ints c h2.2, ixN_nat c h2.2, set_ints, Kf_eq]
      congr 1
      refine ext_nth (by rw [shL_len, List.length_set]) fun i hi => ?_
      rw [List.length_set] at hi
      rw [shL_at hi, nth_set hi]
      have e2 : ¬ (i : Int) = one := by omega
      rw [if_neg e2]
      by_cases e3 : other.toNat = i
      · have e4 : (i : Int) = other := by omega
        rw [if_pos e3, if_pos e4, e3]; omega
      · have e4 : ¬ (i : Int) = other := by omega
        rw [if_neg e3, if_neg e4]; omega
    · omega
def bCellAt : S :=
  (.seq (.ifs (.cmp .Lt (.var 1) (.blt .len (.cons (.var 0) .nil))) (.seq (.ret (.idx (.var 0) (.var 1))) .nil) .nil) (.seq (.ret (.cst (.int 0))) .nil))
theorem cell_at_spec (Γ : Rf.Ctx) (ns : List Int) (k : Int) (h0 : 0 ≤ k) : run Γ .sh 2 bCellAt [.list (ns.map .int), .int k] = .ok (.int (nth ns k.toNat)) := by
  refine run_eq ?_
  unfold bCellAt
  simp [List.replicate]
  refine ite_p (fun h => ?_) fun h => ?_
  · rw [idx_ints h0 h]
    simp
  · simp [Kf_eq, nth]
    rw [List.getElem?_eq_none (by omega)]; rfl
end Rf

/-! Rf: reflection. Part T: mills; shared makers of words and names. -/
namespace Rf
open PySem L2
/-! ### mills as they are handed around -/
structure MPond where
  name : Str
  area : Int
  bottom : Int
  rim : Int
structure MGate where
  one : Int
  other : Int
  sill : Int
  rate : Int
structure MWheel where
  pond : Int
  tail : Int
  fall : Int
  drink : Int
  grind : Int
structure Mill where
  base : Int
  rings : List (Int × List Int)
  ponds : List MPond
  gates : List MGate
  wheels : List MWheel
instance : Inhabited MPond := ⟨⟨⟨#[]⟩, 0, 0, 0⟩⟩
instance : Inhabited MGate := ⟨⟨0, 0, 0, 0⟩⟩
instance : Inhabited MWheel := ⟨⟨0, 0, 0, 0, 0⟩⟩
def ringD (r : Int × List Int) : D := .tuple [.int r.1, .tuple (r.2.map .int)]
def pondD (p : MPond) : D := .tuple [.str p.name, .int p.area, .int p.bottom, .int p.rim]
def gateD (g : MGate) : D := .tuple [.int g.one, .int g.other, .int g.sill, .int g.rate]
def wheelD (w : MWheel) : D := .tuple [.int w.pond, .int w.tail, .int w.fall, .int w.drink, .int w.grind]
def seaD (b : Int) (rs : List (Int × List Int)) : D := .tuple [.int b, .tuple (rs.map ringD)]
def Mill.d (m : Mill) : D := .tuple [seaD m.base m.rings, .tuple (m.ponds.map pondD), .tuple (m.gates.map gateD), .tuple (m.wheels.map wheelD)]
structure PondOk (p : MPond) : Prop where
  area : 1 ≤ p.area
  lev : p.bottom < p.rim
  bd : p.area ≤ 1000000 ∧ -1000000 ≤ p.bottom ∧ p.rim ≤ 1000000
structure GateOk (n : Nat) (g : MGate) : Prop where
  one : -1 ≤ g.one ∧ g.one < n
  other : -1 ≤ g.other ∧ g.other < n
  ne : g.one ≠ g.other
  rate : 1 ≤ g.rate
  bd : g.rate ≤ 1000000 ∧ -1000000 ≤ g.sill ∧ g.sill ≤ 1000000
structure WheelOk (n : Nat) (w : MWheel) : Prop where
  pond : 0 ≤ w.pond ∧ w.pond < n
  tail : -1 ≤ w.tail ∧ w.tail < n
  ne : w.pond ≠ w.tail
  fall : 1 ≤ w.fall
  drink : 1 ≤ w.drink
  grind : 1 ≤ w.grind
  bd : w.fall ≤ 1000000 ∧ w.drink ≤ 1000000 ∧ w.grind ≤ 1000000
structure Mill.Ok (m : Mill) : Prop where
  rings : ∀ r ∈ m.rings, 0 ≤ r.1 ∧ r.2 ≠ []
  some_ : 1 ≤ m.ponds.length
  few : m.ponds.length ≤ 3 ∧ m.gates.length ≤ 3 ∧ m.wheels.length ≤ 3
  ponds : ∀ p ∈ m.ponds, PondOk p
  gates : ∀ g ∈ m.gates, GateOk m.ponds.length g
  wheels : ∀ w ∈ m.wheels, WheelOk m.ponds.length w
  sea : m.rings.length ≤ 4 ∧ (-1000 ≤ m.base ∧ m.base ≤ 1000) ∧ ∀ r ∈ m.rings, ∀ h ∈ r.2, -1001 ≤ h ∧ h ≤ 1001

/-! ### texts -/
theorem idx_str {z : Str} {q : Int} (hz : z.length ≤ 16777216) (h0 : 0 ≤ q) (h1 : q < z.cps.toList.length) : ∃ c, idxD (.str z) (.int q) = .ok (.str ⟨#[c]⟩) := by
  have e : idxD (.str z) (.int q) = guard' (decide (z.length ≤ lim)) (match atI z.cps.toList q with
    | some c => .ok (.str ⟨#[c]⟩)
    | none => .bad) := rfl
  rw [e, atI_nat h0 h1, show decide (z.length ≤ lim) = true from decide_eq_true hz]
  have h2 : q.toNat < z.cps.toList.length := by omega
  rw [List.getElem?_eq_getElem h2]
  exact ⟨_, rfl⟩
theorem join_ok {a : Str} {l : List Str} (h : (l.map (·.length)).sum + l.length * a.length ≤ 16777216) : mthD .join (.str a) (.list (l.map .str)) = .ok (.str (Txt.join a l)) := by
  show (match strsOf (l.map PyData.str) with
    | some ys => guard' (decide ((ys.map (·.length)).sum + ys.length * a.length ≤ lim)) (.ok (.str (Txt.join a ys)))
    | none => .bad : Res D) = _
  rw [strsOf_map]
  show guard' (decide ((l.map (·.length)).sum + l.length * a.length ≤ lim)) _ = _
  rw [show decide ((l.map (·.length)).sum + l.length * a.length ≤ lim) = true from decide_eq_true h]
  rfl
theorem choose_list {α β : Type} {P : α → β → Prop} : ∀ {l : List α}, (∀ a ∈ l, ∃ b, P a b) → ∃ m : List β, m.length = l.length ∧ ∀ i (h1 : i < l.length) (h2 : i < m.length), P l[i] m[i]
  | [], _ => ⟨[], rfl, fun i h => absurd h (by simp)⟩
  | a :: l, h => by
    obtain ⟨b, hb⟩ := h a List.mem_cons_self
    obtain ⟨m, hl, hm⟩ := choose_list fun x hx => h x (List.mem_cons_of_mem _ hx)
    refine ⟨b :: m, by simp [hl], fun i h1 h2 => ?_⟩
    cases i with
    | zero => exact hb
    | succ i => exact hm i (by simpa using h1) (by simpa using h2)
/-- a comprehension whose things are known by a property only -/
theorem compL_ex {f : D → Res (Option D)} {Q : D → Prop} : ∀ {l : List D}, (∀ d ∈ l, ∃ y, f d = .ok (some y) ∧ Q y) → ∃ ys, compL f l = .ok ys ∧ ys.length = l.length ∧ ∀ y ∈ ys, Q y
  | [], _ => ⟨[], rfl, rfl, fun _ h => nomatch h⟩
  | d :: l, h => by
    obtain ⟨y, e, q⟩ := h d List.mem_cons_self
    obtain ⟨ys, e2, hl, q2⟩ := compL_ex fun x hx => h x (List.mem_cons_of_mem _ hx)
    refine ⟨y :: ys, ?_, by simp [hl], fun z hz => ?_⟩
    · show (match f d with
        | .ok o => (match compL f l with
          | .ok ys => (match o with
            | some y => .ok (y :: ys)
            | none => .ok ys)
          | _ => .bad)
        | _ => .bad : Res (List D)) = _
      rw [e, e2]
    · rcases List.mem_cons.mp hz with rfl | hz
      · exact q
      · exact q2 z hz
theorem compD_ex {f : D → Res (Option D)} {Q : D → Prop} {l : List D} (hl : l.length ≤ 16777216) (h : ∀ d ∈ l, ∃ y, f d = .ok (some y) ∧ Q y) : ∃ ys, compD f (.list l) = .ok (.list ys) ∧ ys.length = l.length ∧ ∀ y ∈ ys, Q y := by
  obtain ⟨ys, e, h2⟩ := compL_ex h
  exact ⟨ys, compD_of hl e, h2⟩
theorem lift_map {α : Type} {g : α → D} {P : α → Prop} : ∀ {ys : List D}, (∀ y ∈ ys, ∃ a, y = g a ∧ P a) → ∃ l : List α, ys = l.map g ∧ ∀ a ∈ l, P a
  | [], _ => ⟨[], rfl, fun _ h => nomatch h⟩
  | y :: ys, h => by
    obtain ⟨a, rfl, p⟩ := h _ List.mem_cons_self
    obtain ⟨l, e, hl⟩ := lift_map fun x hx => h x (List.mem_cons_of_mem _ hx)
    refine ⟨a :: l, by rw [e]; rfl, fun b hb => ?_⟩
    rcases List.mem_cons.mp hb with rfl | hb
    · exact p
    · exact hl b hb
theorem strs_ex : ∀ {ys : List D}, (∀ y ∈ ys, ∃ c : Nat, y = .str ⟨#[c]⟩) → ∃ l : List Str, ys = l.map .str ∧ (l.map (·.length)).sum = l.length ∧ l.length = ys.length
  | [], _ => ⟨[], rfl, rfl, rfl⟩
  | y :: ys, h => by
    obtain ⟨c, rfl⟩ := h _ List.mem_cons_self
    obtain ⟨l, e, hs, hl⟩ := strs_ex fun x hx => h x (List.mem_cons_of_mem _ hx)
    refine ⟨⟨#[c]⟩ :: l, by rw [e]; rfl, ?_, by simp [hl]⟩
    rw [List.map_cons, List.sum_cons, hs, List.length_cons]
    show 1 + l.length = _
    omega
theorem rngL_mem {lo hi : Int} {d : D} (h : d ∈ rngL lo hi) : ∃ i : Int, lo ≤ i ∧ i < hi ∧ d = .int i := by
  unfold rngL at h
  obtain ⟨i, hi', rfl⟩ := List.mem_map.mp h
  rw [List.mem_range] at hi'
  exact ⟨_, by omega, by omega, rfl⟩
theorem rngL_len {lo hi : Int} : (rngL lo hi).length = (hi - lo).toNat := by unfold rngL; rw [List.length_map, List.length_range]
def bWord : S :=
  (.seq (.asg 1 (.lst (.cons (.cst (.str "tide")) (.cons (.cst (.str "gate")) (.cons (.cst (.str "ring")) (.cons (.cst (.str "pond")) (.cons (.cst (.str "wheel")) (.cons (.cst (.str "o")) (.cons (.cst (.str "s")) (.cons (.cst (.str "r")) (.cons (.cst (.str "seas")) (.cons (.cst (.str "se")) (.cons (.cst (.str "eas")) (.cons (.cst (.str "a")) .nil)))))))))))))) (.seq (.ifs (.cmp .Eq (.bin .Mod (.var 0) (.cst (.int 2))) (.cst (.int 0))) (.seq (.ret (.idx (.var 1) (.bin .Mod (.bin .FloorDiv (.var 0) (.cst (.int 2))) (.cst (.int 12))))) .nil) .nil) (.seq (.ret (.mth .join (.cst (.str "")) (.comp (.idx (.cst (.str "abcdefghijklmnopqrstuvwxyz")) (.bin .Mod (.bin .Add (.bin .FloorDiv (.var 0) (.cst (.int 2))) (.bin .Mult (.bin .Mult (.cst (.int 5)) (.var 2)) (.var 2))) (.cst (.int 26)))) (.one 2) (.irng (.cons (.bin .Add (.cst (.int 1)) (.bin .Mod (.bin .FloorDiv (.var 0) (.cst (.int 52))) (.cst (.int 8)))) .nil)) [2]))) .nil)))
theorem word_spec (Γ : Rf.Ctx) (x : Int) : ∃ s : Str, run Γ .sh 3 bWord [.int x] = .ok (.str s) := by
  obtain ⟨d, e, s, rfl⟩ := run_wp (Γ := Γ) (fr := .sh) (s := bWord) (kk := 3) (ds := [.int x]) (P := fun d => ∃ s : Str, d = .str s) (by
    unfold bWord
    simp [List.replicate, mod_ok, fdiv_ok]
    refine ite_p (fun h => ?_) fun h => ?_
    · have h0 := Int.emod_nonneg (x / 2) (show (12 : Int) ≠ 0 by decide)
      have h1 := Int.emod_lt_of_pos (x / 2) (show (0 : Int) < 12 by decide)
      rw [show ([PyData.str "tide", PyData.str "gate", PyData.str "ring", PyData.str "pond", PyData.str "wheel", PyData.str "o", PyData.str "s", PyData.str "r", PyData.str "seas", PyData.str "se", PyData.str "eas", PyData.str "a"] : List D) = (["tide", "gate", "ring", "pond", "wheel", "o", "s", "r", "seas", "se", "eas", "a"] : List Str).map .str from rfl]
      obtain ⟨m, hm⟩ : ∃ m : Nat, x / 2 % 12 = m := ⟨(x / 2 % 12).toNat, by omega⟩
      have hm2 : m < (["tide", "gate", "ring", "pond", "wheel", "o", "s", "r", "seas", "se", "eas", "a"] : List Str).length := by
        show m < 12
        omega
      rw [hm, idx_map hm2]
      simp
    · have h0 := Int.emod_nonneg (x / 52) (show (8 : Int) ≠ 0 by decide)
      have h1 := Int.emod_lt_of_pos (x / 52) (show (0 : Int) < 8 by decide)
      simp [Kf_eq, mod_ok, fdiv_ok]
      rw [rng1 (sm62_of (by omega) (by omega))]
      simp only [bind_ok, seqOf_list, optL_some]
      generalize hc : compD _ (PyData.list (rngL 0 (1 + x / 52 % 8))) = r
      obtain ⟨ys, rfl, hl, hq⟩ : ∃ ys, r = .ok (.list ys) ∧ ys.length = (rngL 0 (1 + x / 52 % 8)).length ∧ ∀ y ∈ ys, ∃ c : Nat, y = .str ⟨#[c]⟩ := by
        rw [← hc]
        refine compD_ex (by rw [rngL_len]; omega) fun d hd => ?_
        obtain ⟨i, hi0, hi1, rfl⟩ := rngL_mem hd
        have h2 := Int.emod_nonneg (x / 2 + 5 * i * i) (show (26 : Int) ≠ 0 by decide)
        have h3 := Int.emod_lt_of_pos (x / 2 + 5 * i * i) (show (0 : Int) < 26 by decide)
        obtain ⟨c, e⟩ := idx_str (z := "abcdefghijklmnopqrstuvwxyz") (by decide) h2 h3
        simp [mul_ok_l, mul_ok_r (show -18446744073709551616 < i by omega) (show i < 18446744073709551616 by omega), mod_ok, e]
      obtain ⟨l, rfl, hs, hl2⟩ := strs_ex hq
      have hj := join_ok (a := "") (l := l) (by rw [hs, hl2, hl, rngL_len]; show _ + _ * 0 ≤ _; omega)
      rw [show rcv Mt.join (PyData.str (Str.ofString "")) = true from rfl]
      simp [hj])
  exact ⟨s, e⟩
def bNames : S :=
  (.seq (.asg 2 (.lst .nil)) (.seq (.fr (.one 3) (.iseq (.call true 0 (.cons (.var 0) (.cons (.cst (.int 40)) .nil)))) (.seq (.asg 4 (.call false 1 (.cons (.var 3) .nil))) (.seq (.ifs (.and (.cmp .NotEq (.var 4) (.cst (.str "sea"))) (.and (.cmp .NotIn (.var 4) (.var 2)) (.cmp .Lt (.blt .len (.cons (.var 2) .nil)) (.var 1)))) (.seq (.app 2 (.var 4)) .nil) .nil) .nil))) (.seq (.fr (.one 4) (.iseq (.lst (.cons (.cst (.str "pa")) (.cons (.cst (.str "pb")) (.cons (.cst (.str "pc")) .nil))))) (.seq (.ifs (.and (.cmp .Lt (.blt .len (.cons (.var 2) .nil)) (.var 1)) (.cmp .NotIn (.var 4) (.var 2))) (.seq (.app 2 (.var 4)) .nil) .nil) .nil)) (.seq (.ret (.var 2)) .nil))))
theorem three_in {l : List Str} (h1 : ("pa" : Str) ∈ l) (h2 : ("pb" : Str) ∈ l) (h3 : ("pc" : Str) ∈ l) : 3 ≤ l.length := by
  have n12 : ("pa" : Str) ≠ "pb" := by decide
  have n13 : ("pa" : Str) ≠ "pc" := by decide
  have n23 : ("pb" : Str) ≠ "pc" := by decide
  match l, h1, h2, h3 with
  | [a], h1, h2, h3 =>
    simp at h1 h2 h3
    exact absurd (h1.trans h2.symm) n12
  | [a, b], h1, h2, h3 =>
    simp at h1 h2 h3
    rcases h1 with h1 | h1 <;> rcases h2 with h2 | h2 <;> rcases h3 with h3 | h3 <;> first
      | exact absurd (h1.trans h2.symm) n12
      | exact absurd (h1.trans h3.symm) n13
      | exact absurd (h2.trans h3.symm) n23
  | _ :: _ :: _ :: _, _, _, _ => simp
theorem names_spec (Γ Γs Γw : Rf.Ctx) (k0 : ∀ ds, callD Γ 0 ds = run Γs .own 6 bStream (ds ++ [.int 0])) (k1 : ∀ ds, callD Γ 1 ds = run Γw .sh 3 bWord (ds ++ [])) (cell : Int) (m : Nat) (h1 : 1 ≤ m) (h3 : m ≤ 3) :
    ∃ l : List Str, run Γ .own 5 bNames [.int cell, .int m] = .ok (.list (l.map .str)) ∧ l.length = m := by
  obtain ⟨d, e, l, rfl, hl⟩ := run_wp (Γ := Γ) (fr := .own) (s := bNames) (kk := 5) (ds := [.int cell, .int m]) (P := fun d => ∃ l : List Str, d = .list (l.map .str) ∧ l.length = m) (by
    unfold bNames
    obtain ⟨xs, e1, hl, hx⟩ := stream_spec Γs cell 40 (by decide)
    have e1 : callD Γ 0 [.int cell, .int 40] = _ := (k0 _).trans e1
    simp [List.replicate, exec_for, e1]
    obtain ⟨I, hI⟩ : ∃ I : Nat → Sl → Prop, ∀ j ρ, I j ρ ↔ (∃ (l : List Str) (u3 u4 : Slot), ρ = [.sh (.int cell), .sh (.int m), .own (l.map .str), u3, u4] ∧ l.length ≤ m) := ⟨_, fun _ _ => Iff.rfl⟩
    refine wp_forL I ((hI _ _).mpr ⟨[], _, _, rfl, Nat.zero_le _⟩) ?_ ?_
    · intro j d ρ hd hr
      obtain ⟨l, u3, u4, rfl, hl⟩ := (hI _ _).mp hr
      obtain ⟨x, _, rfl⟩ := List.mem_map.mp (List.mem_of_getElem? hd)
      refine ⟨_, rfl, ?_⟩
      obtain ⟨s, e2⟩ := word_spec Γw x
      have e2 : callD Γ 1 [.int x] = _ := (k1 _).trans e2
      simp [e2, notIn_of in_strs]
      by_cases q1 : s = "sea"
      · simp [q1, Kf_eq]
        exact (hI _ _).mpr ⟨_, _, _, rfl, hl⟩
      · by_cases q2 : s ∈ l
        · simp [q1, q2, Kf_eq]
          exact (hI _ _).mpr ⟨_, _, _, rfl, hl⟩
        · by_cases q3 : l.length < m
          · simp [q1, q2, q3, Kf_eq, guardF_lt (show l.length < 16777216 by omega)]
            exact (hI _ _).mpr ⟨l ++ [s], _, _, by rw [List.map_append]; rfl, by simp; omega⟩
          · simp [q1, q2, q3, Kf_eq]
            exact (hI _ _).mpr ⟨_, _, _, rfl, hl⟩
    · intro ρ hr
      obtain ⟨l, u3, u4, rfl, hl⟩ := (hI _ _).mp hr
      simp [Kf_eq, exec_for]
      obtain ⟨J, hJ⟩ : ∃ J : Nat → Sl → Prop, ∀ j ρ, J j ρ ↔ (∃ (l : List Str) (u3 u4 : Slot), ρ = [.sh (.int cell), .sh (.int m), .own (l.map .str), u3, u4] ∧ l.length ≤ m ∧ (l.length = m ∨ ∀ i < j, ∀ s, (["pa", "pb", "pc"] : List Str)[i]? = some s → s ∈ l)) := ⟨_, fun _ _ => Iff.rfl⟩
      refine wp_forL J ((hJ _ _).mpr ⟨l, _, _, rfl, hl, .inr fun i h => absurd h (Nat.not_lt_zero _)⟩) ?_ ?_
      · intro j d ρ hd hr
        obtain ⟨l, u3, u4, rfl, hl, ho⟩ := (hJ _ _).mp hr
        have hd2 : ∃ s : Str, d = .str s ∧ (["pa", "pb", "pc"] : List Str)[j]? = some s := by
          match j, hd with
          | 0, hd => cases hd; exact ⟨_, rfl, rfl⟩
          | 1, hd => cases hd; exact ⟨_, rfl, rfl⟩
          | 2, hd => cases hd; exact ⟨_, rfl, rfl⟩
          | j + 3, hd => simp at hd
        obtain ⟨s, rfl, hs⟩ := hd2
        refine ⟨_, rfl, ?_⟩
        simp [notIn_of in_strs]
        have step : ∀ l' : List Str, (∀ x ∈ l, x ∈ l') → s ∈ l' → l.length ≤ l'.length → l'.length ≤ m → (l'.length = m ∨ ∀ i < j + 1, ∀ s, (["pa", "pb", "pc"] : List Str)[i]? = some s → s ∈ l') := fun l' h1 h2 h3 h4 => by
          rcases ho with ho | ho
          · left; omega
          · right
            intro i hi t ht
            by_cases q : i = j
            · subst q
              rw [hs] at ht
              cases ht
              exact h2
            · exact h1 t (ho i (by omega) t ht)
        by_cases q3 : l.length < m
        · by_cases q2 : s ∈ l
          · simp [q2, q3, Kf_eq]
            exact (hJ _ _).mpr ⟨_, _, _, rfl, hl, step l (fun _ h => h) q2 (Nat.le_refl _) hl⟩
          · simp [q2, q3, Kf_eq, guardF_lt (show l.length < 16777216 by omega)]
            exact (hJ _ _).mpr ⟨l ++ [s], _, _, by rw [List.map_append]; rfl, by simp; omega, step _ (fun _ h => List.mem_append_left _ h) (by simp) (by simp) (by simp; omega)⟩
        · simp [q3, Kf_eq]
          exact (hJ _ _).mpr ⟨_, _, _, rfl, hl, .inl (by omega)⟩
      · intro ρ hr
        obtain ⟨l, u3, u4, rfl, hl, ho⟩ := (hJ _ _).mp hr
        have hm : l.length = m := by
          rcases ho with ho | ho
          · exact ho
          · have := three_in (ho 0 (by decide) _ rfl) (ho 1 (by decide) _ rfl) (ho 2 (by decide) _ rfl)
            omega
        simp [Kf_eq]
        exact ⟨l, rfl, hm⟩)
  exact ⟨l, e, hl⟩
end Rf

/-! Rf: reflection. Part U: the maker of mills of k36 and k37. -/
namespace Rf
open PySem L2
def bMillA : S :=
  (.seq (.asg 1 (.bin .Mod (.var 0) (.cst (.int 2)))) (.seq (.asg 2 (.call true 0 (.cons (.bin .FloorDiv (.var 0) (.cst (.int 2))) (.cons (.cst (.int 9)) (.cons (.bin .Mult (.bin .Mult (.var 1) (.bin .Pow (.cst (.int 10)) (.cst (.int 60)))) (.bin .Pow (.cst (.int 10)) (.cst (.int 30)))) .nil))))) (.seq (.asg 3 (.idx (.lst (.cons (.cst (.int 1)) (.cons (.cst (.int 1)) (.cons (.cst (.int 1)) (.cons (.cst (.int 50)) .nil))))) (.bin .Mod (.idx (.var 2) (.cst (.int 0))) (.cst (.int 4))))) (.seq (.asg 4 (.call true 0 (.cons (.idx (.var 2) (.cst (.int 1))) (.cons (.cst (.int 27)) (.cons (.bin .Mult (.var 1) (.cst (.int 2003))) .nil))))) (.seq (.asg 5 (.lst .nil)) (.seq (.fr (.one 6) (.irng (.cons (.bin .Mod (.idx (.var 4) (.cst (.int 0))) (.cst (.int 4))) .nil)) (.seq (.asg 13 (.comp (.bin .Mult (.bin .Sub (.bin .Mod (.var 22) (.cst (.int 9))) (.cst (.int 4))) (.var 3)) (.one 22) (.iseq (.sl true (.var 4) (.bin .Add (.cst (.int 4)) (.bin .Mult (.cst (.int 8)) (.var 6))) (.bin .Add (.bin .Add (.cst (.int 5)) (.bin .Mult (.cst (.int 8)) (.var 6))) (.bin .Mod (.idx (.var 4) (.bin .Add (.cst (.int 3)) (.bin .Mult (.cst (.int 8)) (.var 6)))) (.cst (.int 6)))))) [22])) (.seq (.app 5 (.tup (.cons (.bin .Mod (.idx (.var 4) (.bin .Add (.cst (.int 2)) (.bin .Mult (.cst (.int 8)) (.var 6)))) (.cst (.int 1001))) (.cons (.blt .tuple (.cons (.var 13) .nil)) .nil)))) .nil))) (.seq (.asg 7 (.tup (.cons (.bin .Mult (.bin .Sub (.bin .Mod (.idx (.var 4) (.cst (.int 1))) (.cst (.int 9))) (.cst (.int 4))) (.var 3)) (.cons (.blt .tuple (.cons (.var 5) .nil)) .nil)))) (.seq (.asg 8 (.idx (.lst (.cons (.cst (.int 1)) (.cons (.cst (.int 2)) (.cons (.cst (.int 2)) (.cons (.cst (.int 3)) .nil))))) (.bin .Mod (.idx (.var 2) (.cst (.int 2))) (.cst (.int 4))))) (.seq (.asg 9 (.call true 1 (.cons (.idx (.var 2) (.cst (.int 3))) (.cons (.var 8) .nil)))) (.seq (.asg 4 (.call true 0 (.cons (.idx (.var 2) (.cst (.int 4))) (.cons (.cst (.int 9)) (.cons (.bin .Mult (.var 1) (.cst (.int 2003))) .nil))))) (.seq (.asg 10 (.lst .nil)) (.seq (.fr (.one 6) (.irng (.cons (.var 8) .nil)) (.seq (.asg 14 (.bin .Mult (.bin .Sub (.bin .Mod (.idx (.var 4) (.bin .Mult (.cst (.int 3)) (.var 6))) (.cst (.int 7))) (.cst (.int 4))) (.var 3))) (.seq (.asg 15 (.bin .Add (.cst (.int 1)) (.bin .Mod (.idx (.var 4) (.bin .Add (.bin .Mult (.cst (.int 3)) (.var 6)) (.cst (.int 1)))) (.idx (.lst (.cons (.cst (.int 3)) (.cons (.cst (.int 3)) (.cons (.cst (.int 100)) .nil)))) (.bin .Mod (.idx (.var 2) (.cst (.int 5))) (.cst (.int 3))))))) (.seq (.app 10 (.tup (.cons (.idx (.var 9) (.var 6)) (.cons (.var 15) (.cons (.var 14) (.cons (.bin .Add (.bin .Add (.var 14) (.cst (.int 1))) (.bin .Mod (.idx (.var 4) (.bin .Add (.bin .Mult (.cst (.int 3)) (.var 6)) (.cst (.int 2)))) (.bin .Mult (.cst (.int 5)) (.var 3)))) .nil)))))) .nil)))) (.seq (.asg 11 (.lst .nil)) (.seq (.asg 4 (.call true 0 (.cons (.idx (.var 2) (.cst (.int 6))) (.cons (.cst (.int 13)) (.cons (.bin .Mult (.var 1) (.cst (.int 2003))) .nil))))) (.seq (.fr (.one 6) (.irng (.cons (.bin .Mod (.idx (.var 4) (.cst (.int 12))) (.cst (.int 4))) .nil)) (.seq (.asg 16 (.bin .Mod (.idx (.var 4) (.bin .Mult (.cst (.int 4)) (.var 6))) (.bin .Add (.var 8) (.cst (.int 1))))) (.seq (.asg 17 (.bin .Mod (.bin .Add (.bin .Add (.var 16) (.cst (.int 1))) (.bin .Mod (.idx (.var 4) (.bin .Add (.bin .Mult (.cst (.int 4)) (.var 6)) (.cst (.int 1)))) (.var 8))) (.bin .Add (.var 8) (.cst (.int 1))))) (.seq (.asg 18 (.bin .Add (.cst (.int 1)) (.bin .Mod (.idx (.var 4) (.bin .Add (.bin .Mult (.cst (.int 4)) (.var 6)) (.cst (.int 3)))) (.idx (.lst (.cons (.cst (.int 3)) (.cons (.cst (.int 40)) (.cons (.cst (.int 1000)) .nil)))) (.bin .Mod (.idx (.var 2) (.cst (.int 7))) (.cst (.int 3))))))) (.seq (.app 11 (.tup (.cons (.bin .Sub (.var 16) (.cst (.int 1))) (.cons (.bin .Sub (.var 17) (.cst (.int 1))) (.cons (.bin .Mult (.bin .Sub (.bin .Mod (.idx (.var 4) (.bin .Add (.bin .Mult (.cst (.int 4)) (.var 6)) (.cst (.int 2)))) (.cst (.int 11))) (.cst (.int 6))) (.var 3)) (.cons (.var 18) .nil)))))) .nil))))) (.seq (.asg 12 (.lst .nil)) (.seq (.asg 4 (.call true 0 (.cons (.idx (.var 2) (.cst (.int 8))) (.cons (.cst (.int 16)) (.cons (.bin .Mult (.var 1) (.cst (.int 2003))) .nil))))) (.seq (.fr (.one 6) (.irng (.cons (.bin .Mod (.idx (.var 4) (.cst (.int 15))) (.cst (.int 4))) .nil)) (.seq (.asg 19 (.bin .Mod (.idx (.var 4) (.bin .Mult (.cst (.int 5)) (.var 6))) (.var 8))) (.seq (.asg 20 (.bin .Sub (.bin .Mod (.bin .Add (.bin .Add (.var 19) (.cst (.int 2))) (.bin .Mod (.idx (.var 4) (.bin .Add (.bin .Mult (.cst (.int 5)) (.var 6)) (.cst (.int 1)))) (.var 8))) (.bin .Add (.var 8) (.cst (.int 1)))) (.cst (.int 1)))) (.seq (.asg 21 (.bin .Add (.cst (.int 1)) (.bin .Mod (.idx (.var 4) (.bin .Add (.bin .Mult (.cst (.int 5)) (.var 6)) (.cst (.int 3)))) (.idx (.lst (.cons (.cst (.int 4)) (.cons (.cst (.int 4)) (.cons (.cst (.int 60)) .nil)))) (.bin .Mod (.idx (.var 2) (.cst (.int 0))) (.cst (.int 3))))))) (.seq (.app 12 (.tup (.cons (.var 19) (.cons (.var 20) (.cons (.bin .Add (.cst (.int 1)) (.bin .Mult (.bin .Mod (.idx (.var 4) (.bin .Add (.bin .Mult (.cst (.int 5)) (.var 6)) (.cst (.int 2)))) (.cst (.int 3))) (.var 3))) (.cons (.var 21) (.cons (.bin .Add (.cst (.int 1)) (.bin .Mod (.idx (.var 4) (.bin .Add (.bin .Mult (.cst (.int 5)) (.var 6)) (.cst (.int 4)))) (.cst (.int 1000)))) .nil))))))) .nil))))) (.seq (.ret (.tup (.cons (.var 7) (.cons (.blt .tuple (.cons (.var 10) .nil)) (.cons (.blt .tuple (.cons (.var 11) .nil)) (.cons (.blt .tuple (.cons (.var 12) .nil)) .nil)))))) .nil)))))))))))))))))))
/-- two sides of a gate, as the makers draw them -/
theorem two_sides (a b : Int) (q : Nat) (hq : 1 ≤ q) : 0 ≤ a % (q + 1) ∧ a % (q + 1) < q + 1 ∧ 0 ≤ (a % (q + 1) + 1 + b % q) % (q + 1) ∧ (a % (q + 1) + 1 + b % q) % (q + 1) < q + 1 ∧ a % (q + 1) ≠ (a % (q + 1) + 1 + b % q) % (q + 1) := by
  have h1 := Int.emod_nonneg a (show (q : Int) + 1 ≠ 0 by omega)
  have h2 := Int.emod_lt_of_pos a (show (0 : Int) < q + 1 by omega)
  have h3 := Int.emod_nonneg b (show (q : Int) ≠ 0 by omega)
  have h4 := Int.emod_lt_of_pos b (show (0 : Int) < q by omega)
  generalize a % ((q : Int) + 1) = x at *
  generalize b % (q : Int) = y at *
  have h5 := Int.emod_nonneg (x + 1 + y) (show (q : Int) + 1 ≠ 0 by omega)
  have h6 := Int.emod_lt_of_pos (x + 1 + y) (show (0 : Int) < q + 1 by omega)
  refine ⟨h1, h2, h5, h6, fun e => ?_⟩
  by_cases h : x + 1 + y < q + 1
  · rw [Int.emod_eq_of_lt (by omega) h] at e
    omega
  · have e2 : (x + 1 + y) % ((q : Int) + 1) = x + 1 + y - (q + 1) := by
      rw [← Int.sub_emod_right, Int.emod_eq_of_lt (by omega) (by omega)]
    omega
/-- a wheel's pond and tail -/
theorem two_tails (a b : Int) (q : Nat) (hq : 1 ≤ q) : 0 ≤ a % q ∧ a % q < q ∧ -1 ≤ (a % q + 2 + b % q) % (q + 1) - 1 ∧ (a % q + 2 + b % q) % (q + 1) - 1 < q ∧ a % q ≠ (a % q + 2 + b % q) % (q + 1) - 1 := by
  have h1 := Int.emod_nonneg a (show (q : Int) ≠ 0 by omega)
  have h2 := Int.emod_lt_of_pos a (show (0 : Int) < q by omega)
  have h3 := Int.emod_nonneg b (show (q : Int) ≠ 0 by omega)
  have h4 := Int.emod_lt_of_pos b (show (0 : Int) < q by omega)
  generalize a % (q : Int) = x at *
  generalize b % (q : Int) = y at *
  have h5 := Int.emod_nonneg (x + 2 + y) (show (q : Int) + 1 ≠ 0 by omega)
  have h6 := Int.emod_lt_of_pos (x + 2 + y) (show (0 : Int) < q + 1 by omega)
  refine ⟨h1, h2, by omega, by omega, fun e => ?_⟩
  by_cases h : x + 2 + y < q + 1
  · rw [Int.emod_eq_of_lt (by omega) h] at e
    omega
  · have e2 : (x + 2 + y) % ((q : Int) + 1) = x + 2 + y - (q + 1) := by
      rw [← Int.sub_emod_right, Int.emod_eq_of_lt (by omega) (by omega)]
    omega
theorem millA_spec (Γ Γs Γn Γw : Rf.Ctx) (k0 : ∀ ds, callD Γ 0 ds = run Γs .own 6 bStream (ds ++ [])) (k1 : ∀ ds, callD Γ 1 ds = run Γn .own 5 bNames (ds ++ []))
    (k2 : ∀ ds, callD Γn 0 ds = run Γs .own 6 bStream (ds ++ [.int 0])) (k3 : ∀ ds, callD Γn 1 ds = run Γw .sh 3 bWord (ds ++ [])) (cell : Int) : ∃ M : Mill, run Γ .sh 23 bMillA [.int cell] = .ok M.d ∧ M.Ok := by
  obtain ⟨P, hP⟩ : ∃ P : D → Prop, ∀ d, P d ↔ (∃ M : Mill, d = M.d ∧ M.Ok) := ⟨_, fun _ => Iff.rfl⟩
  obtain ⟨d, e, hd⟩ := run_wp (Γ := Γ) (fr := .sh) (s := bMillA) (kk := 23) (ds := [.int cell]) (P := P) (by
    unfold bMillA
    obtain ⟨f, hf⟩ : ∃ f : Int, cell % 2 = f := ⟨_, rfl⟩
    have hf01 : f = 0 ∨ f = 1 := by omega
    have hB : mulD (f * 1000000000000000000000000000000000000000000000000000000000000) 1000000000000000000000000000000 = .ok (.int (f * 1000000000000000000000000000000000000000000000000000000000000 * 1000000000000000000000000000000)) := by
      rcases hf01 with rfl | rfl <;> exact mul_okB (by decide)
    have hB0 : 0 ≤ f * 1000000000000000000000000000000000000000000000000000000000000 * 1000000000000000000000000000000 := by rcases hf01 with rfl | rfl <;> decide
    have hB1 : (f * 1000000000000000000000000000000000000000000000000000000000000 * 1000000000000000000000000000000).natAbs.log2 < 9000 := by rcases hf01 with rfl | rfl <;> decide
    have hC1 : (f * 2003).natAbs.log2 < 9000 := by rcases hf01 with rfl | rfl <;> decide
    obtain ⟨xs, e1, hl, hx⟩ := streamA_spec Γs (cell / 2) 9 (by decide) _ hB0 hB1
    have e1 : callD Γ 0 [.int (cell / 2), .int 9, .int (f * 1000000000000000000000000000000000000000000000000000000000000 * 1000000000000000000000000000000)] = _ := (k0 _).trans e1
    have st : ∀ (c : Int) (m : Nat), m ≤ 100000 → ∃ ys : List Int, callD Γ 0 [.int c, .int m, .int (f * 2003)] = .ok (.list (ys.map .int)) ∧ ys.length = m ∧ ∀ y ∈ ys, 0 ≤ y := fun c m hm => by
      obtain ⟨ys, e, h1, h2⟩ := streamA_spec Γs c m hm (f * 2003) (by omega) hC1
      exact ⟨ys, (k0 _).trans e, h1, h2⟩
    obtain ⟨far, hfm, hfar⟩ := pick_ints (l := [1, 1, 1, 50]) (x := nth xs 0) (n := 4) rfl (by decide)
    have hfar : idxD (.list [.int 1, .int 1, .int 1, .int 50]) (.int (nth xs 0 % 4)) = .ok (.int far) := hfar
    have far1 : 1 ≤ far ∧ far ≤ 50 := by
      simp at hfm
      omega
    have fb : ∀ z : Int, -10 ≤ z → z ≤ 10 → -500 ≤ z * far ∧ z * far ≤ 500 := fun z h1 h2 => by
      simp at hfm
      rcases hfm with rfl | rfl <;> omega
    obtain ⟨y1, e2, hl1, hy1⟩ := st (nth xs 1) 27 (by decide)
    have e2 : callD Γ 0 [.int (nth xs 1), .int 27, .int (f * 2003)] = _ := e2
    simp (disch := omega) [-List.map_map, List.replicate, exec_for, mod_ok, fdiv_ok, pow_ok, hf, mul_ok_l, hB, e1, idx_ints, hl, hfar, e2, hl1]
    rw [rng1 (sm62_of (by omega) (by omega))]
    simp only [toFl_ok, listF_l]
    obtain ⟨I, hI⟩ : ∃ I : Nat → Sl → Prop, ∀ j ρ, I j ρ ↔ (∃ (R : List (Int × List Int)) (u6 u13 : Slot), ρ = [.sh (.int cell), .sh (.int f), .own (xs.map .int), .sh (.int far), .own (y1.map .int), .own (R.map ringD), u6, .un, .un, .un, .un, .un, .un, u13, .un, .un, .un, .un, .un, .un, .un, .un, .un] ∧
      R.length = j ∧ ∀ r ∈ R, 0 ≤ r.1 ∧ r.2 ≠ [] ∧ ∀ h ∈ r.2, -1001 ≤ h ∧ h ≤ 1001) := ⟨_, fun _ _ => Iff.rfl⟩
    refine wp_rngL I ((hI _ _).mpr ⟨[], _, _, rfl, rfl, fun _ h => nomatch h⟩) ?_ ?_
    · intro j ρ hj hr
      obtain ⟨R, u6, u13, rfl, hRl, hR⟩ := (hI _ _).mp hr
      have hj3 : (j : Int) < 3 := by omega
      simp (disch := omega) [-List.map_map, exec_for, mod_ok, mul_ok_l, idx_ints, hl1]
      rw [cut_midZ (by omega) (by omega), ← List.map_take, ← List.map_drop, compD_ints (fun y => (y % 9 - 4) * far) (by rw [List.length_drop, List.length_take, hl1]; omega) (fun a _ => by simp (disch := omega) [mod_ok, mul_ok_l])]
      obtain ⟨H, hH, hHn, hHb⟩ : ∃ H : List Int, (((y1.take (5 + 8 * (j : Int) + nth y1 (3 + 8 * (j : Int)).toNat % 6).toNat).drop (4 + 8 * (j : Int)).toNat).map fun y => (y % 9 - 4) * far) = H ∧ H ≠ [] ∧ ∀ h ∈ H, -1001 ≤ h ∧ h ≤ 1001 := ⟨_, rfl, fun h0 => by
        have := congrArg List.length h0
        rw [List.length_map, List.length_drop, List.length_take, hl1, List.length_nil] at this
        omega, fun h hh => by
        obtain ⟨y, _, rfl⟩ := List.mem_map.mp hh
        have := fb (y % 9 - 4) (by omega) (by omega)
        omega⟩
      rw [hH]
      simp (disch := omega) [-List.map_map, guardF_lt, mod_ok, mul_ok_l, idx_ints, hl1]
      refine (hI (j + 1) _).mpr ⟨R ++ [(nth y1 (2 + 8 * (j : Int)).toNat % 1001, H)], _, _, by rw [List.map_append]; rfl, by rw [List.length_append, hRl]; rfl, fun r hr => ?_⟩
      rcases List.mem_append.mp hr with hr | hr
      · exact hR r hr
      · rcases List.mem_singleton.mp hr with rfl
        exact ⟨Int.emod_nonneg _ (by decide), hHn, hHb⟩
    · intro ρ hr
      obtain ⟨R, u6, u13, rfl, hRl, hR⟩ := (hI _ _).mp hr
      obtain ⟨many, hmm, hmany⟩ := pick_ints (l := [1, 2, 2, 3]) (x := nth xs 2) (n := 4) rfl (by decide)
      have hmany : idxD (.list [.int 1, .int 2, .int 2, .int 3]) (.int (nth xs 2 % 4)) = .ok (.int many) := hmany
      obtain ⟨q, rfl⟩ : ∃ q : Nat, many = q := ⟨many.toNat, by simp at hmm; omega⟩
      have hq : 1 ≤ q ∧ q ≤ 3 := by
        simp at hmm
        omega
      obtain ⟨nm, e3, hnl⟩ := names_spec Γn Γs Γw k2 k3 (nth xs 3) q hq.1 hq.2
      have e3 : callD Γ 1 [.int (nth xs 3), .int q] = _ := (k1 _).trans e3
      obtain ⟨y2, e4, hl2, hy2⟩ := st (nth xs 4) 9 (by decide)
      have e4 : callD Γ 0 [.int (nth xs 4), .int 9, .int (f * 2003)] = _ := e4
      simp (disch := omega) [-List.map_map, Kf_eq, exec_for, mod_ok, mul_ok_l, idx_ints, hl1, hl, hmany, e3, e4]
      rw [rng1 (sm62_of (by omega) (by omega))]
      simp only [toFl_ok, listF_l]
      obtain ⟨ar, harm, har⟩ := pick_ints (l := [3, 3, 100]) (x := nth xs 5) (n := 3) rfl (by decide)
      have har : idxD (.list [.int 3, .int 3, .int 100]) (.int (nth xs 5 % 3)) = .ok (.int ar) := har
      have har1 : 1 ≤ ar ∧ ar ≤ 100 := by
        simp at harm
        omega
      obtain ⟨I2, hI2⟩ : ∃ I : Nat → Sl → Prop, ∀ j ρ, I j ρ ↔ (∃ (ps : List MPond) (u6 u14 u15 : Slot), ρ = [.sh (.int cell), .sh (.int f), .own (xs.map .int), .sh (.int far), .own (y2.map .int), .own (R.map ringD), u6, .sh (seaD ((nth y1 1 % 9 - 4) * far) R), .sh (.int q), .own (nm.map .str), .own (ps.map pondD), .un, .un, u13, u14, u15, .un, .un, .un, .un, .un, .un, .un] ∧
        ps.length = j ∧ ∀ p ∈ ps, PondOk p) := ⟨_, fun _ _ => Iff.rfl⟩
      refine wp_rngL I2 ((hI2 _ _).mpr ⟨[], _, _, _, rfl, rfl, fun _ h => nomatch h⟩) ?_ ?_
      · intro j ρ hj hr
        obtain ⟨ps, u6, u14, u15, rfl, hpl, hps⟩ := (hI2 _ _).mp hr
        have ixn := idxA (g := PyData.str) (l := nm) (q := (j : Int)) (by omega) (by omega)
        simp (disch := omega) [-List.map_map, exec_for, mod_ok, mul_ok_l, idx_ints, hl2, hl, har, guardF_lt, ixn]
        refine (hI2 (j + 1) _).mpr ⟨ps ++ [⟨_, _, _, _⟩], _, _, _, by rw [List.map_append]; rfl, by rw [List.length_append, hpl]; rfl, fun p hp => ?_⟩
        rcases List.mem_append.mp hp with hp | hp
        · exact hps p hp
        · rcases List.mem_singleton.mp hp with rfl
          have h5 := Int.emod_nonneg (nth y2 (3 * (j : Int) + 2).toNat) (show 5 * far ≠ 0 by omega)
          have h6 := Int.emod_nonneg (nth y2 (3 * (j : Int) + 1).toNat) (show ar ≠ 0 by omega)
          have h7 := fb (nth y2 (3 * (j : Int)).toNat % 7 - 4) (by omega) (by omega)
          have h8 := Int.emod_lt_of_pos (nth y2 (3 * (j : Int) + 2).toNat) (show 0 < 5 * far by omega)
          have h9 := Int.emod_lt_of_pos (nth y2 (3 * (j : Int) + 1).toNat) (show 0 < ar by omega)
          exact ⟨by show 1 ≤ 1 + _; omega, Int.lt_of_lt_of_le (Int.lt_add_one_of_le (Int.le_refl _)) (Int.le_add_of_nonneg_right h5), ⟨by show 1 + _ ≤ _; omega, by show _ ≤ _ * far; omega, by show _ * far + 1 + _ ≤ _; omega⟩⟩
      · intro ρ hr
        obtain ⟨ps, u6, u14, u15, rfl, hpl, hps⟩ := (hI2 _ _).mp hr
        have hpl : ps.length = q := by omega
        obtain ⟨y3, e5, hl3, hy3⟩ := st (nth xs 6) 13 (by decide)
        have e5 : callD Γ 0 [.int (nth xs 6), .int 13, .int (f * 2003)] = _ := e5
        simp (disch := omega) [-List.map_map, Kf_eq, exec_for, mod_ok, mul_ok_l, idx_ints, hl, hl3, e5]
        rw [rng1 (sm62_of (by omega) (by omega))]
        simp only [toFl_ok, listF_l]
        obtain ⟨rt, hrtm, hrt⟩ := pick_ints (l := [3, 40, 1000]) (x := nth xs 7) (n := 3) rfl (by decide)
        have hrt : idxD (.list [.int 3, .int 40, .int 1000]) (.int (nth xs 7 % 3)) = .ok (.int rt) := hrt
        have hrt1 : 1 ≤ rt ∧ rt ≤ 1000 := by
          simp at hrtm
          omega
        obtain ⟨I3, hI3⟩ : ∃ I : Nat → Sl → Prop, ∀ j ρ, I j ρ ↔ (∃ (gs : List MGate) (u6 u16 u17 u18 : Slot), ρ = [.sh (.int cell), .sh (.int f), .own (xs.map .int), .sh (.int far), .own (y3.map .int), .own (R.map ringD), u6, .sh (seaD ((nth y1 1 % 9 - 4) * far) R), .sh (.int q), .own (nm.map .str), .own (ps.map pondD), .own (gs.map gateD), .un, u13, u14, u15, u16, u17, u18, .un, .un, .un, .un] ∧
          gs.length = j ∧ ∀ g ∈ gs, GateOk q g) := ⟨_, fun _ _ => Iff.rfl⟩
        refine wp_rngL I3 ((hI3 _ _).mpr ⟨[], _, _, _, _, rfl, rfl, fun _ h => nomatch h⟩) ?_ ?_
        · intro j ρ hj hr
          obtain ⟨gs, u6, u16, u17, u18, rfl, hgl, hgs⟩ := (hI3 _ _).mp hr
          simp (disch := omega) [-List.map_map, exec_for, mod_ok, mul_ok_l, idx_ints, hl3, hl, hrt, guardF_lt]
          refine (hI3 (j + 1) _).mpr ⟨gs ++ [⟨_, _, _, _⟩], _, _, _, _, by rw [List.map_append]; rfl, by rw [List.length_append, hgl]; rfl, fun g hg => ?_⟩
          rcases List.mem_append.mp hg with hg | hg
          · exact hgs g hg
          · rcases List.mem_singleton.mp hg with rfl
            have h6 := Int.emod_nonneg (nth y3 (4 * (j : Int) + 3).toNat) (show rt ≠ 0 by omega)
            have h7 := Int.emod_lt_of_pos (nth y3 (4 * (j : Int) + 3).toNat) (show 0 < rt by omega)
            have h8 := fb (nth y3 (4 * (j : Int) + 2).toNat % 11 - 6) (by omega) (by omega)
            have two := two_sides (nth y3 (4 * (j : Int)).toNat) (nth y3 (4 * (j : Int) + 1).toNat) q hq.1
            exact ⟨⟨by show -1 ≤ _ - 1; omega, by show _ - 1 < _; omega⟩, ⟨by show -1 ≤ _ - 1; omega, by show _ - 1 < _; omega⟩, by show _ - 1 ≠ _ - 1; omega, by show 1 ≤ 1 + _; omega, ⟨by show 1 + _ ≤ _; omega, by show _ ≤ _ * far; omega, by show _ * far ≤ _; omega⟩⟩
        · intro ρ hr
          obtain ⟨gs, u6, u16, u17, u18, rfl, hgl, hgs⟩ := (hI3 _ _).mp hr
          obtain ⟨y4, e6, hl4, hy4⟩ := st (nth xs 8) 16 (by decide)
          have e6 : callD Γ 0 [.int (nth xs 8), .int 16, .int (f * 2003)] = _ := e6
          simp (disch := omega) [-List.map_map, Kf_eq, exec_for, mod_ok, mul_ok_l, idx_ints, hl, hl4, e6]
          rw [rng1 (sm62_of (by omega) (by omega))]
          simp only [toFl_ok, listF_l]
          obtain ⟨dk, hdkm, hdk⟩ := pick_ints (l := [4, 4, 60]) (x := nth xs 0) (n := 3) rfl (by decide)
          have hdk : idxD (.list [.int 4, .int 4, .int 60]) (.int (nth xs 0 % 3)) = .ok (.int dk) := hdk
          have hdk1 : 1 ≤ dk ∧ dk ≤ 60 := by
            simp at hdkm
            omega
          obtain ⟨I4, hI4⟩ : ∃ I : Nat → Sl → Prop, ∀ j ρ, I j ρ ↔ (∃ (ws : List MWheel) (u6 u19 u20 u21 : Slot), ρ = [.sh (.int cell), .sh (.int f), .own (xs.map .int), .sh (.int far), .own (y4.map .int), .own (R.map ringD), u6, .sh (seaD ((nth y1 1 % 9 - 4) * far) R), .sh (.int q), .own (nm.map .str), .own (ps.map pondD), .own (gs.map gateD), .own (ws.map wheelD), u13, u14, u15, u16, u17, u18, u19, u20, u21, .un] ∧
            ws.length = j ∧ ∀ w ∈ ws, WheelOk q w) := ⟨_, fun _ _ => Iff.rfl⟩
          refine wp_rngL I4 ((hI4 _ _).mpr ⟨[], _, _, _, _, rfl, rfl, fun _ h => nomatch h⟩) ?_ ?_
          · intro j ρ hj hr
            obtain ⟨ws, u6, u19, u20, u21, rfl, hwl, hws⟩ := (hI4 _ _).mp hr
            simp (disch := omega) [-List.map_map, exec_for, mod_ok, mul_ok_l, idx_ints, hl4, hl, hdk, guardF_lt]
            refine (hI4 (j + 1) _).mpr ⟨ws ++ [⟨_, _, _, _, _⟩], _, _, _, _, by rw [List.map_append]; rfl, by rw [List.length_append, hwl]; rfl, fun w hw => ?_⟩
            rcases List.mem_append.mp hw with hw | hw
            · exact hws w hw
            · rcases List.mem_singleton.mp hw with rfl
              have h6 := Int.emod_nonneg (nth y4 (5 * (j : Int) + 3).toNat) (show dk ≠ 0 by omega)
              have h7 : 0 ≤ nth y4 (5 * (j : Int) + 2).toNat % 3 * far := Int.mul_nonneg (by omega) (by omega)
              have h8 := fb (nth y4 (5 * (j : Int) + 2).toNat % 3) (by omega) (by omega)
              have h9 := Int.emod_lt_of_pos (nth y4 (5 * (j : Int) + 3).toNat) (show 0 < dk by omega)
              have two := two_tails (nth y4 (5 * (j : Int)).toNat) (nth y4 (5 * (j : Int) + 1).toNat) q hq.1
              exact ⟨⟨two.1, two.2.1⟩, ⟨two.2.2.1, two.2.2.2.1⟩, two.2.2.2.2, by show 1 ≤ 1 + _; omega, by show 1 ≤ 1 + _; omega, by show 1 ≤ 1 + _; omega, ⟨by show 1 + _ * far ≤ _; omega, by show 1 + _ ≤ _; omega, by show 1 + _ ≤ _; omega⟩⟩
          · intro ρ hr
            obtain ⟨ws, u6, u19, u20, u21, rfl, hwl, hws⟩ := (hI4 _ _).mp hr
            simp [-List.map_map, Kf_eq]
            exact (hP _).mpr ⟨⟨(nth y1 1 % 9 - 4) * far, R, ps, gs, ws⟩, rfl, ⟨fun r hr => ⟨(hR r hr).1, (hR r hr).2.1⟩, by show 1 ≤ ps.length; omega, ⟨by show ps.length ≤ 3; omega, by show gs.length ≤ 3; omega, by show ws.length ≤ 3; omega⟩, hps, by show ∀ g ∈ gs, GateOk ps.length g; rw [hpl]; exact hgs, by show ∀ w ∈ ws, WheelOk ps.length w; rw [hpl]; exact hws, ⟨by show R.length ≤ 4; omega, by show -1000 ≤ _ * far ∧ _ * far ≤ 1000; have := fb (nth y1 1 % 9 - 4) (by omega) (by omega); omega, fun r hr => (hR r hr).2.2⟩⟩⟩)
  obtain ⟨M, rfl, hM⟩ := (hP d).mp hd
  exact ⟨M, e, hM⟩
end Rf

/-! Rf: reflection. Part V: the draw of the laws of seas. -/
namespace Rf
open PySem L2
theorem digits_text (m : Nat) : NumText.AllDigits (Str.ofString (toString (m : Int))).cps.toList := fun c hc => by
  rw [PyProof.Rows.signs_ofString] at hc
  obtain ⟨ch, hch, rfl⟩ := List.mem_map.mp hc
  have e : toString ((m : Nat) : Int) = Nat.repr m := rfl
  rw [e, Nat.toList_repr] at hch
  exact PyProof.Rows.digit_range (Nat.isDigit_of_mem_toDigits (by decide) (by decide) hch)
/-- a nought and some signs of a number's text: a number -/
theorem int_cut (m : Nat) (lo hi : Option Int) (h : (cutS (Str.ofString (toString (m : Int))) lo hi).length ≤ 600) : ∃ n : Int, intD (.str (("0" : Str) ++ cutS (Str.ofString (toString (m : Int))) lo hi)) = .ok (.int n) := by
  have hz : (("0" : Str) ++ cutS (Str.ofString (toString (m : Int))) lo hi).cps.toList = 48 :: (cutS (Str.ofString (toString (m : Int))) lo hi).cps.toList := by
    show (("0" : Str).cps ++ (cutS (Str.ofString (toString (m : Int))) lo hi).cps).toList = _
    rw [Array.toList_append]; rfl
  have hl : (("0" : Str) ++ cutS (Str.ofString (toString (m : Int))) lo hi).length ≤ 640 := by
    have : (("0" : Str) ++ cutS (Str.ofString (toString (m : Int))) lo hi).length = (("0" : Str) ++ cutS (Str.ofString (toString (m : Int))) lo hi).cps.toList.length := by
      rw [Array.length_toList]; rfl
    rw [this, hz, List.length_cons]
    have h2 : (cutS (Str.ofString (toString (m : Int))) lo hi).cps.toList.length = (cutS (Str.ofString (toString (m : Int))) lo hi).length := by rw [Array.length_toList]; rfl
    omega
  have hd : NumText.AllDigits (("0" : Str) ++ cutS (Str.ofString (toString (m : Int))) lo hi).cps.toList := fun c hc => by
    rw [hz] at hc
    rcases List.mem_cons.mp hc with rfl | hc
    · exact ⟨by decide, by decide⟩
    · refine digits_text m c ?_
      unfold cutS at hc
      simp only [List.toList_toArray] at hc
      exact List.mem_of_mem_drop (List.mem_of_mem_take hc)
  have e := intText_digits hd (by rw [hz]; exact List.cons_ne_nil _ _) (by omega)
  refine ⟨((NumText.digitsVal (("0" : Str) ++ cutS (Str.ofString (toString (m : Int))) lo hi).cps.toList : Nat) : Int), ?_⟩
  show guard' (decide ((("0" : Str) ++ cutS (Str.ofString (toString (m : Int))) lo hi).length ≤ 640)) (match PySem.intText? (("0" : Str) ++ cutS (Str.ofString (toString (m : Int))) lo hi) with
    | some n => Res.ok (PyData.int n)
    | none => .bad) = _
  rw [decide_eq_true hl, e]
  rfl
theorem cutS_len {z : Str} {p : Nat} : (cutS z (some (4 * (p : Int))) (some (4 * (p : Int) + 4))).length ≤ 4 := by
  unfold cutS
  show (List.toArray _).size ≤ 4
  rw [List.size_toArray, List.length_take]
  rw [show (4 * (p : Int)) = ((4 * p : Nat) : Int) by omega, show (((4 * p : Nat) : Int) + 4) = ((4 * p + 4 : Nat) : Int) by omega, HT.sIx_nat, HT.sIx_nat]
  omega
theorem add_str {a b : Str} (h : a.length + b.length ≤ 16777216) : binD .Add (.str a) (.str b) = .ok (.str (a ++ b)) := by
  show guard' (decide (a.length + b.length ≤ lim)) _ = _
  rw [show decide (a.length + b.length ≤ lim) = true from decide_eq_true h]; rfl
theorem cut_str {z : Str} {lo hi : Option Int} (h : z.length ≤ 16777216) : slD false (.str z) lo hi = .ok (.str (cutS z lo hi)) := by
  show guard' (!false && decide (z.length ≤ lim)) _ = _
  rw [show decide (z.length ≤ lim) = true from decide_eq_true h]; rfl
theorem str_small (W : Nat) (hW : W ≤ 10 ^ 1000) (y : Nat) (hy : y < W) : strLD (.int (y : Int)) = .ok (.str (Str.ofString (toString (y : Int)))) := by
  have h : (y : Int).natAbs < 10 ^ 1000 := Nat.lt_of_lt_of_le hy hW
  show guard' (decide ((y : Int).natAbs < 10 ^ 1000)) _ = _
  rw [decide_eq_true h]; rfl
def pT : Int := 1000000000000000000000000000000000000000000000000000000000000
def pU : Int := pT ^ 15
theorem pT_ok : powD 10 60 = .ok (.int pT) := pow_ok (by decide) (by decide) (by decide)
theorem pU_ok : powD pT 15 = .ok (.int pU) := pow_okL (by decide) (by decide +kernel)
theorem pU_pos : 0 < pU := by decide +kernel
theorem pU_le : pU ≤ ((10 ^ 900 : Nat) : Int) := by decide +kernel
theorem pow_chain : ∃ T U : Int, ∃ W : Nat, powD 10 60 = .ok (.int T) ∧ powD T 15 = .ok (.int U) ∧ 0 < U ∧ U ≤ W ∧ W ≤ 10 ^ 1000 := 
  ⟨pT, pU, 10 ^ 900, pT_ok, pU_ok, pU_pos, pU_le, Nat.pow_le_pow_right (by decide) (by decide)⟩
theorem len_small (W : Nat) (hW : W ≤ 10 ^ 1000) (y : Nat) (hy : y < W) : (Str.ofString (toString (y : Int))).length ≤ 16777216 := by
  have := PySem.int_text_fits10 (a := (y : Int)) (Nat.lt_of_lt_of_le (Nat.lt_of_lt_of_le hy hW) (Nat.pow_le_pow_right (by decide) (by decide)))
  rwa [sizeLine_eq] at this
/-- the text of a rest by a great number, and its cuts, read as numbers -/
theorem big_text : ∃ T U : Int, powD 10 60 = .ok (.int T) ∧ powD T 15 = .ok (.int U) ∧ 0 < U ∧ ∀ x : Int, ∃ z : Str, strLD (.int (x % U)) = .ok (.str z) ∧ z.length ≤ 16777216 ∧
    ∀ t : Nat, (("0" : Str).length + (cutS z (some (4 * (t : Int))) (some (4 * (t : Int) + 4))).length ≤ 16777216) ∧ ∃ n : Int, intD (.str (("0" : Str) ++ cutS z (some (4 * (t : Int))) (some (4 * (t : Int) + 4)))) = .ok (.int n) := by
  obtain ⟨T, U, W, p1, p2, U0, U1, hW⟩ := pow_chain
  refine ⟨T, U, p1, p2, U0, ?_⟩
  intro x
  have m0 := Int.emod_nonneg x (show U ≠ 0 by clear hW p1 p2; omega)
  have m1 := Int.emod_lt_of_pos x U0
  obtain ⟨y, hy⟩ := Int.eq_ofNat_of_zero_le m0
  have hy1 : y < W := by clear hW p1 p2; omega
  rw [hy]
  refine ⟨Str.ofString (toString (y : Int)), str_small W hW y hy1, len_small W hW y hy1, ?_⟩
  intro t
  clear hW p1 p2 hy1 hy U1 U0 m0 m1
  have hc := cutS_len (z := Str.ofString (toString (y : Int))) (p := t)
  have h0 : ("0" : Str).length = 1 := rfl
  exact ⟨by omega, int_cut y (some (4 * (t : Int))) (some (4 * (t : Int) + 4)) (by omega)⟩
def bPickB : S :=
  (.seq (.asg 3 (.bin .Mod (.bin .Mult (.bin .Add (.bin .Add (.bin .Mod (.var 0) (.cst (.int 2147483647))) (.bin .Mult (.bin .Mult (.cst (.int 31)) (.var 1)) (.var 1))) (.cst (.int 1))) (.bin .Add (.cst (.int 48271)) (.bin .Mult (.cst (.int 40)) (.var 1)))) (.cst (.int 2147483629)))) (.seq (.asg 3 (.bin .Mod (.bin .Mult (.bin .Add (.bin .FloorDiv (.var 3) (.cst (.int 11))) (.bin .Mult (.cst (.int 17)) (.var 1))) (.cst (.int 69621))) (.cst (.int 2147483587)))) (.seq (.ret (.bin .Mod (.bin .FloorDiv (.var 3) (.cst (.int 7))) (.var 2))) .nil)))
def bPick : S :=
  (.seq (.ifs (.and (.cmp .Gt (.var 0) (.bin .Pow (.cst (.int 10)) (.cst (.int 12)))) (.cmp .Eq (.bin .Mod (.var 0) (.cst (.int 2))) (.cst (.int 1)))) (.seq (.asg 4 (.blt .strL (.cons (.bin .Mod (.bin .FloorDiv (.var 0) (.cst (.int 2))) (.bin .Pow (.bin .Pow (.cst (.int 10)) (.cst (.int 60))) (.cst (.int 15)))) .nil))) (.seq (.ret (.bin .Mod (.blt .int (.cons (.bin .Add (.cst (.str "0")) (.sl false (.var 4) (.bin .Mult (.cst (.int 4)) (.var 1)) (.bin .Add (.bin .Mult (.cst (.int 4)) (.var 1)) (.cst (.int 4))))) .nil)) (.var 2))) .nil)) .nil) bPickB)
theorem pick_spec (Γ : Rf.Ctx) (x : Int) (t : Nat) (ht : t ≤ 1000) (many : Int) (hm : 0 < many) : ∃ v : Int, run Γ .sh 5 bPick [.int x, .int t, .int many] = .ok (.int v) ∧ 0 ≤ v ∧ v < many := by
  obtain ⟨P, hP⟩ : ∃ P : D → Prop, ∀ d, P d ↔ (∃ v : Int, d = .int v ∧ 0 ≤ v ∧ v < many) := ⟨_, fun _ => Iff.rfl⟩
  have fin : ∀ y : Int, P (.int (y % many)) := fun y => (hP _).mpr ⟨_, rfl, Int.emod_nonneg _ (by omega), Int.emod_lt_of_pos _ hm⟩
  obtain ⟨d, e, hd⟩ := run_wp (Γ := Γ) (fr := .sh) (s := bPick) (kk := 5) (ds := [.int x, .int t, .int many]) (P := P) (by
    unfold bPick
    have p1 : powD 10 12 = .ok (.int 1000000000000) := pow_ok (by decide) (by decide) (by decide)
    obtain ⟨T, U, p2, p3, U0, big⟩ := big_text
    simp (disch := omega) [-List.map_map, List.replicate, p1, p2, p3, mod_ok]
    have tail : ∀ ρ : Sl, ρ = [.sh (.int x), .sh (.int t), .sh (.int many), .un, .un] → Kf Γ .sh bPickB No No No P ρ := fun ρ hρ => by
      subst hρ
      simp (disch := omega) [bPickB, Kf_eq, mul_ok_l, mul_ok_r, mod_ok, fdiv_ok, fin]
    by_cases c1 : 1000000000000 < x
    · by_cases c2 : x % 2 = 1
      · obtain ⟨z, hs, hlen, hz⟩ := big (x / 2)
        obtain ⟨h1, n, hn⟩ := hz t
        simp (disch := omega) [c1, c2, fdiv_ok, mod_ok, p2, p3, hs, mul_ok_l, cut_str hlen, add_str h1, hn, fin]
      · simp [c1, c2]
        exact tail _ rfl
    · simp [c1]
      exact tail _ rfl)
  obtain ⟨v, rfl, h⟩ := (hP d).mp hd
  exact ⟨v, e, h⟩
end Rf

/-! Rf: reflection. Part W: texts' signs, a thing out of a told list. -/
namespace Rf
open PySem L2
def ch (c : Nat) : D := .str ⟨#[c]⟩
theorem len_s {z : Str} (h : z.length ≤ 16777216) : lenD (.str z) = .ok (.int z.cps.toList.length) := by
  show guard' (decide (z.length ≤ lim)) _ = _
  rw [show decide (z.length ≤ lim) = true from decide_eq_true h, Array.length_toList]; rfl
theorem itStr_s {z : Str} : itStr (.str z) = some (z.cps.toList.map ch) := id rfl
def low (c : Nat) : Bool := decide (97 ≤ c ∧ c ≤ 122)
theorem letters_eq : ("abcdefghijklmnopqrstuvwxyz" : Str).cps.toList = (List.range 26).map (97 + ·) := by decide +kernel
theorem in_letters {c : Nat} : cmpB .In (ch c) (.str "abcdefghijklmnopqrstuvwxyz") = .ok (low c) := by
  show Res.ok (decide (c ∈ ("abcdefghijklmnopqrstuvwxyz" : Str).cps.toList)) = _
  congr 1
  unfold low
  refine decide_eq_decide.mpr ?_
  rw [letters_eq, List.mem_map]
  constructor
  · rintro ⟨a, h, rfl⟩
    rw [List.mem_range] at h
    omega
  · intro h
    exact ⟨c - 97, List.mem_range.mpr (by omega), by omega⟩
theorem lt_one {a b : Nat} : ([a] < [b] : Prop) ↔ a < b := by
  constructor
  · intro h
    cases h with
    | rel h => exact h
    | cons h => cases h
  · intro h
    exact List.Lex.rel h
theorem le_aS {c : Nat} : cmpB .LtE (.str "a") (ch c) = .ok (decide (97 ≤ c)) := by
  show Res.ok (!decide (([c] : List Nat) < ("a" : Str).cps.toList)) = _
  rw [show ("a" : Str).cps.toList = [97] from rfl, ← decide_not]
  congr 1
  refine decide_eq_decide.mpr ?_
  rw [lt_one]; omega
theorem le_zS {c : Nat} : cmpB .LtE (ch c) (.str "z") = .ok (decide (c ≤ 122)) := by
  show Res.ok (!decide (("z" : Str).cps.toList < ([c] : List Nat))) = _
  rw [show ("z" : Str).cps.toList = [122] from rfl, ← decide_not]
  congr 1
  refine decide_eq_decide.mpr ?_
  rw [lt_one]; omega
theorem idx_all {l : List D} {q : Int} (P : D → Prop) (h : ∀ d ∈ l, P d) (h0 : 0 ≤ q) (h1 : q < l.length) : ∃ d, idxD (.list l) (.int q) = .ok d ∧ P d := by
  refine ⟨_, idx_list h0 h1, ?_⟩
  have h2 : q.toNat < l.length := by omega
  rw [nthD_eq h2]
  exact h _ (List.getElem_mem h2)
theorem cutS_le {z : Str} {lo hi : Option Int} : (cutS z lo hi).length ≤ z.length := by
  unfold cutS
  show (List.toArray _).size ≤ z.cps.size
  rw [List.size_toArray, List.length_take, List.length_drop, Array.length_toList]
  show min _ (z.cps.size - _) ≤ _
  omega
theorem app_len {a b : Str} : (a ++ b).length = a.length + b.length := by
  show (a.cps ++ b.cps).size = _
  rw [Array.size_append]; rfl
theorem strs_one : ∀ {ys : List D}, (∀ y ∈ ys, ∃ c : Nat, y = .str ⟨#[c]⟩) → ∃ l : List Str, ys = l.map .str ∧ (∀ a ∈ l, a.length = 1) ∧ l.length = ys.length
  | [], _ => ⟨[], rfl, fun _ h => (nomatch h), rfl⟩
  | y :: ys, h => by
    obtain ⟨c, rfl⟩ := h _ List.mem_cons_self
    obtain ⟨l, e, hs, hl⟩ := strs_one fun x hx => h x (List.mem_cons_of_mem _ hx)
    refine ⟨⟨#[c]⟩ :: l, by rw [e]; rfl, fun a ha => ?_, by simp [hl]⟩
    rcases List.mem_cons.mp ha with rfl | ha
    · rfl
    · exact hs a ha
/-- texts of one sign each, joined -/
theorem join_one {ys : List D} (h : ∀ y ∈ ys, ∃ c : Nat, y = .str ⟨#[c]⟩) (hl : ys.length ≤ 16777216) : ∃ w : Str, mthD .join (.str "") (.list ys) = .ok (.str w) ∧ w.length = ys.length := by
  obtain ⟨l, rfl, h1, h2⟩ := strs_one h
  refine ⟨Txt.join "" l, join_ok ?_, ?_⟩
  · have : (l.map (·.length)).sum = l.length := by
      clear h hl h2
      induction l with
      | nil => rfl
      | cons a l ih =>
        rw [List.map_cons, List.sum_cons, ih fun x hx => h1 x (List.mem_cons_of_mem _ hx), h1 a List.mem_cons_self, List.length_cons]; omega
    rw [this, h2]
    show _ + _ * 0 ≤ _
    omega
  · rw [← h2]
    exact PySem.W.KT.join_ones l h1
end Rf

/-! Rf: reflection. Part X: the sea: the program's defs, and how the laws make and read one. -/
namespace Rf
open PySem L2
def bRingAt : S :=
  (.seq (.unp [2, 3] (.var 0)) (.seq (.ret (.idx (.var 3) (.bin .Mod (.bin .Add (.var 1) (.var 2)) (.blt .len (.cons (.var 3) .nil))))) .nil))
def bSeaAt : S :=
  (.seq (.unp [2, 3] (.var 0)) (.seq (.ret (.bin .Add (.var 2) (.blt .sum (.cons (.comp (.call false 0 (.cons (.var 4) (.cons (.var 1) .nil))) (.one 4) (.iseq (.var 3)) [4]) .nil)))) .nil))
def bCommon : S :=
  (.seq (.whl (.cmp .Gt (.var 1) (.cst (.int 0))) (.seq (.par 0 1 (.var 1) (.bin .Mod (.var 0) (.var 1))) .nil)) (.seq (.ret (.var 0)) .nil))
def bWholeOf : S :=
  (.seq (.asg 1 (.cst (.int 1))) (.seq (.fr (.one 2) (.iseq (.var 0)) (.seq (.asg 1 (.bin .FloorDiv (.bin .Mult (.var 1) (.var 2)) (.call false 0 (.cons (.var 1) (.cons (.var 2) .nil))))) .nil)) (.seq (.ret (.var 1)) .nil)))
def bWholeRound : S :=
  (.seq (.ret (.call false 0 (.cons (.comp (.blt .len (.cons (.idx (.var 1) (.cst (.int 1))) .nil)) (.one 1) (.iseq (.idx (.var 0) (.cst (.int 1)))) [1]) .nil))) .nil)
def bHeightsOf : S :=
  (.seq (.ret (.comp (.call false 1 (.cons (.var 0) (.cons (.var 1) .nil))) (.one 1) (.irng (.cons (.call false 0 (.cons (.var 0) .nil)) .nil)) [1])) .nil)
def bManyOf : S :=
  (.seq (.asg 1 (.cst (.int 1))) (.seq (.fr (.one 2) (.iseq (.var 0)) (.seq (.asg 3 (.var 1)) (.seq (.whl (.cmp .Gt (.bin .Mod (.var 1) (.var 2)) (.cst (.int 0))) (.seq (.asg 1 (.bin .Add (.var 1) (.var 3))) .nil)) .nil))) (.seq (.ret (.var 1)) .nil)))
def bRing : S :=
  (.seq (.asg 1 (.idx (.lst (.cons (.cst (.int 1)) (.cons (.cst (.int 2)) (.cons (.cst (.int 3)) (.cons (.cst (.int 4)) (.cons (.cst (.int 5)) (.cons (.cst (.int 7)) (.cons (.cst (.int 9)) (.cons (.cst (.int 16)) (.cons (.cst (.int 35)) (.cons (.cst (.int 48)) (.cons (.cst (.int 59)) (.cons (.cst (.int 60)) .nil))))))))))))) (.call false 0 (.cons (.var 0) (.cons (.cst (.int 1)) (.cons (.cst (.int 12)) .nil)))))) (.seq (.ifs (.cmp .Gt (.call false 0 (.cons (.var 0) (.cons (.cst (.int 2)) (.cons (.cst (.int 3)) .nil)))) (.cst (.int 0))) (.seq (.asg 1 (.bin .Add (.cst (.int 1)) (.bin .Mod (.var 1) (.cst (.int 6))))) .nil) .nil) (.seq (.asg 2 (.idx (.lst (.cons (.cst (.int 3)) (.cons (.cst (.int 21)) (.cons (.cst (.int 2001)) .nil)))) (.call false 0 (.cons (.var 0) (.cons (.cst (.int 3)) (.cons (.cst (.int 3)) .nil)))))) (.seq (.asg 3 (.blt .tuple (.cons (.comp (.bin .Sub (.call false 0 (.cons (.var 0) (.cons (.bin .Add (.cst (.int 10)) (.var 4)) (.cons (.var 2) .nil)))) (.bin .FloorDiv (.var 2) (.cst (.int 2)))) (.one 4) (.irng (.cons (.var 1) .nil)) [4]) .nil))) (.seq (.ifs (.and (.cmp .Lt (.var 1) (.cst (.int 31))) (.cmp .Eq (.call false 0 (.cons (.var 0) (.cons (.cst (.int 4)) (.cons (.cst (.int 4)) .nil)))) (.cst (.int 0)))) (.seq (.asg 3 (.bin .Add (.var 3) (.var 3))) .nil) .nil) (.seq (.ret (.tup (.cons (.idx (.lst (.cons (.cst (.int 0)) (.cons (.cst (.int 1000)) (.cons (.call false 0 (.cons (.var 0) (.cons (.cst (.int 5)) (.cons (.cst (.int 1001)) .nil)))) (.cons (.call false 0 (.cons (.var 0) (.cons (.cst (.int 5)) (.cons (.cst (.int 7)) .nil)))) .nil))))) (.call false 0 (.cons (.var 0) (.cons (.cst (.int 6)) (.cons (.cst (.int 4)) .nil))))) (.cons (.var 3) .nil)))) .nil))))))
def bSea : S :=
  (.seq (.asg 1 (.lst .nil)) (.seq (.fr (.one 2) (.iseq (.var 0)) (.seq (.asg 5 (.call false 0 (.cons (.var 2) .nil))) (.seq (.ifs (.and (.cmp .Gt (.blt .len (.cons (.var 1) .nil)) (.cst (.int 0))) (.cmp .Eq (.call false 1 (.cons (.var 2) (.cons (.cst (.int 7)) (.cons (.cst (.int 6)) .nil)))) (.cst (.int 0)))) (.seq (.asg 5 (.tup (.cons (.idx (.idx (.var 1) (.neg (.cst (.int 1)))) (.cst (.int 0))) (.cons (.blt .tuple (.cons (.comp (.bin .Sub (.cst (.int 0)) (.var 6)) (.one 6) (.iseq (.idx (.idx (.var 1) (.neg (.cst (.int 1)))) (.cst (.int 1)))) [6]) .nil)) .nil)))) .nil) .nil) (.seq (.ifs (.and (.cmp .Gt (.call false 1 (.cons (.var 2) (.cons (.cst (.int 8)) (.cons (.cst (.int 4)) .nil)))) (.cst (.int 0))) (.cmp .LtE (.call false 2 (.cons (.comp (.blt .len (.cons (.idx (.var 7) (.cst (.int 1))) .nil)) (.one 7) (.iseq (.cat (.var 1) (.lst (.cons (.var 5) .nil)))) [7]) .nil)) (.cst (.int 5040)))) (.seq (.app 1 (.var 5)) .nil) .nil) .nil)))) (.seq (.asg 3 (.call false 3 (.cons (.var 0) (.cons (.cst (.int 0)) .nil)))) (.seq (.asg 4 (.idx (.lst (.cons (.cst (.int 0)) (.cons (.cst (.int 1000)) (.cons (.neg (.cst (.int 1000))) (.cons (.bin .Sub (.call false 1 (.cons (.var 3) (.cons (.cst (.int 9)) (.cons (.cst (.int 2001)) .nil)))) (.cst (.int 1000))) .nil))))) (.call false 1 (.cons (.var 3) (.cons (.cst (.int 80)) (.cons (.cst (.int 4)) .nil)))))) (.seq (.ret (.tup (.cons (.var 4) (.cons (.blt .tuple (.cons (.var 1) .nil)) .nil)))) .nil)))))
def bHeight : S :=
  (.seq (.asg 2 (.idx (.var 0) (.cst (.int 0)))) (.seq (.fr (.tup [3, 4]) (.iseq (.idx (.var 0) (.cst (.int 1)))) (.seq (.asg 2 (.bin .Add (.var 2) (.idx (.var 4) (.bin .Mod (.bin .Add (.var 3) (.var 1)) (.blt .len (.cons (.var 4) .nil)))))) .nil)) (.seq (.ret (.var 2)) .nil)))

def rAt (t : Int) (r : Int × List Int) : Int := nth r.2 ((t + r.1) % r.2.length).toNat
def seaAt (b : Int) (rs : List (Int × List Int)) (t : Int) : Int := b + (rs.map (rAt t)).sum
def lcms (l : List Nat) : Nat := l.foldl Nat.lcm 1
def lens (rs : List (Int × List Int)) : List Nat := rs.map (·.2.length)
theorem ring_at_spec (Γ : Rf.Ctx) (r : Int × List Int) (t : Int) (h : r.2 ≠ []) : run Γ .sh 4 bRingAt [ringD r, .int t] = .ok (.int (rAt t r)) := by
  refine run_eq ?_
  unfold bRingAt
  have hl : 0 < r.2.length := List.length_pos_iff.mpr h
  have h1 := Int.emod_nonneg (t + r.1) (show (r.2.length : Int) ≠ 0 by omega)
  have h2 := Int.emod_lt_of_pos (t + r.1) (show (0 : Int) < r.2.length by omega)
  simp [-List.map_map, List.replicate, ringD, mod_ok (show (0 : Int) < r.2.length by omega), idx_intsT h1 h2, rAt]
theorem sea_at_spec (Γ Γr : Rf.Ctx) (k0 : ∀ ds, callD Γ 0 ds = run Γr .sh 4 bRingAt (ds ++ [])) (b : Int) (rs : List (Int × List Int)) (t : Int) (h : ∀ r ∈ rs, r.2 ≠ []) (hl : rs.length ≤ 16777216) :
    run Γ .sh 5 bSeaAt [seaD b rs, .int t] = .ok (.int (seaAt b rs t)) := by
  refine run_eq ?_
  unfold bSeaAt
  simp [-List.map_map, List.replicate, seaD]
  rw [compD_ints (rAt t) hl (by
    intro r hr
    have e : callD Γ 0 [ringD r, .int t] = _ := (k0 _).trans (ring_at_spec Γr r t (h r hr))
    simp [e])]
  simp [-List.map_map, seaAt]
theorem height_spec (Γ : Rf.Ctx) (b : Int) (rs : List (Int × List Int)) (t : Int) (h : ∀ r ∈ rs, r.2 ≠ []) : run Γ .sh 5 bHeight [seaD b rs, .int t] = .ok (.int (seaAt b rs t)) := by
  refine run_eq ?_
  unfold bHeight
  simp [-List.map_map, List.replicate, exec_for, seaD]
  obtain ⟨I, hI⟩ : ∃ I : Nat → Sl → Prop, ∀ j ρ, I j ρ ↔ (∃ (u3 u4 : Slot), ρ = [.sh (seaD b rs), .sh (.int t), .sh (.int (b + ((rs.take j).map (rAt t)).sum)), u3, u4]) := ⟨_, fun _ _ => Iff.rfl⟩
  refine wp_forL I ((hI _ _).mpr ⟨.un, .un, by simp [seaD]⟩) ?_ ?_
  · intro j d ρ hd hr
    obtain ⟨u3, u4, rfl⟩ := (hI _ _).mp hr
    rw [List.getElem?_map] at hd
    cases q1 : rs[j]? with
    | none => rw [q1] at hd; cases hd
    | some r =>
      rw [q1] at hd
      cases hd
      refine ⟨_, rfl, ?_⟩
      have ht : rs.take (j + 1) = rs.take j ++ [r] := by rw [List.take_add_one, q1]; rfl
      have hl : 0 < r.2.length := List.length_pos_iff.mpr (h r (List.mem_of_getElem? q1))
      have h1 := Int.emod_nonneg (r.1 + t) (show (r.2.length : Int) ≠ 0 by omega)
      have h2 := Int.emod_lt_of_pos (r.1 + t) (show (0 : Int) < r.2.length by omega)
      simp [-List.map_map, mod_ok (show (0 : Int) < r.2.length by omega), idx_intsT h1 h2]
      refine (hI _ _).mpr ⟨.sh (.int r.1), .sh (.tuple (r.2.map .int)), ?_⟩
      rw [ht, List.map_append, List.sum_append]
      simp [rAt, Int.add_assoc, Int.add_comm r.1 t]
  · intro ρ hr
    obtain ⟨u3, u4, rfl⟩ := (hI _ _).mp hr
    rw [List.length_map, List.take_length]
    simp [Kf_eq, seaAt]
theorem common_spec (Γ : Rf.Ctx) (a b : Nat) (hb : b < 2 ^ 61) : run Γ .sh 2 bCommon [.int a, .int b] = .ok (.int (Nat.gcd a b)) := by
  refine run_eq ?_
  unfold bCommon
  simp [List.replicate, exec_whl]
  obtain ⟨I, hI⟩ : ∃ I : Nat → Sl → Prop, ∀ m ρ, I m ρ ↔ (∃ (x : Nat), ρ = [.sh (.int x), .sh (.int m)] ∧ Nat.gcd x m = Nat.gcd a b) := ⟨_, fun _ _ => Iff.rfl⟩
  refine wp_whl I b (by unfold fuel; omega) ((hI _ _).mpr ⟨a, rfl, rfl⟩) ?_
  intro m ρ hr
  obtain ⟨x, rfl, hx⟩ := (hI _ _).mp hr
  by_cases c : 0 < m
  · refine ⟨true, by simp [c], ?_⟩
    simp [mod_ok (show (0 : Int) < m by omega)]
    exact ⟨x % m, Nat.mod_lt _ c, (hI _ _).mpr ⟨m, by simp, by rw [← hx, Nat.gcd_comm x m, Nat.gcd_rec m x, Nat.gcd_comm]⟩⟩
  · refine ⟨false, by simp [c], ?_⟩
    have : m = 0 := by omega
    subst this
    simp [Kf_eq]
    rw [← hx, Nat.gcd_zero_right]
theorem lcms_pos {l : List Nat} (h : ∀ n ∈ l, 0 < n) : 0 < lcms l := by
  unfold lcms
  have : ∀ (l : List Nat) (a : Nat), 0 < a → (∀ n ∈ l, 0 < n) → 0 < l.foldl Nat.lcm a := by
    intro l
    induction l with
    | nil => intro a ha _; exact ha
    | cons n l ih => intro a ha hl; exact ih _ (Nat.lcm_pos ha (hl n List.mem_cons_self)) fun m hm => hl m (List.mem_cons_of_mem _ hm)
  exact this l 1 (by decide) h
theorem lcms_snoc {l : List Nat} {n : Nat} : lcms (l ++ [n]) = Nat.lcm (lcms l) n := by
  unfold lcms
  rw [List.foldl_append]; rfl
theorem lcms_dvd {l : List Nat} {n : Nat} (h : n ∈ l) : n ∣ lcms l := by
  unfold lcms
  have : ∀ (l : List Nat) (a : Nat), (a ∣ l.foldl Nat.lcm a) ∧ ∀ n ∈ l, n ∣ l.foldl Nat.lcm a := by
    intro l
    induction l with
    | nil => intro a; exact ⟨Nat.dvd_refl _, fun _ h => nomatch h⟩
    | cons m l ih =>
      intro a
      have h1 := ih (Nat.lcm a m)
      refine ⟨Nat.dvd_trans (Nat.dvd_lcm_left _ _) h1.1, fun n hn => ?_⟩
      rcases List.mem_cons.mp hn with rfl | hn
      · exact Nat.dvd_trans (Nat.dvd_lcm_right _ _) h1.1
      · exact h1.2 n hn
  exact (this l 1).2 n h
def natD (n : Nat) : D := .int n
theorem whole_of_spec (Γ Γc : Rf.Ctx) (k0 : ∀ ds, callD Γ 0 ds = run Γc .sh 2 bCommon (ds ++ [])) (l : List Nat) (h : ∀ n ∈ l, 0 < n ∧ n < 1000000) :
    run Γ .sh 3 bWholeOf [.list (l.map natD)] = .ok (.int (lcms l)) := by
  refine run_eq ?_
  unfold bWholeOf
  simp [-List.map_map, List.replicate, exec_for]
  obtain ⟨I, hI⟩ : ∃ I : Nat → Sl → Prop, ∀ j ρ, I j ρ ↔ (∃ (u : Slot), ρ = [.sh (.list (l.map natD)), .sh (.int (lcms (l.take j) : Nat)), u]) := ⟨_, fun _ _ => Iff.rfl⟩
  refine wp_forL I ((hI _ _).mpr ⟨_, rfl⟩) ?_ ?_
  · intro j d ρ hd hr
    obtain ⟨u, rfl⟩ := (hI _ _).mp hr
    rw [List.getElem?_map] at hd
    cases q1 : l[j]? with
    | none => rw [q1] at hd; cases hd
    | some n =>
      rw [q1] at hd
      cases hd
      refine ⟨_, rfl, ?_⟩
      have hn := h n (List.mem_of_getElem? q1)
      have ht : l.take (j + 1) = l.take j ++ [n] := by rw [List.take_add_one, q1]; rfl
      have e : callD Γ 0 [.int (lcms (l.take j) : Nat), .int n] = _ := (k0 _).trans (common_spec Γc (lcms (l.take j)) n (by omega))
      have g1 : 0 < Nat.gcd (lcms (l.take j)) n := Nat.gcd_pos_of_pos_right _ hn.1
      have g2 : Nat.gcd (lcms (l.take j)) n ≤ n := Nat.gcd_le_right _ hn.1
      simp [-List.map_map, natD, mul_ok_r (n := (lcms (l.take j) : Int)) (q := (n : Int)) (by omega) (by omega), e, fdiv_ok (n := (lcms (l.take j) : Int) * n) (q := (Nat.gcd (lcms (l.take j)) n : Nat)) (by omega) (by omega)]
      refine (hI _ _).mpr ⟨.sh (natD n), ?_⟩
      rw [ht, lcms_snoc]
      rfl
  · intro ρ hr
    obtain ⟨u, rfl⟩ := (hI _ _).mp hr
    rw [List.length_map, List.take_length]
    simp [Kf_eq]
theorem many_of_spec (Γ : Rf.Ctx) (l : List Nat) (h : ∀ n ∈ l, 0 < n ∧ n < 1000000) :
    run Γ .sh 4 bManyOf [.list (l.map natD)] = .ok (.int (lcms l)) := by
  refine run_eq ?_
  unfold bManyOf
  simp [-List.map_map, List.replicate, exec_for]
  obtain ⟨I, hI⟩ : ∃ I : Nat → Sl → Prop, ∀ j ρ, I j ρ ↔ (∃ (u v : Slot), ρ = [.sh (.list (l.map natD)), .sh (.int (lcms (l.take j) : Nat)), u, v]) := ⟨_, fun _ _ => Iff.rfl⟩
  refine wp_forL I ((hI _ _).mpr ⟨_, _, rfl⟩) ?_ ?_
  · intro j d ρ hd hr
    obtain ⟨u, v, rfl⟩ := (hI _ _).mp hr
    rw [List.getElem?_map] at hd
    cases q1 : l[j]? with
    | none => rw [q1] at hd; cases hd
    | some n =>
      rw [q1] at hd
      cases hd
      refine ⟨_, rfl, ?_⟩
      have hn := h n (List.mem_of_getElem? q1)
      have ht : l.take (j + 1) = l.take j ++ [n] := by rw [List.take_add_one, q1]; rfl
      have hp : 0 < lcms (l.take j) := lcms_pos fun m hm => (h m (List.mem_of_mem_take hm)).1
      generalize hA : lcms (l.take j) = A at *
      simp [-List.map_map, natD, exec_whl]
      obtain ⟨J, hJ⟩ : ∃ J : Nat → Sl → Prop, ∀ m ρ, J m ρ ↔ (∃ k : Nat, ρ = [.sh (.list (l.map natD)), .sh (.int ((A * k : Nat) : Int)), .sh (.int n), .sh (.int A)] ∧ 1 ≤ k ∧ k ≤ n ∧ m = n - k ∧ ∀ i, 1 ≤ i → i < k → ¬ n ∣ A * i) := ⟨_, fun _ _ => Iff.rfl⟩
      refine wp_whl J (n - 1) (by unfold fuel; omega) ((hJ _ _).mpr ⟨1, by simp [natD], Nat.le_refl _, hn.1, rfl, fun i h1 h2 => by omega⟩) ?_
      intro m ρ hr
      obtain ⟨k, rfl, k1, k2, rfl, k3⟩ := (hJ _ _).mp hr
      obtain ⟨M, hM⟩ : ∃ M, M = A * k := ⟨_, rfl⟩
      rw [← hM]
      by_cases c : M % n = 0
      · refine ⟨false, by simp [mod_ok (show (0 : Int) < n by omega)]; omega, ?_⟩
        simp [Kf_eq]
        refine (hI _ _).mpr ⟨.sh (.int n), .sh (.int A), ?_⟩
        rw [hM] at c ⊢
        rw [ht, lcms_snoc, hA]
        have e : Nat.lcm A n = A * k := by
          have d1 : n ∣ A * k := Nat.dvd_of_mod_eq_zero c
          have d2 : Nat.lcm A n ∣ A * k := Nat.lcm_dvd (Nat.dvd_mul_right A k) d1
          obtain ⟨i, hi⟩ := Nat.dvd_lcm_left A n
          have l0 : 0 < Nat.lcm A n := Nat.lcm_pos hp hn.1
          have i0 : 1 ≤ i := by
            rcases Nat.eq_zero_or_pos i with rfl | hi0
            · omega
            · exact hi0
          by_cases q : i < k
          · exact absurd (hi ▸ Nat.dvd_lcm_right A n) (k3 i i0 q)
          · refine Nat.le_antisymm (Nat.le_of_dvd (Nat.mul_pos hp (by omega)) d2) ?_
            rw [hi]
            exact Nat.mul_le_mul_left _ (by omega)
        rw [e]
      · refine ⟨true, by simp [mod_ok (show (0 : Int) < n by omega)]; omega, ?_⟩
        rw [hM] at c
        have k4 : k < n := by
          rcases Nat.lt_or_ge k n with q | q
          · exact q
          · have : k = n := by omega
            subst this
            exact absurd (Nat.mul_mod_left A k) c
        simp [Kf_eq]
        refine ⟨n - (k + 1), by omega, (hJ _ _).mpr ⟨k + 1, ?_, by omega, by omega, rfl, ?_⟩⟩
        · rw [hM, Nat.mul_add, Nat.mul_one, Int.natCast_add, Int.natCast_mul]
        · intro i h1 h2
          rcases Nat.lt_or_ge i k with q | q
          · exact k3 i h1 q
          · have : i = k := by omega
            subst this
            exact fun dd => c (Nat.mod_eq_zero_of_dvd dd)
  · intro ρ hr
    obtain ⟨u, v, rfl⟩ := (hI _ _).mp hr
    rw [List.length_map, List.take_length]
    simp [Kf_eq]

theorem add_tup {a b : List D} (h : a.length + b.length ≤ 16777216) : binD .Add (.tuple a) (.tuple b) = .ok (.tuple (a ++ b)) := by
  show guard' (decide (a.length + b.length ≤ lim)) _ = _
  rw [show decide (a.length + b.length ≤ lim) = true from decide_eq_true h]; rfl
structure ROk (r : Int × List Int) : Prop where
  len : 1 ≤ r.2.length ∧ r.2.length ≤ 60
  sh : 0 ≤ r.1 ∧ r.1 ≤ 1000
  hs : ∀ x ∈ r.2, -1001 ≤ x ∧ x ≤ 1001
structure SeaOk (b : Int) (rs : List (Int × List Int)) : Prop where
  len : rs.length ≤ 4
  rok : ∀ r ∈ rs, ROk r
  few : lcms (lens rs) ≤ 5040
  base : -1000 ≤ b ∧ b ≤ 1000
theorem ring_spec (Γ Γp : Rf.Ctx) (k0 : ∀ ds, callD Γ 0 ds = run Γp .sh 5 bPick (ds ++ [])) (x : Int) : ∃ r, run Γ .sh 5 bRing [.int x] = .ok (ringD r) ∧ ROk r := by
  have pk : ∀ (t : Nat) (ht : t ≤ 1000) (many : Int) (hm : 0 < many), ∃ v : Int, callD Γ 0 [.int x, .int t, .int many] = .ok (.int v) ∧ 0 ≤ v ∧ v < many := fun t ht many hm => by
    obtain ⟨v, e, h⟩ := pick_spec Γp x t ht many hm
    exact ⟨v, (k0 _).trans e, h⟩
  obtain ⟨P, hP⟩ : ∃ P : D → Prop, ∀ d, P d ↔ (∃ r, d = ringD r ∧ ROk r) := ⟨_, fun _ => Iff.rfl⟩
  obtain ⟨d, e, hd⟩ := run_wp (Γ := Γ) (fr := .sh) (s := bRing) (kk := 5) (ds := [.int x]) (P := P) (by
    unfold bRing
    obtain ⟨v1, e1, v10, v11⟩ := pk 1 (by decide) 12 (by decide)
    obtain ⟨v2, e2, v20, v21⟩ := pk 2 (by decide) 3 (by decide)
    obtain ⟨v3, e3, v30, v31⟩ := pk 3 (by decide) 3 (by decide)
    obtain ⟨v4, e4, v40, v41⟩ := pk 4 (by decide) 4 (by decide)
    obtain ⟨v5, e5, v50, v51⟩ := pk 5 (by decide) 1001 (by decide)
    obtain ⟨v6, e6, v60, v61⟩ := pk 5 (by decide) 7 (by decide)
    obtain ⟨v7, e7, v70, v71⟩ := pk 6 (by decide) 4 (by decide)
    simp at e1 e2 e3 e4 e5 e6 e7
    obtain ⟨d1, q1, n, rfl, n0, n1⟩ := idx_all (l := [.int 1, .int 2, .int 3, .int 4, .int 5, .int 7, .int 9, .int 16, .int 35, .int 48, .int 59, .int 60]) (q := v1) (fun d => ∃ n : Int, d = .int n ∧ 1 ≤ n ∧ n ≤ 60) (by
      intro d hd
      simp at hd
      rcases hd with rfl | rfl | rfl | rfl | rfl | rfl | rfl | rfl | rfl | rfl | rfl | rfl <;> exact ⟨_, rfl, by decide⟩) v10 (by simpa using v11)
    obtain ⟨d2, q2, span, rfl, s0, s1⟩ := idx_all (l := [.int 3, .int 21, .int 2001]) (q := v3) (fun d => ∃ n : Int, d = .int n ∧ 3 ≤ n ∧ n ≤ 2001) (by
      intro d hd
      simp at hd
      rcases hd with rfl | rfl | rfl <;> exact ⟨_, rfl, by decide⟩) v30 (by simpa using v31)
    obtain ⟨d3, q3, sh, rfl, t0, t1⟩ := idx_all (l := [.int 0, .int 1000, .int v5, .int v6]) (q := v7) (fun d => ∃ n : Int, d = .int n ∧ 0 ≤ n ∧ n ≤ 1000) (by
      intro d hd
      simp at hd
      rcases hd with rfl | rfl | rfl | rfl <;> exact ⟨_, rfl, by omega, by omega⟩) v70 (by simpa using v71)
    have tail : ∀ (m : Int) (ρ : Sl), 1 ≤ m → m ≤ 60 → ρ = [.sh (.int x), .sh (.int m), .un, .un, .un] → Kf Γ .sh (match bRing with | .seq _ (.seq _ r) => r | _ => .nil) No No No P ρ := fun m ρ m0 m1 hρ => by
      subst hρ
      simp (disch := omega) [-List.map_map, bRing, Kf_eq, e3, q2, fdiv_ok]
      rw [rng1 (sm62_of (by omega) (by omega))]
      simp only [bind_ok, seqOf_list, optL_some]
      generalize hc : compD _ (PyData.list (rngL 0 m)) = r
      obtain ⟨ys, rfl, hl, hq⟩ : ∃ ys, r = .ok (.list ys) ∧ ys.length = (rngL 0 m).length ∧ ∀ y ∈ ys, ∃ c : Int, y = .int c ∧ -1001 ≤ c ∧ c ≤ 1001 := by
        rw [← hc]
        refine compD_ex (by rw [rngL_len]; omega) fun d hd => ?_
        obtain ⟨i, hi0, hi1, rfl⟩ := rngL_mem hd
        obtain ⟨v8, e8, v80, v81⟩ := pk (10 + i.toNat) (by omega) span (by omega)
        rw [show (((10 + i.toNat : Nat)) : Int) = 10 + i by omega] at e8
        simp (disch := omega) [e8, fdiv_ok]
        omega
      obtain ⟨hs, rfl, hhs⟩ := lift_map hq
      rw [rngL_len, List.length_map] at hl
      simp [-List.map_map]
      by_cases c1 : m < 31
      · by_cases c2 : v4 = 0
        · simp [-List.map_map, c1, e4, c2, add_tup (a := hs.map PyData.int) (b := hs.map PyData.int) (by simp; omega), Kf_eq, e5, e6, e7, q3]
          refine (hP _).mpr ⟨(sh, hs ++ hs), by simp [ringD], ⟨by simp; omega, ⟨t0, t1⟩, fun y hy => ?_⟩⟩
          rcases List.mem_append.mp hy with hy | hy <;> exact hhs y hy
        · simp [-List.map_map, c1, e4, c2, Kf_eq, e5, e6, e7, q3]
          exact (hP _).mpr ⟨(sh, hs), rfl, ⟨by simp; omega, ⟨t0, t1⟩, hhs⟩⟩
      · simp [-List.map_map, c1, Kf_eq, e5, e6, e7, q3]
        exact (hP _).mpr ⟨(sh, hs), rfl, ⟨by simp; omega, ⟨t0, t1⟩, hhs⟩⟩
    simp [-List.map_map, List.replicate, e1, q1, e2]
    by_cases c0 : 0 < v2
    · simp (disch := omega) [c0, mod_ok]
      exact tail _ _ (by omega) (by omega) rfl
    · simp [c0]
      exact tail _ _ n0 n1 rfl)
  obtain ⟨r, rfl, h⟩ := (hP d).mp hd
  exact ⟨r, e, h⟩

theorem lens_ok {rs : List (Int × List Int)} (h : ∀ r ∈ rs, ROk r) : ∀ n ∈ lens rs, 0 < n ∧ n < 1000000 := fun n hn => by
  obtain ⟨r, hr, rfl⟩ := List.mem_map.mp hn
  have := (h r hr).len
  omega
theorem idx_lastM {α : Type} {l : List α} {g : α → D} (h : l ≠ []) : idxD (.list (l.map g)) (.int (-1)) = .ok (g (l.getLast h)) := by
  rw [idx_last (by simpa using h)]
  rw [List.getLast_map]
theorem ev_lensD {Γ : Rf.Ctx} {rs : List (Int × List Int)} (hl : rs.length ≤ 16777216) {f : D → Res (Option D)} (hf : ∀ r, f (ringD r) = .ok (some (.int r.2.length))) : compD f (.list (rs.map ringD)) = .ok (.list ((lens rs).map natD)) := by
  rw [compD_map (fun r => natD r.2.length) hl (fun r _ => hf r)]
  unfold lens
  rw [List.map_map]; rfl
theorem sea_spec (Γ Γr Γp Γm Γc : Rf.Ctx) (k0 : ∀ ds, callD Γ 0 ds = run Γr .sh 5 bRing (ds ++ [])) (kr : ∀ ds, callD Γr 0 ds = run Γp .sh 5 bPick (ds ++ [])) (k1 : ∀ ds, callD Γ 1 ds = run Γp .sh 5 bPick (ds ++ []))
    (k2 : ∀ ds, callD Γ 2 ds = run Γm .sh 4 bManyOf (ds ++ [])) (k3 : ∀ ds, callD Γ 3 ds = run Γc .sh 2 bCellAt (ds ++ [])) (cs : List Int) (hcs : cs.length ≤ 4) :
    ∃ b rs, run Γ .sh 8 bSea [.list (cs.map .int)] = .ok (seaD b rs) ∧ SeaOk b rs := by
  have pk : ∀ (x : Int) (t : Nat) (ht : t ≤ 1000) (many : Int) (hm : 0 < many), ∃ v : Int, callD Γ 1 [.int x, .int t, .int many] = .ok (.int v) ∧ 0 ≤ v ∧ v < many := fun x t ht many hm => by
    obtain ⟨v, e, h⟩ := pick_spec Γp x t ht many hm
    exact ⟨v, (k1 _).trans e, h⟩
  obtain ⟨P, hP⟩ : ∃ P : D → Prop, ∀ d, P d ↔ (∃ b rs, d = seaD b rs ∧ SeaOk b rs) := ⟨_, fun _ => Iff.rfl⟩
  obtain ⟨d, e, hd⟩ := run_wp (Γ := Γ) (fr := .sh) (s := bSea) (kk := 8) (ds := [.list (cs.map .int)]) (P := P) (by
    unfold bSea
    simp [-List.map_map, List.replicate, exec_for]
    obtain ⟨I, hI⟩ : ∃ I : Nat → Sl → Prop, ∀ j ρ, I j ρ ↔ (∃ (rs : List (Int × List Int)) (u2 u5 u6 u7 : Slot), ρ = [.sh (.list (cs.map .int)), .own (rs.map ringD), u2, .un, .un, u5, u6, u7] ∧ rs.length ≤ j ∧ (∀ r ∈ rs, ROk r) ∧ lcms (lens rs) ≤ 5040) := ⟨_, fun _ _ => Iff.rfl⟩
    refine wp_forL I ((hI _ _).mpr ⟨[], _, _, _, _, rfl, Nat.le_refl _, (fun _ h => nomatch h), by decide⟩) ?_ ?_
    · intro j d ρ hd hr
      obtain ⟨rs, u2, u5, u6, u7, rfl, hl, hro, hlc⟩ := (hI _ _).mp hr
      obtain ⟨c, _, rfl⟩ := List.mem_map.mp (List.mem_of_getElem? hd)
      have hj : j < cs.length := by
        have := (List.getElem?_eq_some_iff.mp hd).1
        simpa using this
      refine ⟨_, rfl, ?_⟩
      obtain ⟨r, er, hr0⟩ := ring_spec Γr Γp kr c
      have er : callD Γ 0 [.int c] = _ := (k0 _).trans er
      obtain ⟨v7, e7, v70, v71⟩ := pk c 7 (by decide) 6 (by decide)
      obtain ⟨v8, e8, v80, v81⟩ := pk c 8 (by decide) 4 (by decide)
      simp at e7 e8
      have tail : ∀ (B : Sl → Prop) (r : Int × List Int) (u6 : Slot) (ρ : Sl), ROk r → ρ = [.sh (.list (cs.map .int)), .own (rs.map ringD), .sh (.int c), .un, .un, .sh (ringD r), u6, u7] →
          Kf Γ .sh (match bSea with | .seq _ (.seq (.fr _ _ (.seq _ (.seq _ r))) _) => r | _ => .nil) (I (j + 1)) (I (j + 1)) B P ρ := fun B r u6 ρ hr0 hρ => by
        subst hρ
        have hro' : ∀ x ∈ rs ++ [r], ROk x := fun x hx => by
          rcases List.mem_append.mp hx with hx | hx
          · exact hro x hx
          · rw [List.mem_singleton] at hx; subst hx; exact hr0
        have hm := many_of_spec Γm (lens (rs ++ [r])) (lens_ok hro')
        have hm : callD Γ 2 [.list ((lens (rs ++ [r])).map natD)] = _ := (k2 _).trans hm
        simp [-List.map_map, -List.map_append, bSea, Kf_eq, e8]
        by_cases c1 : 0 < v8
        · simp [-List.map_map, -List.map_append, c1]
          rw [catD_l (by simp; omega), show rs.map ringD ++ [ringD r] = (rs ++ [r]).map ringD by simp]
          simp only [bind_ok, seqOf_list, optL_some]
          rw [ev_lensD (Γ := Γ) (by simp; omega) (by intro r; simp [ringD])]
          simp [-List.map_map, -List.map_append, hm]
          by_cases c2 : lcms (lens (rs ++ [r])) ≤ 5040
          · have c2' : (lcms (lens (rs ++ [r])) : Int) ≤ 5040 := by omega
            simp [-List.map_map, -List.map_append, c2', Kf_eq, guardF_lt (show rs.length < 16777216 by omega)]
            exact (hI _ _).mpr ⟨rs ++ [r], _, _, _, _, by simp; exact ⟨rfl, rfl, rfl, rfl⟩, by simp; omega, hro', c2⟩
          · have c2' : ¬ (lcms (lens (rs ++ [r])) : Int) ≤ 5040 := by omega
            simp [-List.map_map, -List.map_append, c2', Kf_eq]
            exact (hI _ _).mpr ⟨rs, _, _, _, _, rfl, by omega, hro, hlc⟩
        · simp [-List.map_map, -List.map_append, c1, Kf_eq]
          exact (hI _ _).mpr ⟨rs, _, _, _, _, rfl, by omega, hro, hlc⟩
      simp [-List.map_map, er, e7]
      by_cases c1 : 0 < rs.length
      · have hne : rs ≠ [] := List.length_pos_iff.mp c1
        have hla := idx_lastM (g := ringD) hne
        have hlo := hro _ (List.getLast_mem hne)
        by_cases c2 : v7 = 0
        · generalize rs.getLast hne = lr at *
          simp [-List.map_map, c1, e7, c2, hla]
          have hc : ∀ f : D → Res (Option D), (∀ a : Int, f (.int a) = .ok (some (.int (0 - a)))) → compD f (.list (lr.2.map .int)) = .ok (.list ((lr.2.map fun a => 0 - a).map .int)) := fun f hf => compD_ints (fun a => 0 - a) (by have := hlo.len; omega) fun a _ => hf a
          rw [show idxD (ringD lr) (.int 0) = .ok (.int lr.1) by simp [ringD], show idxD (ringD lr) (.int 1) = .ok (.tuple (lr.2.map .int)) by simp [ringD]]
          simp [-List.map_map]
          rw [hc _ (fun a => by simp)]
          simp [-List.map_map]
          refine tail _ (lr.1, lr.2.map fun a => 0 - a) u6 _ ⟨by have := hlo.len; simpa using this, hlo.sh, fun y hy => ?_⟩ (by simp [ringD])
          obtain ⟨z, hz, rfl⟩ := List.mem_map.mp hy
          have := hlo.hs z hz
          omega
        · simp [-List.map_map, c1, e7, c2]
          exact tail _ r u6 _ hr0 rfl
      · simp [-List.map_map, c1]
        exact tail _ r u6 _ hr0 rfl
    · intro ρ hr
      obtain ⟨rs, u2, u5, u6, u7, rfl, hl, hro, hlc⟩ := (hI _ _).mp hr
      rw [List.length_map] at hl
      have e3 : callD Γ 3 [.list (cs.map .int), .int 0] = _ := (k3 _).trans (cell_at_spec Γc cs 0 (by decide))
      generalize nth cs (Int.toNat 0) = c at e3
      obtain ⟨v9, e9, v90, v91⟩ := pk c 9 (by decide) 2001 (by decide)
      obtain ⟨v8, e8, v80, v81⟩ := pk c 80 (by decide) 4 (by decide)
      simp at e9 e8
      obtain ⟨d1, q1, b, rfl, b0, b1⟩ := idx_all (l := [.int 0, .int 1000, .int (-1000), .int (v9 - 1000)]) (q := v8) (fun d => ∃ n : Int, d = .int n ∧ -1000 ≤ n ∧ n ≤ 1000) (by
        intro d hd
        simp at hd
        rcases hd with rfl | rfl | rfl | rfl <;> exact ⟨_, rfl, by omega, by omega⟩) v80 (by simpa using v81)
      simp [-List.map_map, Kf_eq, e3, e9, e8, q1]
      exact (hP _).mpr ⟨b, rs, rfl, ⟨by omega, hro, hlc, ⟨b0, b1⟩⟩⟩)
  obtain ⟨b, rs, rfl, h⟩ := (hP d).mp hd
  exact ⟨b, rs, e, h⟩
end Rf

/-! Rf: reflection. Part Y: the sea through its whole round; the least round; the next reach; the highest and lowest. -/
namespace Rf
open PySem L2
def bWhen : S :=
  (.seq (.asg 1 (.call false 0 (.cons (.var 0) (.cons (.cst (.int 81)) (.cons (.cst (.int 3)) .nil))))) (.seq (.ifs (.cmp .Eq (.var 1) (.cst (.int 0))) (.seq (.ret (.bin .Mod (.var 0) (.bin .Add (.bin .Pow (.cst (.int 10)) (.cst (.int 12))) (.cst (.int 1))))) .nil) .nil) (.seq (.ifs (.cmp .Eq (.var 1) (.cst (.int 1))) (.seq (.ret (.call false 0 (.cons (.var 0) (.cons (.cst (.int 82)) (.cons (.cst (.int 200)) .nil))))) .nil) .nil) (.seq (.ret (.bin .Sub (.bin .Pow (.cst (.int 10)) (.cst (.int 12))) (.call false 0 (.cons (.var 0) (.cons (.cst (.int 82)) (.cons (.cst (.int 9)) .nil)))))) .nil))))
def bNextReach : S :=
  (.seq (.fr (.one 3) (.irng (.cons (.call false 0 (.cons (.var 0) .nil)) .nil)) (.seq (.ifs (.cmp .GtE (.call false 1 (.cons (.var 0) (.cons (.bin .Add (.var 2) (.var 3)) .nil))) (.var 1)) (.seq (.ret (.bin .Add (.var 2) (.var 3))) .nil) .nil) .nil)) (.seq (.ret (.cst .none)) .nil))
def bHighest : S :=
  (.seq (.asg 1 (.call true 0 (.cons (.var 0) .nil))) (.seq (.ret (.tup (.cons (.blt .max1 (.cons (.var 1) .nil)) (.cons (.mth .index (.var 1) (.blt .max1 (.cons (.var 1) .nil))) .nil)))) .nil))
def bLowest : S :=
  (.seq (.asg 1 (.call true 0 (.cons (.var 0) .nil))) (.seq (.ret (.tup (.cons (.blt .min1 (.cons (.var 1) .nil)) (.cons (.mth .index (.var 1) (.blt .min1 (.cons (.var 1) .nil))) .nil)))) .nil))
def bRoundOf : S :=
  (.seq (.asg 1 (.call true 0 (.cons (.var 0) .nil))) (.seq (.asg 2 (.cst (.int 1))) (.seq (.frz 1) (.seq (.whl (.or (.cmp .Gt (.bin .Mod (.blt .len (.cons (.var 1) .nil)) (.var 2)) (.cst (.int 0))) (.not (.call false 1 (.cons (.var 1) (.cons (.var 2) .nil))))) (.seq (.asg 2 (.bin .Add (.var 2) (.cst (.int 1)))) (.seq (.frz 1) .nil))) (.seq (.ret (.var 2)) .nil)))))
def bComesRound : S :=
  (.seq (.ret (.cmp .Eq (.cat (.sl true (.var 0) (.var 1) .non) (.sl true (.var 0) .non (.var 1))) (.var 0))) .nil)

theorem pk_of (Γ Γp : Rf.Ctx) (i : Nat) (k0 : ∀ ds, callD Γ i ds = run Γp .sh 5 bPick (ds ++ [])) (x : Int) (t : Nat) (ht : t ≤ 1000) (many : Int) (hm : 0 < many) : ∃ v : Int, callD Γ i [.int x, .int t, .int many] = .ok (.int v) ∧ 0 ≤ v ∧ v < many := by
  obtain ⟨v, e, h⟩ := pick_spec Γp x t ht many hm
  exact ⟨v, (k0 _).trans e, h⟩
theorem cells4 {f : D → Res (Option D)} {g : Int → Int} (h : ∀ i : Int, 0 ≤ i → f (.int i) = .ok (some (.int (g i)))) : ∃ cs : List Int, compD f (.list (rngL 0 4)) = .ok (.list (cs.map .int)) ∧ cs.length = 4 := by
  obtain ⟨ys, e, hl, hq⟩ := compD_ex (f := f) (Q := fun d => ∃ c : Int, d = .int c ∧ True) (l := rngL 0 4) (by rw [rngL_len]; decide) fun d hd => by
    obtain ⟨i, h0, h1, rfl⟩ := rngL_mem hd
    exact ⟨_, h i h0, _, rfl, trivial⟩
  obtain ⟨cs, rfl, _⟩ := lift_map hq
  refine ⟨cs, e, ?_⟩
  rw [List.length_map, rngL_len] at hl
  exact hl
theorem cells4' {f : D → Res (Option D)} {r : Res D} (hc : compD f (.list (rngL 0 4)) = r) (g : Int → Int) (h : ∀ i : Int, 0 ≤ i → f (.int i) = .ok (some (.int (g i)))) : ∃ cs : List Int, r = .ok (.list (cs.map .int)) ∧ cs.length = 4 := by
  obtain ⟨cs, e, h2⟩ := cells4 h
  exact ⟨cs, hc ▸ e, h2⟩
theorem when_spec (Γ Γp : Rf.Ctx) (k0 : ∀ ds, callD Γ 0 ds = run Γp .sh 5 bPick (ds ++ [])) (x : Int) : ∃ t : Int, run Γ .sh 2 bWhen [.int x] = .ok (.int t) ∧ 0 ≤ t ∧ t ≤ 1000000000000 := by
  obtain ⟨P, hP⟩ : ∃ P : D → Prop, ∀ d, P d ↔ (∃ t : Int, d = .int t ∧ 0 ≤ t ∧ t ≤ 1000000000000) := ⟨_, fun _ => Iff.rfl⟩
  obtain ⟨d, e, hd⟩ := run_wp (Γ := Γ) (fr := .sh) (s := bWhen) (kk := 2) (ds := [.int x]) (P := P) (by
    unfold bWhen
    have p1 : powD 10 12 = .ok (.int 1000000000000) := pow_ok (by decide) (by decide) (by decide)
    obtain ⟨v1, e1, v10, v11⟩ := pk_of Γ Γp 0 k0 x 81 (by decide) 3 (by decide)
    obtain ⟨v2, e2, v20, v21⟩ := pk_of Γ Γp 0 k0 x 82 (by decide) 200 (by decide)
    obtain ⟨v3, e3, v30, v31⟩ := pk_of Γ Γp 0 k0 x 82 (by decide) 9 (by decide)
    simp at e1 e2 e3
    simp [List.replicate, e1]
    by_cases c1 : v1 = 0
    · simp (disch := omega) [c1, p1, mod_ok, hP]
      omega
    · by_cases c2 : v1 = 1
      · simp (disch := omega) [c1, c2, e2, Kf_eq, hP]
        omega
      · simp (disch := omega) [c1, c2, e3, p1, Kf_eq, hP]
        omega)
  obtain ⟨t, rfl, h⟩ := (hP d).mp hd
  exact ⟨t, e, h⟩
/-! ### the whole round -/
def many (rs : List (Int × List Int)) : Nat := lcms (lens rs)
def hts (b : Int) (rs : List (Int × List Int)) : List Int := (List.range (many rs)).map fun i : Nat => seaAt b rs (i : Int)
theorem many_pos {rs : List (Int × List Int)} (h : ∀ r ∈ rs, ROk r) : 0 < many rs := lcms_pos fun n hn => (lens_ok h n hn).1
theorem hts_len {b : Int} {rs : List (Int × List Int)} : (hts b rs).length = many rs := by unfold hts; rw [List.length_map, List.length_range]
theorem rAt_per {r : Int × List Int} {t q : Int} (h : (r.2.length : Int) ∣ q) : rAt (t + q) r = rAt t r := by
  obtain ⟨k, rfl⟩ := h
  unfold rAt
  rw [show t + r.2.length * k + r.1 = t + r.1 + r.2.length * k by omega, Int.add_mul_emod_self_left]
theorem seaAt_per {b : Int} {rs : List (Int × List Int)} {t q : Int} (h : (many rs : Int) ∣ q) : seaAt b rs (t + q) = seaAt b rs t := by
  unfold seaAt
  congr 2
  refine List.map_congr_left fun r hr => rAt_per ?_
  have h1 : r.2.length ∣ many rs := lcms_dvd (List.mem_map.mpr ⟨r, hr, rfl⟩)
  exact Int.dvd_trans (Int.natCast_dvd_natCast.mpr h1) h
theorem nth_hts {b : Int} {rs : List (Int × List Int)} {i : Nat} (h : i < many rs) : nth (hts b rs) i = seaAt b rs i := nth_rng (f := fun i : Nat => seaAt b rs (i : Int)) h
theorem seaAt_mod {b : Int} {rs : List (Int × List Int)} {t : Int} : seaAt b rs (t % many rs) = seaAt b rs t := by
  have h : (many rs : Int) ∣ (many rs : Int) * (t / many rs) := ⟨_, rfl⟩
  have e := seaAt_per (b := b) (t := t % many rs) h
  rw [Int.emod_add_mul_ediv] at e
  exact e.symm
theorem nth_mod {b : Int} {rs : List (Int × List Int)} {t : Int} (h : 0 < many rs) : nth (hts b rs) (t % many rs).toNat = seaAt b rs t := by
  have h1 := Int.emod_nonneg t (show (many rs : Int) ≠ 0 by omega)
  have h2 := Int.emod_lt_of_pos t (show (0 : Int) < many rs by omega)
  rw [nth_hts (by omega), show (((t % many rs).toNat : Nat) : Int) = t % many rs by omega, seaAt_mod]
theorem whole_round_spec (Γ Γw Γc : Rf.Ctx) (k0 : ∀ ds, callD Γ 0 ds = run Γw .sh 3 bWholeOf (ds ++ [])) (kw : ∀ ds, callD Γw 0 ds = run Γc .sh 2 bCommon (ds ++ [])) (b : Int) (rs : List (Int × List Int)) (h : SeaOk b rs) :
    run Γ .sh 2 bWholeRound [seaD b rs] = .ok (.int (many rs)) := by
  refine run_eq ?_
  unfold bWholeRound
  have hw : callD Γ 0 [.list ((lens rs).map natD)] = _ := (k0 _).trans (whole_of_spec Γw Γc kw (lens rs) (lens_ok h.rok))
  simp [-List.map_map, List.replicate, seaD]
  rw [ev_lensD (Γ := Γ) (by have := h.len; omega) (by intro r; simp [ringD])]
  simp [-List.map_map, hw, many]
theorem heights_of_spec (Γ Γr Γs Γw Γc Γa : Rf.Ctx) (k0 : ∀ ds, callD Γ 0 ds = run Γr .sh 2 bWholeRound (ds ++ [])) (k1 : ∀ ds, callD Γ 1 ds = run Γs .sh 5 bSeaAt (ds ++ []))
    (kr : ∀ ds, callD Γr 0 ds = run Γw .sh 3 bWholeOf (ds ++ [])) (kw : ∀ ds, callD Γw 0 ds = run Γc .sh 2 bCommon (ds ++ [])) (ks : ∀ ds, callD Γs 0 ds = run Γa .sh 4 bRingAt (ds ++ [])) (b : Int) (rs : List (Int × List Int)) (h : SeaOk b rs) :
    run Γ .own 2 bHeightsOf [seaD b rs] = .ok (.list ((hts b rs).map .int)) := by
  refine run_eq ?_
  unfold bHeightsOf
  have e0 : callD Γ 0 [seaD b rs] = _ := (k0 _).trans (whole_round_spec Γr Γw Γc kr kw b rs h)
  have hf : many rs ≤ 5040 := h.few
  have ne : ∀ r ∈ rs, r.2 ≠ [] := fun r hr => List.length_pos_iff.mp (by have := (h.rok r hr).len; omega)
  simp [-List.map_map, List.replicate, e0]
  rw [rng1 (sm62_of (by omega) (by omega))]
  simp only [bind_ok, seqOf_list, optL_some]
  rw [compD_rng (fun i => .int (seaAt b rs i)) (by omega) (by
    intro i hi
    have e1 : callD Γ 1 [seaD b rs, .int (0 + (i : Int))] = _ := (k1 _).trans (sea_at_spec Γs Γa ks b rs (0 + (i : Int)) ne (by have := h.len; omega))
    simp at e1
    simp [e1])]
  simp [hts]
/-! ### the next reach -/
def Reach (b : Int) (rs : List (Int × List Int)) (h t : Int) (d : D) : Prop :=
  (∃ s : Nat, s < many rs ∧ d = .int (t + s) ∧ h ≤ seaAt b rs (t + s) ∧ ∀ s' : Nat, s' < s → ¬ h ≤ seaAt b rs (t + s')) ∨ (d = .none ∧ ∀ s : Nat, s < many rs → ¬ h ≤ seaAt b rs (t + s))
theorem reach_one {b : Int} {rs : List (Int × List Int)} {h t : Int} {d e : D} (hd : Reach b rs h t d) (he : Reach b rs h t e) : d = e := by
  rcases hd with ⟨s, hs, rfl, h1, h2⟩ | ⟨rfl, h1⟩ <;> rcases he with ⟨s', hs', rfl, h1', h2'⟩ | ⟨rfl, h1'⟩
  · rcases Nat.lt_trichotomy s s' with q | q | q
    · exact absurd h1 (h2' s q)
    · rw [q]
    · exact absurd h1' (h2 s' q)
  · exact absurd h1 (h1' s hs)
  · exact absurd h1' (h1 s' hs')
  · rfl
theorem next_reach_spec (Γ Γr Γs Γw Γc Γa : Rf.Ctx) (k0 : ∀ ds, callD Γ 0 ds = run Γr .sh 2 bWholeRound (ds ++ [])) (k1 : ∀ ds, callD Γ 1 ds = run Γs .sh 5 bSeaAt (ds ++ []))
    (kr : ∀ ds, callD Γr 0 ds = run Γw .sh 3 bWholeOf (ds ++ [])) (kw : ∀ ds, callD Γw 0 ds = run Γc .sh 2 bCommon (ds ++ [])) (ks : ∀ ds, callD Γs 0 ds = run Γa .sh 4 bRingAt (ds ++ [])) (b : Int) (rs : List (Int × List Int)) (h : SeaOk b rs) (x t : Int) :
    ∃ d, run Γ .sh 4 bNextReach [seaD b rs, .int x, .int t] = .ok d ∧ Reach b rs x t d := by
  obtain ⟨P, hP⟩ : ∃ P : D → Prop, ∀ d, P d ↔ Reach b rs x t d := ⟨_, fun _ => Iff.rfl⟩
  obtain ⟨d, e, hd⟩ := run_wp (Γ := Γ) (fr := .sh) (s := bNextReach) (kk := 4) (ds := [seaD b rs, .int x, .int t]) (P := P) (by
    unfold bNextReach
    have e0 : callD Γ 0 [seaD b rs] = _ := (k0 _).trans (whole_round_spec Γr Γw Γc kr kw b rs h)
    have hf : many rs ≤ 5040 := h.few
    have ne : ∀ r ∈ rs, r.2 ≠ [] := fun r hr => List.length_pos_iff.mp (by have := (h.rok r hr).len; omega)
    have e1 : ∀ t, callD Γ 1 [seaD b rs, .int t] = _ := fun t => (k1 _).trans (sea_at_spec Γs Γa ks b rs t ne (by have := h.len; omega))
    simp [-List.map_map, List.replicate, exec_for, e0]
    rw [rng1 (sm62_of (by omega) (by omega))]
    simp only [bind_ok, seqOf_list, optL_some, toFl_ok, listF_l]
    obtain ⟨I, hI⟩ : ∃ I : Nat → Sl → Prop, ∀ j ρ, I j ρ ↔ (∃ (u : Slot), ρ = [.sh (seaD b rs), .sh (.int x), .sh (.int t), u] ∧ ∀ s : Nat, s < j → ¬ x ≤ seaAt b rs (t + s)) := ⟨_, fun _ _ => Iff.rfl⟩
    refine wp_rngL I ((hI _ _).mpr ⟨_, rfl, fun s hs => absurd hs (Nat.not_lt_zero _)⟩) ?_ ?_
    · intro j ρ hj hr
      obtain ⟨u, rfl, hs⟩ := (hI _ _).mp hr
      simp [e1]
      by_cases c : x ≤ seaAt b rs (t + j)
      · simp [c]
        exact (hP _).mpr (.inl ⟨j, by omega, rfl, c, hs⟩)
      · simp [c, Kf_eq]
        refine (hI _ _).mpr ⟨_, rfl, fun s hs2 => ?_⟩
        by_cases q : s = j
        · subst q; exact c
        · exact hs s (by omega)
    · intro ρ hr
      obtain ⟨u, rfl, hs⟩ := (hI _ _).mp hr
      simp [Kf_eq]
      exact (hP _).mpr (.inr ⟨rfl, fun s h2 => hs s (by omega)⟩))
  exact ⟨d, e, (hP d).mp hd⟩
end Rf

/-! Rf: reflection. Part Z: the greatest and the least; the first place; the least round. -/
namespace Rf
open PySem L2
def firstOf (l : List Int) (x : Int) : Nat := l.findIdx (fun y => decide (y = x))
theorem firstOf_lt {l : List Int} {x : Int} (h : x ∈ l) : firstOf l x < l.length := List.findIdx_lt_length_of_exists ⟨x, h, by simp⟩
theorem firstOf_at {l : List Int} {x : Int} (h : x ∈ l) : nth l (firstOf l x) = x := by
  have e := List.findIdx_getElem (xs := l) (p := fun y => decide (y = x)) (w := firstOf_lt h)
  rw [nth_eq (firstOf_lt h)]
  exact of_decide_eq_true e
theorem firstOf_not {l : List Int} {x : Int} {i : Nat} (h : i < firstOf l x) : nth l i ≠ x := by
  have h1 : i < l.length := Nat.lt_of_lt_of_le h List.findIdx_le_length
  have e := List.not_of_lt_findIdx (xs := l) (p := fun y => decide (y = x)) h
  rw [nth_eq h1]
  intro q
  rw [q] at e
  simp at e
theorem findV_int {x : Int} : ∀ {l : List Int} {n : Nat}, x ∈ l → findV (.int x) (l.map V.int) n = some (n + firstOf l x)
  | [], _, h => nomatch h
  | a :: l, n, h => by
    have e : findV (.int x) ((a :: l).map V.int) n = if eqV (.int a) (.int x) = true then some n else findV (.int x) (l.map V.int) (n + 1) := rfl
    have e2 : eqV (.int a) (.int x) = decide (a = x) := by
      by_cases c : a = x
      · subst c; simp [eqV]
      · simp [eqV, c]
    rw [e, e2]
    by_cases c : a = x
    · simp [c, firstOf, List.findIdx_cons]
    · have h2 : x ∈ l := by
        rcases List.mem_cons.mp h with q | q
        · exact absurd q.symm c
        · exact q
      simp [c, firstOf, List.findIdx_cons]
      rw [findV_int h2]
      simp [firstOf]
      omega
theorem index_ints {l : List Int} {x : Int} (h : x ∈ l) : mthD .index (.list (l.map .int)) (.int x) = .ok (.int (firstOf l x)) := by
  show (match flatAll (l.map PyData.int) with
      | some vs => (match findV (.int x) vs 0 with
        | some n => Res.ok (PyData.int (n : Nat))
        | none => .bad)
      | none => .bad) = _
  rw [flatAll_map (g := PyData.int) (gv := V.int) (l := l) (fun _ _ => rfl)]
  show (match findV (.int x) (l.map V.int) 0 with
        | some n => Res.ok (PyData.int (n : Nat))
        | none => .bad) = _
  rw [findV_int h, Nat.zero_add]
theorem hts_ne {b : Int} {rs : List (Int × List Int)} (h : SeaOk b rs) : hts b rs ≠ [] := by
  have := many_pos h.rok
  have e := hts_len (b := b) (rs := rs)
  intro q
  rw [q] at e
  simp at e
  omega
/-! ### highest, lowest -/
theorem highest_of (Γ : Rf.Ctx) (x : D) (l : List Int) (hl : l ≠ []) (e : callD Γ 0 [x] = .ok (.list (l.map .int))) : run Γ .sh 2 bHighest [x] = .ok (.tuple [.int (maxOf l), .int (firstOf l (maxOf l))]) := by
  refine run_eq ?_
  unfold bHighest
  simp [-List.map_map, List.replicate, e, blt_max1 hl]
  rw [show rcv Mt.index (PyData.list (l.map .int)) = true from rfl]
  simp [-List.map_map, index_ints (maxOf_mem hl).1]
theorem lowest_of (Γ : Rf.Ctx) (x : D) (l : List Int) (hl : l ≠ []) (e : callD Γ 0 [x] = .ok (.list (l.map .int))) : run Γ .sh 2 bLowest [x] = .ok (.tuple [.int (minOf l), .int (firstOf l (minOf l))]) := by
  refine run_eq ?_
  unfold bLowest
  simp [-List.map_map, List.replicate, e, blt_min1 hl]
  rw [show rcv Mt.index (PyData.list (l.map .int)) = true from rfl]
  simp [-List.map_map, index_ints (minOf_mem hl).1]
/-! ### the least round -/
def rot (n : Nat) (l : List Int) : List Int := l.drop n ++ l.take n
theorem eq_ints {l m : List Int} : cmpB .Eq (.list (l.map .int)) (.list (m.map .int)) = .ok (decide (l = m)) := by
  show eqD (.list (l.map .int)) (.list (m.map .int)) = _
  rw [eqD_deep (n := 1) Shp.ints Shp.ints (by decide) rfl]
  show Res.ok (PyData.eqvAll (l.map .int) (m.map .int)) = _
  rw [eqv_ints]
theorem comes_spec (Γ : Rf.Ctx) (l : List Int) (n : Nat) (hl : l.length ≤ 16777216) : run Γ .sh 2 bComesRound [.list (l.map .int), .int n] = .ok (.bool (decide (rot n l = l))) := by
  refine run_eq ?_
  unfold bComesRound
  simp [-List.map_map, List.replicate]
  rw [cut_drop, cut_take, ← List.map_drop, ← List.map_take, catD_l (by simp; omega), ← List.map_append]
  simp only [bind_ok]
  rw [eq_ints]
  simp [rot]
  exact decide_eq_decide.mpr Iff.rfl
/-- a number of turns in which heights come round -/
def Rnd (l : List Int) (n : Nat) : Prop := l.length % n = 0 ∧ rot n l = l
theorem rot_all {l : List Int} : rot l.length l = l := by unfold rot; simp
theorem rnd_all {l : List Int} : Rnd l l.length := ⟨Nat.mod_self _, rot_all⟩
theorem round_of_of (Γ Γc : Rf.Ctx) (k1 : ∀ ds, callD Γ 1 ds = run Γc .sh 2 bComesRound (ds ++ [])) (x : D) (l : List Int) (hl : l ≠ []) (hb : l.length ≤ 5040) (e : callD Γ 0 [x] = .ok (.list (l.map .int))) :
    ∃ n : Nat, run Γ .sh 3 bRoundOf [x] = .ok (.int n) ∧ 1 ≤ n ∧ n ≤ l.length ∧ Rnd l n ∧ ∀ i, 1 ≤ i → i < n → ¬ Rnd l i := by
  obtain ⟨P, hP⟩ : ∃ P : D → Prop, ∀ d, P d ↔ (∃ n : Nat, d = .int n ∧ 1 ≤ n ∧ n ≤ l.length ∧ Rnd l n ∧ ∀ i, 1 ≤ i → i < n → ¬ Rnd l i) := ⟨_, fun _ => Iff.rfl⟩
  have hp : 0 < l.length := List.length_pos_iff.mpr hl
  obtain ⟨d, e, hd⟩ := run_wp (Γ := Γ) (fr := .sh) (s := bRoundOf) (kk := 3) (ds := [x]) (P := P) (by
    unfold bRoundOf
    simp [-List.map_map, List.replicate, e, exec_whl]
    obtain ⟨I, hI⟩ : ∃ I : Nat → Sl → Prop, ∀ m ρ, I m ρ ↔ (∃ n : Nat, ρ = [.sh x, .sh (.list (l.map .int)), .sh (.int n)] ∧ 1 ≤ n ∧ n ≤ l.length ∧ m = l.length - n ∧ ∀ i, 1 ≤ i → i < n → ¬ Rnd l i) := ⟨_, fun _ _ => Iff.rfl⟩
    refine wp_whl I (l.length - 1) (by unfold fuel; omega) ((hI _ _).mpr ⟨1, rfl, Nat.le_refl _, hp, rfl, fun i h1 h2 => by omega⟩) ?_
    intro m ρ hr
    obtain ⟨n, rfl, n1, n2, rfl, n3⟩ := (hI _ _).mp hr
    have ec : callD Γ 1 [.list (l.map .int), .int n] = _ := (k1 _).trans (comes_spec Γc l n (by omega))
    have stop : Rnd l n → Wp (exec Γ .sh .nil [.sh x, .sh (.list (l.map .int)), .sh (.int n)]) (Kf Γ .sh (.seq (.ret (.var 2)) .nil) No No No P) No No P := fun hn => by
      simp [Kf_eq]
      exact (hP _).mpr ⟨n, rfl, n1, n2, hn, n3⟩
    have go : ¬ Rnd l n → ∃ m', m' < l.length - n ∧ I m' [.sh x, .sh (.list (l.map .int)), .sh (.int (n + 1))] := fun hn => by
      have n4 : n < l.length := by
        rcases Nat.lt_or_ge n l.length with q | q
        · exact q
        · have : n = l.length := by omega
          subst this
          exact absurd rnd_all hn
      refine ⟨l.length - (n + 1), by omega, (hI _ _).mpr ⟨n + 1, rfl, by omega, by omega, rfl, fun i h1 h2 => ?_⟩⟩
      by_cases q : i = n
      · subst q; exact hn
      · exact n3 i h1 (by omega)
    by_cases c1 : l.length % n = 0
    · have c1' : (l.length : Int) % n = 0 := by omega
      by_cases c2 : rot n l = l
      · refine ⟨false, by simp [-List.map_map, mod_ok (show (0 : Int) < n by omega), c1', ec, c2], ?_⟩
        simpa using stop ⟨c1, c2⟩
      · refine ⟨true, by simp [-List.map_map, mod_ok (show (0 : Int) < n by omega), c1', ec, c2], ?_⟩
        simp
        exact go fun q => c2 q.2
    · have c1' : 0 < (l.length : Int) % n := by omega
      refine ⟨true, by simp [-List.map_map, mod_ok (show (0 : Int) < n by omega), c1'], ?_⟩
      simp
      exact go fun q => c1 q.1)
  obtain ⟨n, rfl, h⟩ := (hP d).mp hd
  exact ⟨n, e, h⟩
end Rf

/-! Rf: reflection. Part ZA: the sea comes round. -/
namespace Rf
open PySem L2
theorem nth_rot {l : List Int} {t i : Nat} (ht : t ≤ l.length) (hi : i < l.length) : nth (rot t l) i = nth l ((i + t) % l.length) := by
  unfold rot nth
  simp only [List.getD_eq_getElem?_getD]
  congr 1
  by_cases c : i < l.length - t
  · rw [List.getElem?_append_left (by simp; omega), List.getElem?_drop, Nat.mod_eq_of_lt (by omega), Nat.add_comm]
  · rw [List.getElem?_append_right (by simp; omega), List.length_drop, List.getElem?_take, if_pos (by omega)]
    congr 1
    rw [show i + t = (i - (l.length - t)) + l.length by omega, Nat.add_mod_right, Nat.mod_eq_of_lt (by omega)]
theorem rot_iff {l : List Int} {t : Nat} (ht : t ≤ l.length) : rot t l = l ↔ ∀ i, i < l.length → nth l i = nth l ((i + t) % l.length) := by
  constructor
  · intro h i hi
    rw [← nth_rot ht hi, h]
  · intro h
    refine ext_nth (by unfold rot; simp; omega) fun i hi => ?_
    have hi : i < l.length := by unfold rot at hi; simp at hi; omega
    rw [nth_rot ht hi, h i hi]

theorem nth_mod_mem {b : Int} {rs : List (Int × List Int)} {t : Int} (h : 0 < many rs) : seaAt b rs t ∈ hts b rs := by
  rw [← nth_mod h]
  have h1 := Int.emod_nonneg t (show (many rs : Int) ≠ 0 by omega)
  have h2 := Int.emod_lt_of_pos t (show (0 : Int) < many rs by omega)
  exact nth_mem (by rw [hts_len]; omega)
theorem rnd_one {b : Int} {rs : List (Int × List Int)} (h : 0 < many rs) {n : Nat} (hn : n ≤ many rs) (hr : Rnd (hts b rs) n) (t : Int) : seaAt b rs (t + n) = seaAt b rs t := by
  have h1 := Int.emod_nonneg t (show (many rs : Int) ≠ 0 by omega)
  have h2 := Int.emod_lt_of_pos t (show (0 : Int) < many rs by omega)
  have hl := hts_len (b := b) (rs := rs)
  have e := (rot_iff (l := hts b rs) (by omega)).mp hr.2 (t % many rs).toNat (by omega)
  rw [nth_mod h] at e
  rw [e, ← nth_mod (t := t + n) h, hl]
  congr 1
  have : (((t % many rs).toNat + n : Nat) : Int) = t % many rs + n := by omega
  have e2 : ((t + n) % many rs) = ((((t % many rs).toNat + n) % many rs : Nat) : Int) := by
    rw [Int.natCast_emod, this, Int.emod_add_emod]
  omega
theorem rnd_per {b : Int} {rs : List (Int × List Int)} (h : 0 < many rs) {n : Nat} (hn : n ≤ many rs) (hr : Rnd (hts b rs) n) (k : Nat) (t : Int) : seaAt b rs (t + n * k) = seaAt b rs t := by
  induction k with
  | zero => simp
  | succ k ih =>
    rw [show t + (n : Int) * ((k + 1 : Nat) : Int) = (t + n * k) + n by rw [Int.natCast_add, Int.mul_add]; omega, rnd_one h hn hr, ih]
/-- the first place of a height lies in the first round -/
theorem first_in_round {b : Int} {rs : List (Int × List Int)} (h : 0 < many rs) {n : Nat} (n1 : 1 ≤ n) (hn : n ≤ many rs) (hr : Rnd (hts b rs) n) {x : Int} (hx : x ∈ hts b rs) : firstOf (hts b rs) x < n := by
  have hl := hts_len (b := b) (rs := rs)
  have h1 := firstOf_lt hx
  have h2 := firstOf_at hx
  rcases Nat.lt_or_ge (firstOf (hts b rs) x) n with q | q
  · exact q
  · have h3 := firstOf_not (l := hts b rs) (x := x) (i := firstOf (hts b rs) x - n) (by omega)
    rw [nth_hts (by omega)] at h2 h3
    have e := rnd_one h hn hr ((firstOf (hts b rs) x - n : Nat) : Int)
    rw [show ((firstOf (hts b rs) x - n : Nat) : Int) + n = (firstOf (hts b rs) x : Nat) by omega, h2] at e
    exact absurd e.symm h3
end Rf

/-! Rf: reflection. Part ZB: levels and falls. -/
namespace Rf
open PySem L2
def bAtLeast : S :=
  (.seq (.ret (.cmp .GtE (.bin .Mult (.idx (.var 0) (.cst (.int 0))) (.idx (.var 1) (.cst (.int 1)))) (.bin .Mult (.idx (.var 1) (.cst (.int 0))) (.idx (.var 0) (.cst (.int 1)))))) .nil)
def bFraction : S :=
  (.seq (.asg 2 (.call false 0 (.cons (.blt .abs (.cons (.var 0) .nil)) (.cons (.var 1) .nil)))) (.seq (.ret (.tup (.cons (.bin .FloorDiv (.var 0) (.var 2)) (.cons (.bin .FloorDiv (.var 1) (.var 2)) .nil)))) .nil))
def bLevel : S :=
  (.seq (.ret (.call false 0 (.cons (.bin .Add (.bin .Mult (.idx (.var 0) (.cst (.int 2))) (.idx (.var 0) (.cst (.int 1)))) (.var 1)) (.cons (.idx (.var 0) (.cst (.int 1))) .nil)))) .nil)
def bSideLevel : S :=
  (.seq (.ifs (.cmp .Eq (.var 2) (.neg (.cst (.int 1)))) (.seq (.ret (.tup (.cons (.call false 0 (.cons (.idx (.var 0) (.cst (.int 0))) (.cons (.var 3) .nil))) (.cons (.cst (.int 1)) .nil)))) .nil) .nil) (.seq (.ret (.call false 1 (.cons (.idx (.idx (.var 0) (.cst (.int 1))) (.var 2)) (.cons (.idx (.var 1) (.var 2)) .nil)))) .nil))
def bFallOf : S :=
  (.seq (.asg 5 (.call false 0 (.cons (.var 0) (.cons (.var 1) (.cons (.var 2) (.cons (.var 4) .nil)))))) (.seq (.asg 6 (.call false 0 (.cons (.var 0) (.cons (.var 1) (.cons (.var 3) (.cons (.var 4) .nil)))))) (.seq (.ret (.call false 1 (.cons (.bin .Sub (.bin .Mult (.idx (.var 5) (.cst (.int 0))) (.idx (.var 6) (.cst (.int 1)))) (.bin .Mult (.idx (.var 6) (.cst (.int 0))) (.idx (.var 5) (.cst (.int 1))))) (.cons (.bin .Mult (.idx (.var 5) (.cst (.int 1))) (.idx (.var 6) (.cst (.int 1)))) .nil)))) .nil)))

/-- numbers of at most two hundred bits -/
def Sm (x : Int) : Prop := -1606938044258990275541962092341162602522202993782792835301376 < x ∧ x < 1606938044258990275541962092341162602522202993782792835301376
theorem log_small {x : Int} (h : Sm x) : x.natAbs.log2 < 201 := by
  have h3 : x.natAbs < 2 ^ 200 := by
    have h1 := h.1
    have h2 := h.2
    have : x.natAbs < 1606938044258990275541962092341162602522202993782792835301376 := by omega
    exact this
  rcases Nat.eq_zero_or_pos x.natAbs with e | e
  · rw [e]; decide
  · have := (Nat.log2_lt (Nat.pos_iff_ne_zero.mp e)).mpr h3
    omega
theorem mul_ok_b {n q : Int} (h1 : Sm n) (h2 : Sm q) : mulD n q = .ok (.int (n * q)) := by
  refine mul_okB ?_
  unfold mulOk
  have a := log_small h1
  have b := log_small h2
  rw [show decide (n.natAbs.log2 + q.natAbs.log2 < 1000000) = true from decide_eq_true (by omega), Bool.or_true]
theorem fdiv_ok_b {n q : Int} (h0 : 0 < q) (h2 : Sm q) : fdivD n q = .ok (.int (n / q)) := fdiv_okL h0 (by have := log_small h2; omega)
/-- how many steps common still goes, at most -/
def cLeft (a b : Nat) : Nat := if b = 0 then 0 else Nat.log2 (a * b) + 1 + (if a < b then 1 else 0)
theorem log2_half {x y : Nat} (hx : 0 < x) (h : 2 * x ≤ y) : Nat.log2 x + 1 ≤ Nat.log2 y := by
  have h1 : 2 ^ Nat.log2 x ≤ x := Nat.log2_self_le (by omega)
  exact (Nat.le_log2 (by omega)).mpr (by rw [Nat.pow_succ]; omega)
theorem cLeft_step {a b : Nat} (hb : 0 < b) : cLeft b (a % b) < cLeft a b := by
  unfold cLeft
  rw [if_neg (show ¬ b = 0 by omega)]
  by_cases hr : a % b = 0
  · rw [if_pos hr]; omega
  · rw [if_neg hr]
    have hlt := Nat.mod_lt a hb
    rw [if_neg (show ¬ b < a % b by omega)]
    by_cases c : a < b
    · rw [if_pos c, Nat.mod_eq_of_lt c, Nat.mul_comm]; omega
    · have e := Nat.div_add_mod a b
      have q1 : 1 ≤ a / b := Nat.div_pos (by omega) hb
      have q2 : b * 1 ≤ b * (a / b) := Nat.mul_le_mul_left _ q1
      have h2 : 2 * (a % b) ≤ a := by omega
      have h3 : 2 * (b * (a % b)) ≤ a * b := by
        rw [Nat.mul_left_comm, Nat.mul_comm a b]; exact Nat.mul_le_mul_left _ h2
      have := log2_half (Nat.mul_pos hb (by omega)) h3
      omega
theorem common_specL (Γ : Rf.Ctx) (a b : Nat) (hb : Nat.log2 (a * b) < 1000000) : run Γ .sh 2 bCommon [.int a, .int b] = .ok (.int (Nat.gcd a b)) := by
  refine run_eq ?_
  unfold bCommon
  simp [List.replicate, exec_whl]
  obtain ⟨I, hI⟩ : ∃ I : Nat → Sl → Prop, ∀ m ρ, I m ρ ↔ (∃ (x y : Nat), ρ = [.sh (.int x), .sh (.int y)] ∧ m = cLeft x y ∧ Nat.gcd x y = Nat.gcd a b) := ⟨_, fun _ _ => Iff.rfl⟩
  refine wp_whl I (cLeft a b) (by unfold fuel cLeft; split <;> (try split) <;> omega) ((hI _ _).mpr ⟨a, b, rfl, rfl, rfl⟩) ?_
  intro m ρ hr
  obtain ⟨x, y, rfl, rfl, hx⟩ := (hI _ _).mp hr
  by_cases c : 0 < y
  · refine ⟨true, by simp [c], ?_⟩
    simp [mod_ok (show (0 : Int) < y by omega)]
    exact ⟨_, cLeft_step c, (hI _ _).mpr ⟨y, x % y, by simp, rfl, by rw [← hx, Nat.gcd_comm x y, Nat.gcd_rec y x, Nat.gcd_comm]⟩⟩
  · refine ⟨false, by simp [c], ?_⟩
    have : y = 0 := by omega
    subst this
    simp [Kf_eq]
    rw [← hx, Nat.gcd_zero_right]
/-- a fraction in lowest terms -/
def frac (t u : Int) : Int × Int := (t / (Int.gcd t u : Nat), u / (Int.gcd t u : Nat))
theorem gcd_pos {t u : Int} (hu : 0 < u) : 0 < Int.gcd t u := Int.gcd_pos_of_ne_zero_right t (by omega)
theorem frac_pos {t u : Int} (hu : 0 < u) : 0 < (frac t u).2 := by
  unfold frac
  have g := gcd_pos (t := t) hu
  obtain ⟨k, hk⟩ := Int.gcd_dvd_right t u
  have e : u / (Int.gcd t u : Nat) = k := by
    rw [Int.ediv_eq_of_eq_mul_right (by omega) hk]
  show 0 < u / (Int.gcd t u : Nat)
  rw [e]
  rcases Int.lt_trichotomy k 0 with h | h | h
  · have := Int.mul_neg_of_pos_of_neg (show (0 : Int) < (Int.gcd t u : Nat) by omega) h
    omega
  · subst h; simp at hk; omega
  · exact h
theorem frac_eq {t u : Int} (hu : 0 < u) : (frac t u).1 * u = t * (frac t u).2 := by
  unfold frac
  have g := gcd_pos (t := t) hu
  obtain ⟨k, hk⟩ := Int.gcd_dvd_right t u
  obtain ⟨j, hj⟩ := Int.gcd_dvd_left t u
  have e : u / (Int.gcd t u : Nat) = k := Int.ediv_eq_of_eq_mul_right (by omega) hk
  have e2 : t / (Int.gcd t u : Nat) = j := Int.ediv_eq_of_eq_mul_right (by omega) hj
  show t / (Int.gcd t u : Nat) * u = t * (u / (Int.gcd t u : Nat))
  rw [e, e2]
  generalize ((Int.gcd t u : Nat) : Int) = G at *
  rw [hk, hj, ← Int.mul_assoc, Int.mul_comm j G]
theorem frac_le {t u : Int} (hu : 0 < u) : (frac t u).2 ≤ u := by
  unfold frac
  have g := gcd_pos (t := t) hu
  exact Int.ediv_le_self _ (by omega)
theorem frac_abs {t u : Int} (hu : 0 < u) : (frac t u).1.natAbs ≤ t.natAbs := by
  unfold frac
  exact Int.natAbs_ediv_le_natAbs _ _
theorem fraction_spec (Γ Γc : Rf.Ctx) (k0 : ∀ ds, callD Γ 0 ds = run Γc .sh 2 bCommon (ds ++ [])) (t u : Int) (hu : 0 < u) (ht : Sm t) (hu2 : Sm u) :
    run Γ .sh 3 bFraction [.int t, .int u] = .ok (.tuple [.int (frac t u).1, .int (frac t u).2]) := by
  refine run_eq ?_
  unfold bFraction
  have hl : Nat.log2 (t.natAbs * u.natAbs) < 1000000 := by
    rcases Nat.eq_zero_or_pos (t.natAbs * u.natAbs) with e | e
    · rw [e]; decide
    · have b1 : t.natAbs < 2 ^ 200 := by have := ht.1; have := ht.2; have : t.natAbs < 1606938044258990275541962092341162602522202993782792835301376 := by omega
                                         exact this
      have b2 : u.natAbs < 2 ^ 200 := by have := hu2.1; have := hu2.2; have : u.natAbs < 1606938044258990275541962092341162602522202993782792835301376 := by omega
                                         exact this
      have b3 : t.natAbs * u.natAbs < 2 ^ 200 * 2 ^ 200 := Nat.mul_lt_mul'' b1 b2
      rw [← Nat.pow_add] at b3
      have := (Nat.log2_lt (Nat.pos_iff_ne_zero.mp e)).mpr b3
      omega
  have e0 : callD Γ 0 [.int ((t.natAbs : Nat) : Int), .int ((u.natAbs : Nat) : Int)] = _ := (k0 _).trans (common_specL Γc t.natAbs u.natAbs hl)
  rw [show ((u.natAbs : Nat) : Int) = u by omega] at e0
  have ea : (if t < 0 then -t else t) = ((t.natAbs : Nat) : Int) := by split <;> omega
  have g := gcd_pos (t := t) hu
  have gl : Int.gcd t u ≤ u.natAbs := Nat.gcd_le_right _ (by omega)
  have gs : Sm (Int.gcd t u : Nat) := ⟨by omega, by have := hu2.2; omega⟩
  simp [List.replicate, ea, e0, frac]
  rw [show (t.natAbs.gcd u.natAbs) = Int.gcd t u from rfl]
  simp [fdiv_ok_b (n := t) (q := (Int.gcd t u : Nat)) (by omega) gs, fdiv_ok_b (n := u) (q := (Int.gcd t u : Nat)) (by omega) gs]
theorem at_least_spec (Γ : Rf.Ctx) (a b c e : Int) (h1 : Sm a) (h2 : Sm b) (h3 : Sm c) (h4 : Sm e) : run Γ .sh 2 bAtLeast [.tuple [.int a, .int b], .tuple [.int c, .int e]] = .ok (.bool (decide (c * b ≤ a * e))) := by
  refine run_eq ?_
  unfold bAtLeast
  simp [List.replicate, mul_ok_b h1 h4, mul_ok_b h3 h2]
/-! ### worth -/
/-- comparing a fraction in lowest terms is comparing what it was made of -/
theorem worth_le {a b t u c e : Int} (hb : 0 < b) (hu : 0 < u) (h : a * u = t * b) : c * b ≤ a * e ↔ c * u ≤ t * e := by
  constructor
  · intro q
    have q1 : c * b * u ≤ a * e * u := Int.mul_le_mul_of_nonneg_right q (by omega)
    have q2 : (c * u) * b ≤ (t * e) * b := by
      have e1 : c * b * u = c * u * b := by rw [Int.mul_assoc, Int.mul_comm b u, ← Int.mul_assoc]
      have e2 : a * e * u = t * e * b := by rw [Int.mul_assoc, Int.mul_comm e u, ← Int.mul_assoc, h, Int.mul_assoc, Int.mul_comm b e, ← Int.mul_assoc]
      omega
    exact Int.le_of_mul_le_mul_right q2 hb
  · intro q
    have q1 : c * u * b ≤ t * e * b := Int.mul_le_mul_of_nonneg_right q (by omega)
    have q2 : (c * b) * u ≤ (a * e) * u := by
      have e1 : c * b * u = c * u * b := by rw [Int.mul_assoc, Int.mul_comm b u, ← Int.mul_assoc]
      have e2 : a * e * u = t * e * b := by rw [Int.mul_assoc, Int.mul_comm e u, ← Int.mul_assoc, h, Int.mul_assoc, Int.mul_comm b e, ← Int.mul_assoc]
      omega
    exact Int.le_of_mul_le_mul_right q2 hu
theorem worth_neg {a b t u : Int} (hb : 0 < b) (hu : 0 < u) (h : a * u = t * b) : a < 0 ↔ t < 0 := by
  have := worth_le (c := 0) (e := 1) hb hu h
  rw [Int.zero_mul, Int.zero_mul, Int.mul_one, Int.mul_one] at this
  omega
end Rf

/-! Rf: reflection. Part ZC: how high sides stand, and falls. -/
namespace Rf
open PySem L2
def holdP (p : MPond) : Int := p.area * (p.rim - p.bottom)
structure COk (m : Mill) (cs : List Int) : Prop where
  len : cs.length = m.ponds.length
  bd : ∀ i, i < m.ponds.length → 0 ≤ nth cs i ∧ nth cs i ≤ holdP (nthA m.ponds i)
structure Side (m : Mill) (s : Int) : Prop where
  lo : -1 ≤ s
  hi : s < m.ponds.length
/-- the exact height of a side, a top over an under -/
def lv (m : Mill) (cs : List Int) (t side : Int) : Int × Int :=
  if side = -1 then (seaAt m.base m.rings t, 1) else ((nthA m.ponds side.toNat).bottom * (nthA m.ponds side.toNat).area + nth cs side.toNat, (nthA m.ponds side.toNat).area)
theorem mul_bd {a b A B : Int} (ha : -A ≤ a ∧ a ≤ A) (hb : 0 ≤ b ∧ b ≤ B) (hA : 0 ≤ A) : -(A * B) ≤ a * b ∧ a * b ≤ A * B := by
  have h1 : a * b ≤ A * b := Int.mul_le_mul_of_nonneg_right ha.2 hb.1
  have h2 : A * b ≤ A * B := Int.mul_le_mul_of_nonneg_left hb.2 hA
  have h3 : (-A) * b ≤ a * b := Int.mul_le_mul_of_nonneg_right ha.1 hb.1
  rw [Int.neg_mul] at h3
  omega
theorem sum_bd {α : Type} {f : α → Int} {B : Int} : ∀ {l : List α}, (∀ a ∈ l, -B ≤ f a ∧ f a ≤ B) → -(B * l.length) ≤ (l.map f).sum ∧ (l.map f).sum ≤ B * l.length
  | [], _ => by simp
  | a :: l, h => by
    have h1 := h a List.mem_cons_self
    have h2 := sum_bd fun x hx => h x (List.mem_cons_of_mem _ hx)
    rw [List.map_cons, List.sum_cons, List.length_cons, Int.natCast_add, Int.mul_add]
    generalize B * (l.length : Int) = Z at *
    omega
section
variable {m : Mill} {cs : List Int} {t s : Int}
theorem ring_ne (h : m.Ok) : ∀ r ∈ m.rings, r.2 ≠ [] := fun r hr => (h.rings r hr).2
theorem seaAt_bd (h : m.Ok) : -10000 ≤ seaAt m.base m.rings t ∧ seaAt m.base m.rings t ≤ 10000 := by
  have hs := h.sea
  have := sum_bd (f := rAt t) (B := 1001) (l := m.rings) fun r hr => by
    have hl : 0 < r.2.length := List.length_pos_iff.mpr (ring_ne h r hr)
    have h1 := Int.emod_nonneg (t + r.1) (show (r.2.length : Int) ≠ 0 by omega)
    have h2 := Int.emod_lt_of_pos (t + r.1) (show (0 : Int) < r.2.length by omega)
    exact hs.2.2 r hr _ (nth_mem (by omega))
  unfold seaAt
  omega
theorem pond_at (h : m.Ok) {i : Nat} (hi : i < m.ponds.length) : PondOk (nthA m.ponds i) := h.ponds _ (nthA_mem hi)
theorem hold_bd {p : MPond} (h : PondOk p) : 1 ≤ holdP p ∧ holdP p ≤ 2000000000000 := by
  unfold holdP
  have h1 := h.area
  have h2 := h.lev
  have h3 := h.bd
  have := mul_bd (a := p.area) (b := p.rim - p.bottom) (A := 1000000) (B := 2000000) (by omega) (by omega) (by decide)
  have h4 : 1 * 1 ≤ p.area * (p.rim - p.bottom) := Int.mul_le_mul h1 (by omega) (by decide) (by omega)
  omega
theorem cs_bd (h : m.Ok) (hc : COk m cs) {i : Nat} (hi : i < m.ponds.length) : 0 ≤ nth cs i ∧ nth cs i ≤ 2000000000000 := by
  have := hc.bd i hi
  have := hold_bd (pond_at h hi)
  omega
theorem lv_sea : lv m cs t (-1) = (seaAt m.base m.rings t, 1) := if_pos rfl
theorem lv_pond (h : 0 ≤ s) : lv m cs t s = ((nthA m.ponds s.toNat).bottom * (nthA m.ponds s.toNat).area + nth cs s.toNat, (nthA m.ponds s.toNat).area) := if_neg (by omega)
structure LvOk (x : Int × Int) : Prop where
  u0 : 1 ≤ x.2
  u1 : x.2 ≤ 1000000
  t0 : -4000000000000 ≤ x.1
  t1 : x.1 ≤ 4000000000000
theorem lv_ok (h : m.Ok) (hc : COk m cs) (hs : Side m s) : LvOk (lv m cs t s) := by
  by_cases c : s = -1
  · subst c
    rw [lv_sea]
    have := seaAt_bd h (t := t)
    exact ⟨by show (1 : Int) ≤ 1; decide, by show (1 : Int) ≤ 1000000; decide, by show _ ≤ seaAt _ _ _; omega, by show seaAt _ _ _ ≤ _; omega⟩
  · have h0 : 0 ≤ s := by have := hs.lo; omega
    have hi : s.toNat < m.ponds.length := by have := hs.hi; omega
    rw [lv_pond h0]
    have p := pond_at h hi
    have h1 := p.area
    have h2 := p.lev
    have h3 := p.bd
    have h4 := mul_bd (a := (nthA m.ponds s.toNat).bottom) (b := (nthA m.ponds s.toNat).area) (A := 1000000) (B := 1000000) (by omega) (by omega) (by decide)
    have h5 := cs_bd h hc hi
    exact ⟨h1, h3.1, by show _ ≤ _ * _ + _; omega, by show _ * _ + _ ≤ _; omega⟩
/-- the height of a side in lowest terms -/
def fl (m : Mill) (cs : List Int) (t s : Int) : Int × Int := frac (lv m cs t s).1 (lv m cs t s).2
theorem frac_one {x : Int} : frac x 1 = (x, 1) := by
  unfold frac
  rw [Int.gcd_one_right]
  simp
theorem frac_ok {x : Int × Int} (h : LvOk x) : LvOk (frac x.1 x.2) := by
  have h0 := h.u0
  have h1 := frac_pos (t := x.1) (u := x.2) (by omega)
  have h2 := frac_le (t := x.1) (u := x.2) (by omega)
  have h3 := frac_abs (t := x.1) (u := x.2) (by omega)
  have := h.u1
  have := h.t0
  have := h.t1
  exact ⟨by omega, by omega, by omega, by omega⟩
theorem fl_ok (h : m.Ok) (hc : COk m cs) (hs : Side m s) : LvOk (fl m cs t s) := frac_ok (lv_ok h hc hs)
theorem fl_eq (h : m.Ok) (hc : COk m cs) (hs : Side m s) : (fl m cs t s).1 * (lv m cs t s).2 = (lv m cs t s).1 * (fl m cs t s).2 := frac_eq (by have := (lv_ok h hc hs (t := t)).u0; omega)
end
structure Ph where
  (ring sea com fra lev sid fal atl : Rf.Ctx)
structure Ph.Ok (E : Ph) : Prop where
  sea0 : ∀ ds, callD E.sea 0 ds = run E.ring .sh 4 bRingAt (ds ++ [])
  fra0 : ∀ ds, callD E.fra 0 ds = run E.com .sh 2 bCommon (ds ++ [])
  lev0 : ∀ ds, callD E.lev 0 ds = run E.fra .sh 3 bFraction (ds ++ [])
  sid0 : ∀ ds, callD E.sid 0 ds = run E.sea .sh 5 bSeaAt (ds ++ [])
  sid1 : ∀ ds, callD E.sid 1 ds = run E.lev .sh 2 bLevel (ds ++ [])
  fal0 : ∀ ds, callD E.fal 0 ds = run E.sid .sh 4 bSideLevel (ds ++ [])
  fal1 : ∀ ds, callD E.fal 1 ds = run E.fra .sh 3 bFraction (ds ++ [])
section
variable {E : Ph} (e : E.Ok) {m : Mill} {cs : List Int} {t s : Int}
theorem smb_of {x : Int} (h1 : -1000000000000000000000000000000 ≤ x) (h2 : x ≤ 1000000000000000000000000000000) : Sm x := ⟨by omega, by omega⟩
theorem level_spec (e : E.Ok) (h : m.Ok) (hc : COk m cs) {i : Nat} (hi : i < m.ponds.length) :
    run E.lev .sh 2 bLevel [pondD (nthA m.ponds i), .int (nth cs i)] = .ok (.tuple [.int (fl m cs t (i : Int)).1, .int (fl m cs t (i : Int)).2]) := by
  refine run_eq ?_
  unfold bLevel
  have k := lv_ok h hc (t := t) ⟨show (-1 : Int) ≤ (i : Int) by omega, by omega⟩
  have e1 := (e.lev0 [.int (lv m cs t i).1, .int (lv m cs t i).2]).trans (fraction_spec E.fra E.com e.fra0 _ _ (by have := k.u0; omega) (smb_of (by have := k.t0; omega) (by have := k.t1; omega)) (smb_of (by have := k.u0; omega) (by have := k.u1; omega)))
  have p := pond_at h hi
  have h1 := p.area
  have h3 := p.bd
  rw [lv_pond (show (0 : Int) ≤ (i : Int) by omega)] at e1
  rw [show ((i : Int)).toNat = i by omega] at e1
  simp [List.replicate, pondD, mul_ok_r (n := (nthA m.ponds i).bottom) (q := (nthA m.ponds i).area) (by omega) (by omega), e1]
  unfold fl
  rw [lv_pond (show (0 : Int) ≤ (i : Int) by omega), show ((i : Int)).toNat = i by omega]
  exact ⟨rfl, rfl⟩
theorem mill_ponds : idxD m.d (.int 1) = .ok (.tuple (m.ponds.map pondD)) := by simp [Mill.d]
theorem mill_sea : idxD m.d (.int 0) = .ok (seaD m.base m.rings) := by simp [Mill.d]
theorem mill_gates : idxD m.d (.int 2) = .ok (.tuple (m.gates.map gateD)) := by simp [Mill.d]
theorem mill_wheels : idxD m.d (.int 3) = .ok (.tuple (m.wheels.map wheelD)) := by simp [Mill.d]
theorem side_level_spec (e : E.Ok) (h : m.Ok) (hc : COk m cs) (hs : Side m s) :
    run E.sid .sh 4 bSideLevel [m.d, .tuple (cs.map .int), .int s, .int t] = .ok (.tuple [.int (fl m cs t s).1, .int (fl m cs t s).2]) := by
  refine run_eq ?_
  unfold bSideLevel
  simp [-List.map_map, List.replicate, mill_sea, mill_ponds]
  by_cases c : s = -1
  · subst c
    have e0 : callD E.sid 0 [seaD m.base m.rings, .int t] = _ := (e.sid0 _).trans (sea_at_spec E.sea E.ring e.sea0 m.base m.rings t (ring_ne h) (by have := h.sea.1; omega))
    simp [e0, fl, lv_sea, frac_one]
  · have h0 : 0 ≤ s := by have := hs.lo; omega
    have hi : s.toNat < m.ponds.length := by have := hs.hi; omega
    have ix := idxAT (g := pondD) (l := m.ponds) (q := s) h0 hs.hi
    have iy := idx_intsT (l := cs) (q := s) h0 (by rw [hc.len]; exact hs.hi)
    have e1 : callD E.sid 1 [pondD (nthA m.ponds s.toNat), .int (nth cs s.toNat)] = _ := (e.sid1 _).trans (level_spec e h hc (t := t) hi)
    rw [show ((s.toNat : Nat) : Int) = s by omega] at e1
    simp [-List.map_map, c, Kf_eq, mill_ponds, ix, iy, e1]
/-- how much one side stands above another, in lowest terms -/
def fo (m : Mill) (cs : List Int) (t a b : Int) : Int × Int :=
  frac ((fl m cs t a).1 * (fl m cs t b).2 - (fl m cs t b).1 * (fl m cs t a).2) ((fl m cs t a).2 * (fl m cs t b).2)
theorem fo_ok {a b : Int} (h : m.Ok) (hc : COk m cs) (ha : Side m a) (hb : Side m b) :
    1 ≤ (fo m cs t a b).2 ∧ (fo m cs t a b).2 ≤ 1000000000000 ∧ -10000000000000000000 ≤ (fo m cs t a b).1 ∧ (fo m cs t a b).1 ≤ 10000000000000000000 ∧
    (fo m cs t a b).1 * ((lv m cs t a).2 * (lv m cs t b).2) = ((lv m cs t a).1 * (lv m cs t b).2 - (lv m cs t b).1 * (lv m cs t a).2) * (fo m cs t a b).2 ∧
    0 < (fl m cs t a).2 * (fl m cs t b).2 ∧ (fl m cs t a).2 * (fl m cs t b).2 ≤ 1000000000000 ∧
    -10000000000000000000 ≤ (fl m cs t a).1 * (fl m cs t b).2 - (fl m cs t b).1 * (fl m cs t a).2 ∧ (fl m cs t a).1 * (fl m cs t b).2 - (fl m cs t b).1 * (fl m cs t a).2 ≤ 10000000000000000000 := by
  have A := fl_ok h hc ha (t := t)
  have B := fl_ok h hc hb (t := t)
  have eA := fl_eq h hc ha (t := t)
  have eB := fl_eq h hc hb (t := t)
  unfold fo
  generalize fl m cs t a = x at *
  generalize fl m cs t b = y at *
  generalize lv m cs t a = X at *
  generalize lv m cs t b = Y at *
  have q1 := mul_bd (a := x.1) (b := y.2) (A := 4000000000000) (B := 1000000) ⟨by have := A.t0; omega, A.t1⟩ ⟨by have := B.u0; omega, B.u1⟩ (by decide)
  have q2 := mul_bd (a := y.1) (b := x.2) (A := 4000000000000) (B := 1000000) ⟨by have := B.t0; omega, B.t1⟩ ⟨by have := A.u0; omega, A.u1⟩ (by decide)
  have q3 := mul_bd (a := x.2) (b := y.2) (A := 1000000) (B := 1000000) ⟨by have := A.u0; omega, A.u1⟩ ⟨by have := B.u0; omega, B.u1⟩ (by decide)
  have q4 : 0 < x.2 * y.2 := Int.mul_pos (by have := A.u0; omega) (by have := B.u0; omega)
  have f1 := frac_pos (t := x.1 * y.2 - y.1 * x.2) (u := x.2 * y.2) q4
  have f2 := frac_le (t := x.1 * y.2 - y.1 * x.2) (u := x.2 * y.2) q4
  have f3 := frac_abs (t := x.1 * y.2 - y.1 * x.2) (u := x.2 * y.2) q4
  have f4 := frac_eq (t := x.1 * y.2 - y.1 * x.2) (u := x.2 * y.2) q4
  generalize frac (x.1 * y.2 - y.1 * x.2) (x.2 * y.2) = f at *
  refine ⟨by omega, by omega, by omega, by omega, ?_, q4, by omega, by omega, by omega⟩
  have key : (x.2 * y.2) * (f.1 * (X.2 * Y.2)) = (x.2 * y.2) * ((X.1 * Y.2 - Y.1 * X.2) * f.2) := by grind
  exact Int.eq_of_mul_eq_mul_left (by omega) key
theorem fall_of_spec {a b : Int} (e : E.Ok) (h : m.Ok) (hc : COk m cs) (ha : Side m a) (hb : Side m b) :
    run E.fal .sh 7 bFallOf [m.d, .tuple (cs.map .int), .int a, .int b, .int t] = .ok (.tuple [.int (fo m cs t a b).1, .int (fo m cs t a b).2]) := by
  refine run_eq ?_
  unfold bFallOf
  have e0 : callD E.fal 0 [m.d, .tuple (cs.map .int), .int a, .int t] = _ := (e.fal0 _).trans (side_level_spec e h hc ha)
  have e1 : callD E.fal 0 [m.d, .tuple (cs.map .int), .int b, .int t] = _ := (e.fal0 _).trans (side_level_spec e h hc hb)
  obtain ⟨_, _, _, _, _, p0, p1, p2, p3⟩ := fo_ok h hc ha hb (t := t)
  have e2 : callD E.fal 1 [.int ((fl m cs t a).1 * (fl m cs t b).2 - (fl m cs t b).1 * (fl m cs t a).2), .int ((fl m cs t a).2 * (fl m cs t b).2)] = _ :=
    (e.fal1 _).trans (fraction_spec E.fra E.com e.fra0 _ _ p0 (smb_of (by omega) (by omega)) (smb_of (by omega) (by omega)))
  have A := fl_ok h hc ha (t := t)
  have B := fl_ok h hc hb (t := t)
  have a1 := A.u0
  have a2 := A.u1
  have b1 := B.u0
  have b2 := B.u1
  simp [-List.map_map, List.replicate, e0, e1, mul_ok_r (n := (fl m cs t a).1) (q := (fl m cs t b).2) (by omega) (by omega), mul_ok_r (n := (fl m cs t b).1) (q := (fl m cs t a).2) (by omega) (by omega), mul_ok_r (n := (fl m cs t a).2) (q := (fl m cs t b).2) (by omega) (by omega), e2, fo]
end
end Rf

/-! Rf: reflection. Part ZD: what passes a gate; whether a wheel can turn. -/
namespace Rf
open PySem L2
def bHolds : S :=
  (.seq (.ret (.bin .Mult (.idx (.var 0) (.cst (.int 1))) (.bin .Sub (.idx (.var 0) (.cst (.int 3))) (.idx (.var 0) (.cst (.int 2)))))) .nil)
def bGivenAbove : S :=
  (.seq (.ret (.blt .min2 (.cons (.var 1) (.cons (.bin .Sub (.var 1) (.bin .Mult (.bin .Sub (.var 2) (.idx (.var 0) (.cst (.int 2)))) (.idx (.var 0) (.cst (.int 1))))) .nil)))) .nil)
def bTakenBelow : S :=
  (.seq (.ret (.bin .Sub (.bin .Mult (.bin .Sub (.var 2) (.idx (.var 0) (.cst (.int 2)))) (.idx (.var 0) (.cst (.int 1)))) (.var 1))) .nil)
def bUntilEven : S :=
  (.seq (.ifs (.cmp .Eq (.var 2) (.neg (.cst (.int 1)))) (.seq (.ret (.call false 0 (.cons (.idx (.idx (.var 0) (.cst (.int 1))) (.var 3)) (.cons (.idx (.var 1) (.var 3)) (.cons (.idx (.call false 1 (.cons (.var 0) (.cons (.var 1) (.cons (.neg (.cst (.int 1))) (.cons (.var 4) .nil))))) (.cst (.int 0))) .nil))))) .nil) .nil) (.seq (.ifs (.cmp .Eq (.var 3) (.neg (.cst (.int 1)))) (.seq (.ret (.call false 2 (.cons (.idx (.idx (.var 0) (.cst (.int 1))) (.var 2)) (.cons (.idx (.var 1) (.var 2)) (.cons (.idx (.call false 1 (.cons (.var 0) (.cons (.var 1) (.cons (.neg (.cst (.int 1))) (.cons (.var 4) .nil))))) (.cst (.int 0))) .nil))))) .nil) .nil) (.seq (.asg 5 (.idx (.idx (.var 0) (.cst (.int 1))) (.var 2))) (.seq (.asg 6 (.idx (.idx (.var 0) (.cst (.int 1))) (.var 3))) (.seq (.asg 7 (.bin .Mult (.bin .Add (.bin .Mult (.idx (.var 5) (.cst (.int 2))) (.idx (.var 5) (.cst (.int 1)))) (.idx (.var 1) (.var 2))) (.idx (.var 6) (.cst (.int 1))))) (.seq (.asg 8 (.bin .Mult (.bin .Add (.bin .Mult (.idx (.var 6) (.cst (.int 2))) (.idx (.var 6) (.cst (.int 1)))) (.idx (.var 1) (.var 3))) (.idx (.var 5) (.cst (.int 1))))) (.seq (.ret (.bin .FloorDiv (.bin .Sub (.var 7) (.var 8)) (.bin .Add (.idx (.var 5) (.cst (.int 1))) (.idx (.var 6) (.cst (.int 1)))))) .nil)))))))
def bCanTurn : S :=
  (.seq (.unp [4, 5, 6, 7] (.sl false (.idx (.idx (.var 0) (.cst (.int 3))) (.var 3)) .non (.cst (.int 4)))) (.seq (.ifs (.or (.not (.call false 0 (.cons (.call false 1 (.cons (.var 0) (.cons (.var 1) (.cons (.var 4) (.cons (.var 5) (.cons (.var 2) .nil)))))) (.cons (.tup (.cons (.var 6) (.cons (.cst (.int 1)) .nil))) .nil)))) (.cmp .Lt (.idx (.var 1) (.var 4)) (.var 7))) (.seq (.ret (.cst (.bool false))) .nil) .nil) (.seq (.ret (.or (.cmp .Eq (.var 5) (.neg (.cst (.int 1)))) (.cmp .LtE (.bin .Add (.idx (.var 1) (.var 5)) (.var 7)) (.call false 2 (.cons (.idx (.idx (.var 0) (.cst (.int 1))) (.var 5)) .nil))))) .nil)))
def bPassingB : S :=
  (.seq (.asg 8 (.call false 1 (.cons (.var 0) (.cons (.var 1) (.cons (.var 4) (.cons (.var 2) .nil)))))) (.seq (.ifs (.call false 2 (.cons (.tup (.cons (.var 6) (.cons (.cst (.int 1)) .nil))) (.cons (.var 8) .nil))) (.seq (.ret (.cst .none)) .nil) .nil) (.seq (.asg 9 (.blt .min2 (.cons (.var 7) (.cons (.call false 3 (.cons (.var 0) (.cons (.var 1) (.cons (.var 4) (.cons (.var 5) (.cons (.var 2) .nil)))))) .nil)))) (.seq (.ifs (.cmp .GtE (.var 4) (.cst (.int 0))) (.seq (.asg 9 (.blt .min2 (.cons (.var 9) (.cons (.call false 4 (.cons (.idx (.idx (.var 0) (.cst (.int 1))) (.var 4)) (.cons (.idx (.var 1) (.var 4)) (.cons (.var 6) .nil)))) .nil)))) .nil) .nil) (.seq (.ifs (.cmp .GtE (.var 5) (.cst (.int 0))) (.seq (.asg 9 (.blt .min2 (.cons (.var 9) (.cons (.bin .Sub (.call false 5 (.cons (.idx (.idx (.var 0) (.cst (.int 1))) (.var 5)) .nil)) (.idx (.var 1) (.var 5))) .nil)))) .nil) .nil) (.seq (.ifs (.cmp .LtE (.var 9) (.cst (.int 0))) (.seq (.ret (.cst .none)) .nil) .nil) (.seq (.ret (.tup (.cons (.var 4) (.cons (.var 5) (.cons (.var 9) .nil))))) .nil)))))))
def bPassing : S :=
  (.seq (.unp [4, 5, 6, 7] (.idx (.idx (.var 0) (.cst (.int 2))) (.var 3))) (.seq (.ifs (.cmp .Lt (.idx (.call false 0 (.cons (.var 0) (.cons (.var 1) (.cons (.var 4) (.cons (.var 5) (.cons (.var 2) .nil)))))) (.cst (.int 0))) (.cst (.int 0))) (.seq (.par 4 5 (.var 5) (.var 4)) .nil) .nil) bPassingB))

structure Pa where
  (giv tak unt pas hol : Rf.Ctx)
structure Pa.Ok (E : Ph) (F : Pa) : Prop where
  unt0 : ∀ ds, callD F.unt 0 ds = run F.tak .sh 3 bTakenBelow (ds ++ [])
  unt1 : ∀ ds, callD F.unt 1 ds = run E.sid .sh 4 bSideLevel (ds ++ [])
  unt2 : ∀ ds, callD F.unt 2 ds = run F.giv .sh 3 bGivenAbove (ds ++ [])
  pas0 : ∀ ds, callD F.pas 0 ds = run E.fal .sh 7 bFallOf (ds ++ [])
  pas1 : ∀ ds, callD F.pas 1 ds = run E.sid .sh 4 bSideLevel (ds ++ [])
  pas2 : ∀ ds, callD F.pas 2 ds = run E.atl .sh 2 bAtLeast (ds ++ [])
  pas3 : ∀ ds, callD F.pas 3 ds = run F.unt .sh 9 bUntilEven (ds ++ [])
  pas4 : ∀ ds, callD F.pas 4 ds = run F.giv .sh 3 bGivenAbove (ds ++ [])
  pas5 : ∀ ds, callD F.pas 5 ds = run F.hol .sh 1 bHolds (ds ++ [])
def givAbove (p : MPond) (c h : Int) : Int := min c (c - (h - p.bottom) * p.area)
def takBelow (p : MPond) (c h : Int) : Int := (h - p.bottom) * p.area - c
def untilEven (m : Mill) (cs : List Int) (t g k : Int) : Int :=
  if g = -1 then takBelow (nthA m.ponds k.toNat) (nth cs k.toNat) (seaAt m.base m.rings t)
  else if k = -1 then givAbove (nthA m.ponds g.toNat) (nth cs g.toNat) (seaAt m.base m.rings t)
  else ((lv m cs t g).1 * (lv m cs t k).2 - (lv m cs t k).1 * (lv m cs t g).2) / ((lv m cs t g).2 + (lv m cs t k).2)
def capG (m : Mill) (cs : List Int) (g sill b : Int) : Int := if 0 ≤ g then min b (givAbove (nthA m.ponds g.toNat) (nth cs g.toNat) sill) else b
def capK (m : Mill) (cs : List Int) (k b : Int) : Int := if 0 ≤ k then min b (holdP (nthA m.ponds k.toNat) - nth cs k.toNat) else b
def passB (m : Mill) (cs : List Int) (t g k sill rate : Int) : Int := capK m cs k (capG m cs g sill (min rate (untilEven m cs t g k)))
def passT (m : Mill) (cs : List Int) (t g k sill rate : Int) : Option (Int × Int × Int) :=
  if (fl m cs t g).1 * 1 ≤ sill * (fl m cs t g).2 then none else if passB m cs t g k sill rate ≤ 0 then none else some (g, k, passB m cs t g k sill rate)
def passO (m : Mill) (cs : List Int) (t : Int) (g : MGate) : Option (Int × Int × Int) :=
  if (fo m cs t g.one g.other).1 < 0 then passT m cs t g.other g.one g.sill g.rate else passT m cs t g.one g.other g.sill g.rate
def passD : Option (Int × Int × Int) → D
  | none => .none
  | some (a, b, c) => .tuple [.int a, .int b, .int c]
theorem holds_spec (Γ : Rf.Ctx) {p : MPond} (h : PondOk p) : run Γ .sh 1 bHolds [pondD p] = .ok (.int (holdP p)) := by
  refine run_eq ?_
  unfold bHolds
  have h1 := h.area
  have h3 := h.bd
  simp (disch := omega) [List.replicate, pondD, mul_ok_l, holdP]
theorem given_above_spec (Γ : Rf.Ctx) {p : MPond} (h : PondOk p) (c x : Int) : run Γ .sh 3 bGivenAbove [pondD p, .int c, .int x] = .ok (.int (givAbove p c x)) := by
  refine run_eq ?_
  unfold bGivenAbove
  have h1 := h.area
  have h3 := h.bd
  simp [List.replicate, pondD, mul_ok_r (n := x - p.bottom) (q := p.area) (by omega) (by omega), givAbove]
theorem taken_below_spec (Γ : Rf.Ctx) {p : MPond} (h : PondOk p) (c x : Int) : run Γ .sh 3 bTakenBelow [pondD p, .int c, .int x] = .ok (.int (takBelow p c x)) := by
  refine run_eq ?_
  unfold bTakenBelow
  have h1 := h.area
  have h3 := h.bd
  simp [List.replicate, pondD, mul_ok_r (n := x - p.bottom) (q := p.area) (by omega) (by omega), takBelow]
section
variable {E : Ph} {F : Pa} {m : Mill} {cs : List Int} {t s : Int}
theorem fl_sea : fl m cs t (-1) = (seaAt m.base m.rings t, 1) := by unfold fl; rw [lv_sea, frac_one]
theorem until_even_spec (e : E.Ok) (f : F.Ok E) (h : m.Ok) (hc : COk m cs) {g k : Int} (hg : Side m g) (hk : Side m k) (hne : g ≠ k) :
    run F.unt .sh 9 bUntilEven [m.d, .tuple (cs.map .int), .int g, .int k, .int t] = .ok (.int (untilEven m cs t g k)) := by
  refine run_eq ?_
  unfold bUntilEven
  have e1 : callD F.unt 1 [m.d, .tuple (cs.map .int), .int (-1), .int t] = _ := (f.unt1 _).trans (side_level_spec e h hc ⟨Int.le_refl _, by omega⟩)
  rw [fl_sea] at e1
  have ixk := fun h0 => idxAT (g := pondD) (l := m.ponds) (q := k) h0 hk.hi
  have iyk := fun h0 => idx_intsT (l := cs) (q := k) h0 (by rw [hc.len]; exact hk.hi)
  have ixg := fun h0 => idxAT (g := pondD) (l := m.ponds) (q := g) h0 hg.hi
  have iyg := fun h0 => idx_intsT (l := cs) (q := g) h0 (by rw [hc.len]; exact hg.hi)
  have kl := hk.lo
  have gl := hg.lo
  by_cases c : g = -1
  · have k0 : 0 ≤ k := by omega
    have kh := hk.hi
    have pk := pond_at h (i := k.toNat) (by omega)
    have e2 : callD F.unt 0 [pondD (nthA m.ponds k.toNat), .int (nth cs k.toNat), .int (seaAt m.base m.rings t)] = _ := (f.unt0 _).trans (taken_below_spec F.tak pk _ _)
    simp [-List.map_map, List.replicate, mill_ponds, c, ixk k0, iyk k0, e1, e2, untilEven]
  · have g0 : 0 ≤ g := by omega
    have gh := hg.hi
    have pg := pond_at h (i := g.toNat) (by omega)
    by_cases c2 : k = -1
    · have e2 : callD F.unt 2 [pondD (nthA m.ponds g.toNat), .int (nth cs g.toNat), .int (seaAt m.base m.rings t)] = _ := (f.unt2 _).trans (given_above_spec F.giv pg _ _)
      simp [-List.map_map, List.replicate, mill_ponds, c, c2, Kf_eq, ixg g0, iyg g0, e1, e2, untilEven]
    · have k0 : 0 ≤ k := by omega
      have kh := hk.hi
      have pk := pond_at h (i := k.toNat) (by omega)
      have k1 := pk.area
      have k2 := pk.bd
      have g1 := pg.area
      have g2 := pg.bd
      have lg := lv_ok h hc hg (t := t)
      have lk := lv_ok h hc hk (t := t)
      simp [-List.map_map, List.replicate, mill_ponds, c, c2, Kf_eq, ixg g0, iyg g0, ixk k0, iyk k0, untilEven]
      rw [lv_pond g0] at lg ⊢
      rw [lv_pond k0] at lk ⊢
      generalize nthA m.ponds g.toNat = p at *
      generalize nthA m.ponds k.toNat = q at *
      simp [-List.map_map, pondD, iyk k0, iyg g0, mul_ok_r (n := p.bottom) (q := p.area) (by omega) (by omega), mul_ok_r (n := q.bottom) (q := q.area) (by omega) (by omega),
        mul_ok_r (n := p.bottom * p.area + nth cs g.toNat) (q := q.area) (by omega) (by omega), mul_ok_r (n := q.bottom * q.area + nth cs k.toNat) (q := p.area) (by omega) (by omega),
        fdiv_ok (n := (p.bottom * p.area + nth cs g.toNat) * q.area - (q.bottom * q.area + nth cs k.toNat) * p.area) (q := p.area + q.area) (by omega) (by omega)]
theorem passing_tail (e : E.Ok) (f : F.Ok E) (h : m.Ok) (hc : COk m cs) {g k sill rate : Int} {gt : D} (hg : Side m g) (hk : Side m k) (hne : g ≠ k) (hs : -1000000 ≤ sill ∧ sill ≤ 1000000) :
    Wp (exec F.pas .sh bPassingB [.sh m.d, .sh (.tuple (cs.map .int)), .sh (.int t), .sh gt, .sh (.int g), .sh (.int k), .sh (.int sill), .sh (.int rate), .un, .un]) No No No (fun z => z = passD (passT m cs t g k sill rate)) := by
  unfold bPassingB
  have e1 : callD F.pas 1 [m.d, .tuple (cs.map .int), .int g, .int t] = _ := (f.pas1 _).trans (side_level_spec e h hc hg)
  have A := fl_ok h hc hg (t := t)
  have e2 : callD F.pas 2 [.tuple [.int sill, .int 1], .tuple [.int (fl m cs t g).1, .int (fl m cs t g).2]] = _ := (f.pas2 _).trans (at_least_spec E.atl sill 1 (fl m cs t g).1 (fl m cs t g).2 (smb_of (by omega) (by omega)) (smb_of (by omega) (by omega))
    (smb_of (by have := A.t0; omega) (by have := A.t1; omega)) (smb_of (by have := A.u0; omega) (by have := A.u1; omega)))
  have e3 : callD F.pas 3 [m.d, .tuple (cs.map .int), .int g, .int k, .int t] = _ := (f.pas3 _).trans (until_even_spec e f h hc hg hk hne)
  simp only [Int.mul_one] at e2
  simp [-List.map_map, e1, e2]
  unfold passT
  rw [Int.mul_one]
  by_cases c : (fl m cs t g).1 ≤ sill * (fl m cs t g).2
  · simp [c, passD]
  · simp [-List.map_map, c, Kf_eq, e3]
    have fin : ∀ b : Int, Wp (exec F.pas .sh (.seq (.ifs (.cmp .LtE (.var 9) (.cst (.int 0))) (.seq (.ret (.cst .none)) .nil) .nil) (.seq (.ret (.tup (.cons (.var 4) (.cons (.var 5) (.cons (.var 9) .nil))))) .nil))
        [.sh m.d, .sh (.tuple (cs.map .int)), .sh (.int t), .sh gt, .sh (.int g), .sh (.int k), .sh (.int sill), .sh (.int rate), .sh (.tuple [.int (fl m cs t g).1, .int (fl m cs t g).2]), .sh (.int b)]) No No No
        (fun z => z = passD (if b ≤ 0 then none else some (g, k, b))) := fun b => by
      by_cases c2 : b ≤ 0
      · simp [c2, passD]
      · simp [c2, passD, Kf_eq]
    have mid : ∀ b : Int, Wp (exec F.pas .sh (.seq (.ifs (.cmp .GtE (.var 5) (.cst (.int 0))) (.seq (.asg 9 (.blt .min2 (.cons (.var 9) (.cons (.bin .Sub (.call false 5 (.cons (.idx (.idx (.var 0) (.cst (.int 1))) (.var 5)) .nil)) (.idx (.var 1) (.var 5))) .nil)))) .nil) .nil)
        (.seq (.ifs (.cmp .LtE (.var 9) (.cst (.int 0))) (.seq (.ret (.cst .none)) .nil) .nil) (.seq (.ret (.tup (.cons (.var 4) (.cons (.var 5) (.cons (.var 9) .nil))))) .nil)))
        [.sh m.d, .sh (.tuple (cs.map .int)), .sh (.int t), .sh gt, .sh (.int g), .sh (.int k), .sh (.int sill), .sh (.int rate), .sh (.tuple [.int (fl m cs t g).1, .int (fl m cs t g).2]), .sh (.int b)]) No No No
        (fun z => z = passD (if capK m cs k b ≤ 0 then none else some (g, k, capK m cs k b))) := fun b => by
      unfold capK
      by_cases c2 : 0 ≤ k
      · have kh := hk.hi
        have ixk := idxAT (g := pondD) (l := m.ponds) (q := k) c2 hk.hi
        have iyk := idx_intsT (l := cs) (q := k) c2 (by rw [hc.len]; exact hk.hi)
        have e5 : callD F.pas 5 [pondD (nthA m.ponds k.toNat)] = _ := (f.pas5 _).trans (holds_spec F.hol (pond_at h (by omega)))
        have := fin (min b (holdP (nthA m.ponds k.toNat) - nth cs k.toNat))
        simp [-List.map_map, c2, mill_ponds, ixk, iyk, e5, Kf_eq] at this ⊢
        exact this
      · have := fin b
        simp [-List.map_map, c2, Kf_eq] at this ⊢
        exact this
    unfold passB capG
    by_cases c2 : 0 ≤ g
    · have gh := hg.hi
      have ixg := idxAT (g := pondD) (l := m.ponds) (q := g) c2 hg.hi
      have iyg := idx_intsT (l := cs) (q := g) c2 (by rw [hc.len]; exact hg.hi)
      have e4 : callD F.pas 4 [pondD (nthA m.ponds g.toNat), .int (nth cs g.toNat), .int sill] = _ := (f.pas4 _).trans (given_above_spec F.giv (pond_at h (by omega)) _ _)
      have := mid (min (min rate (untilEven m cs t g k)) (givAbove (nthA m.ponds g.toNat) (nth cs g.toNat) sill))
      simp [-List.map_map, c2, mill_ponds, ixg, iyg, e4, Kf_eq] at this ⊢
      exact this
    · have := mid (min rate (untilEven m cs t g k))
      simp [-List.map_map, c2, Kf_eq] at this ⊢
      exact this
theorem passing_spec (e : E.Ok) (f : F.Ok E) (h : m.Ok) (hc : COk m cs) {i : Nat} (hi : i < m.gates.length) :
    run F.pas .sh 10 bPassing [m.d, .tuple (cs.map .int), .int t, .int i] = .ok (passD (passO m cs t (nthA m.gates i))) := by
  refine run_eq ?_
  unfold bPassing
  have gk := h.gates _ (nthA_mem hi)
  have ix := idxAT (g := gateD) (l := m.gates) (q := (i : Int)) (by omega) (by omega)
  rw [show ((i : Int)).toNat = i by omega] at ix
  generalize nthA m.gates i = gt at *
  have s1 : Side m gt.one := ⟨gk.one.1, gk.one.2⟩
  have s2 : Side m gt.other := ⟨gk.other.1, gk.other.2⟩
  have e0 : callD F.pas 0 [m.d, .tuple (cs.map .int), .int gt.one, .int gt.other, .int t] = _ := (f.pas0 _).trans (fall_of_spec e h hc s1 s2)
  have sb := gk.bd
  simp [-List.map_map, List.replicate, mill_gates, ix]
  simp [-List.map_map, gateD, e0]
  unfold passO
  by_cases c : (fo m cs t gt.one gt.other).1 < 0
  · simp [-List.map_map, c, Kf_eq]
    exact passing_tail e f h hc s2 s1 (Ne.symm gk.ne) ⟨sb.2.1, sb.2.2⟩
  · simp [-List.map_map, c, Kf_eq]
    exact passing_tail e f h hc s1 s2 gk.ne ⟨sb.2.1, sb.2.2⟩
end
structure Wh where
  (can hol : Rf.Ctx)
structure Wh.Ok (E : Ph) (G : Wh) : Prop where
  can0 : ∀ ds, callD G.can 0 ds = run E.atl .sh 2 bAtLeast (ds ++ [])
  can1 : ∀ ds, callD G.can 1 ds = run E.fal .sh 7 bFallOf (ds ++ [])
  can2 : ∀ ds, callD G.can 2 ds = run G.hol .sh 1 bHolds (ds ++ [])
def canO (m : Mill) (cs : List Int) (t : Int) (w : MWheel) : Bool :=
  decide (w.fall * (fo m cs t w.pond w.tail).2 ≤ (fo m cs t w.pond w.tail).1) && decide (w.drink ≤ nth cs w.pond.toNat) && (decide (w.tail = -1) || decide (nth cs w.tail.toNat + w.drink ≤ holdP (nthA m.ponds w.tail.toNat)))
theorem can_turn_spec {E : Ph} {G : Wh} {m : Mill} {cs : List Int} {t : Int} (e : E.Ok) (f : G.Ok E) (h : m.Ok) (hc : COk m cs) {w : MWheel} {i : D} (wk : WheelOk m.ponds.length w) (ix : idxD (.tuple (m.wheels.map wheelD)) i = .ok (wheelD w)) :
    run G.can .sh 8 bCanTurn [m.d, .tuple (cs.map .int), .int t, i] = .ok (.bool (canO m cs t w)) := by
  refine run_eq ?_
  unfold bCanTurn
  have s1 : Side m w.pond := ⟨by have := wk.pond; omega, wk.pond.2⟩
  have s2 : Side m w.tail := ⟨wk.tail.1, wk.tail.2⟩
  have e1 : callD G.can 1 [m.d, .tuple (cs.map .int), .int w.pond, .int w.tail, .int t] = _ := (f.can1 _).trans (fall_of_spec e h hc s1 s2)
  obtain ⟨q1, q2, q3, q4, _⟩ := fo_ok h hc s1 s2 (t := t)
  have wf := wk.fall
  have wb := wk.bd
  have e0 : callD G.can 0 [.tuple [.int (fo m cs t w.pond w.tail).1, .int (fo m cs t w.pond w.tail).2], .tuple [.int w.fall, .int 1]] = _ := (f.can0 _).trans (at_least_spec E.atl (fo m cs t w.pond w.tail).1 (fo m cs t w.pond w.tail).2 w.fall 1
    (smb_of (by omega) (by omega)) (smb_of (by omega) (by omega)) (smb_of (by omega) (by omega)) (smb_of (by omega) (by omega)))
  rw [Int.mul_one] at e0
  have iy := idx_intsT (l := cs) (q := w.pond) wk.pond.1 (by rw [hc.len]; exact wk.pond.2)
  simp [-List.map_map, List.replicate, mill_wheels, ix]
  rw [show wheelD w = .tuple [.int w.pond, .int w.tail, .int w.fall, .int w.drink, .int w.grind] from rfl]
  have hsl : slD false (.tuple [.int w.pond, .int w.tail, .int w.fall, .int w.drink, .int w.grind]) none (some 4) = .ok (.tuple [.int w.pond, .int w.tail, .int w.fall, .int w.drink]) := by
    rw [slD_t, show (4 : Int) = ((4 : Nat) : Int) from rfl, cut_take]; rfl
  rw [hsl]
  unfold canO
  generalize decide (w.fall * (fo m cs t w.pond w.tail).2 ≤ (fo m cs t w.pond w.tail).1) = B at e0 ⊢
  simp [-List.map_map, e1, e0, iy]
  cases B with
  | true =>
    by_cases c2 : nth cs w.pond.toNat < w.drink
    · simp [-List.map_map, c2, show ¬ w.drink ≤ nth cs w.pond.toNat by omega]
    · by_cases c3 : w.tail = -1
      · simp [-List.map_map, c2, c3, Kf_eq, show w.drink ≤ nth cs w.pond.toNat by omega]
      · have h0 : 0 ≤ w.tail := by have := wk.tail; omega
        have ik := idx_intsT (l := cs) (q := w.tail) h0 (by rw [hc.len]; exact wk.tail.2)
        have il := idxAT (g := pondD) (l := m.ponds) (q := w.tail) h0 wk.tail.2
        have wt := wk.tail
        have e2 : callD G.can 2 [pondD (nthA m.ponds w.tail.toNat)] = _ := (f.can2 _).trans (holds_spec G.hol (pond_at h (by omega)))
        simp [-List.map_map, c2, c3, Kf_eq, show w.drink ≤ nth cs w.pond.toNat by omega, ik, il, mill_ponds, e2]
  | false => simp [-List.map_map]
end Rf

/-! Rf: reflection. Part ZE: contents, turns, and how the laws of flows look at a mill. -/
namespace Rf
open PySem L2
def bContA : S :=
  (.seq (.asg 2 (.lst .nil)) (.seq (.asg 3 (.call true 0 (.cons (.bin .FloorDiv (.var 1) (.cst (.int 2))) (.cons (.bin .Mult (.cst (.int 2)) (.blt .len (.cons (.idx (.var 0) (.cst (.int 1))) .nil))) (.cons (.bin .Mult (.bin .Mod (.var 1) (.cst (.int 2))) (.bin .Pow (.cst (.int 10)) (.cst (.int 6)))) .nil))))) (.seq (.fr (.tup [4, 5]) (.ienum (.idx (.var 0) (.cst (.int 1)))) (.seq (.asg 6 (.bin .Mult (.idx (.var 5) (.cst (.int 1))) (.bin .Sub (.idx (.var 5) (.cst (.int 3))) (.idx (.var 5) (.cst (.int 2)))))) (.seq (.app 2 (.idx (.lst (.cons (.bin .Mod (.idx (.var 3) (.bin .Mult (.cst (.int 2)) (.var 4))) (.bin .Add (.var 6) (.cst (.int 1)))) (.cons (.bin .Mod (.idx (.var 3) (.bin .Mult (.cst (.int 2)) (.var 4))) (.bin .Add (.var 6) (.cst (.int 1)))) (.cons (.cst (.int 0)) (.cons (.var 6) .nil))))) (.bin .Mod (.idx (.var 3) (.bin .Add (.bin .Mult (.cst (.int 2)) (.var 4)) (.cst (.int 1)))) (.cst (.int 4))))) .nil))) (.seq (.ret (.blt .tuple (.cons (.var 2) .nil))) .nil))))
def bTurnA : S :=
  (.seq (.ret (.idx (.lst (.cons (.bin .Mod (.var 0) (.cst (.int 41))) (.cons (.bin .Mod (.var 0) (.cst (.int 41))) (.cons (.bin .Mod (.var 0) (.bin .Sub (.bin .Pow (.cst (.int 10)) (.cst (.int 12))) (.cst (.int 99)))) .nil)))) (.bin .Mod (.bin .FloorDiv (.var 0) (.cst (.int 41))) (.cst (.int 3))))) .nil)
def bSeaL : S :=
  (.seq (.asg 2 (.idx (.idx (.var 0) (.cst (.int 0))) (.cst (.int 0)))) (.seq (.fr (.tup [3, 4]) (.iseq (.idx (.idx (.var 0) (.cst (.int 0))) (.cst (.int 1)))) (.seq (.asg 2 (.bin .Add (.var 2) (.idx (.var 4) (.bin .Mod (.bin .Add (.var 1) (.var 3)) (.blt .len (.cons (.var 4) .nil)))))) .nil)) (.seq (.ret (.var 2)) .nil)))
def bStand : S :=
  (.seq (.ifs (.cmp .Eq (.var 2) (.neg (.cst (.int 1)))) (.seq (.ret (.tup (.cons (.call false 0 (.cons (.var 0) (.cons (.var 3) .nil))) (.cons (.cst (.int 1)) .nil)))) .nil) .nil) (.seq (.asg 4 (.idx (.idx (.var 0) (.cst (.int 1))) (.var 2))) (.seq (.ret (.tup (.cons (.bin .Add (.bin .Mult (.idx (.var 4) (.cst (.int 1))) (.idx (.var 4) (.cst (.int 2)))) (.idx (.var 1) (.var 2))) (.cons (.idx (.var 4) (.cst (.int 1))) .nil)))) .nil)))
def bSides : S :=
  (.seq (.unp [4, 5, 6] (.sl false (.idx (.idx (.var 0) (.cst (.int 2))) (.var 3)) .non (.cst (.int 3)))) (.seq (.ifs (.call false 0 (.cons (.call false 1 (.cons (.var 0) (.cons (.var 1) (.cons (.var 5) (.cons (.var 2) .nil))))) (.cons (.call false 1 (.cons (.var 0) (.cons (.var 1) (.cons (.var 4) (.cons (.var 2) .nil))))) .nil))) (.seq (.par 4 5 (.var 5) (.var 4)) .nil) .nil) (.seq (.asg 7 (.call false 1 (.cons (.var 0) (.cons (.var 1) (.cons (.var 4) (.cons (.var 2) .nil)))))) (.seq (.asg 8 (.call false 0 (.cons (.call false 1 (.cons (.var 0) (.cons (.var 1) (.cons (.var 5) (.cons (.var 2) .nil))))) (.cons (.var 7) .nil)))) (.seq (.ifs (.or (.var 8) (.call false 0 (.cons (.tup (.cons (.var 6) (.cons (.cst (.int 1)) .nil))) (.cons (.var 7) .nil)))) (.seq (.ret (.cst .none)) .nil) .nil) (.seq (.ret (.tup (.cons (.var 4) (.cons (.var 5) .nil)))) .nil))))))
def bFits : S :=
  (.seq (.unp [6, 7] (.var 4)) (.seq (.asg 8 (.call false 0 (.cons (.var 1) (.cons (.var 6) (.cons (.var 7) (.cons (.var 5) .nil)))))) (.seq (.asg 9 (.call false 1 (.cons (.var 0) (.cons (.var 8) (.cons (.var 6) (.cons (.var 2) .nil)))))) (.seq (.ifs (.or (.cmp .Gt (.var 5) (.idx (.idx (.idx (.var 0) (.cst (.int 2))) (.var 3)) (.cst (.int 3)))) (.not (.call false 2 (.cons (.var 9) (.cons (.tup (.cons (.idx (.idx (.idx (.var 0) (.cst (.int 2))) (.var 3)) (.cst (.int 2))) (.cons (.cst (.int 1)) .nil))) .nil))))) (.seq (.ret (.cst (.bool false))) .nil) .nil) (.seq (.ifs (.or (.and (.cmp .GtE (.var 6) (.cst (.int 0))) (.cmp .Lt (.idx (.var 8) (.var 6)) (.cst (.int 0)))) (.and (.cmp .GtE (.var 7) (.cst (.int 0))) (.cmp .Gt (.idx (.var 8) (.var 7)) (.call false 3 (.cons (.idx (.idx (.var 0) (.cst (.int 1))) (.var 7)) .nil))))) (.seq (.ret (.cst (.bool false))) .nil) .nil) (.seq (.ret (.call false 2 (.cons (.var 9) (.cons (.call false 1 (.cons (.var 0) (.cons (.var 8) (.cons (.var 7) (.cons (.var 2) .nil))))) .nil)))) .nil))))))
def bRest : S :=
  (.seq (.ifs (.cmp .Eq (.bin .Mod (.var 0) (.cst (.int 2))) (.cst (.int 1))) (.seq (.ret (.bin .FloorDiv (.blt .abs (.cons (.var 0) .nil)) (.bin .Pow (.cst (.int 10)) (.cst (.int 40))))) .nil) .nil) (.seq (.asg 1 (.call true 0 (.cons (.var 0) (.cons (.cst (.int 3)) .nil)))) (.seq (.ret (.bin .Add (.bin .Add (.idx (.var 1) (.cst (.int 0))) (.bin .Mult (.idx (.var 1) (.cst (.int 1))) (.bin .Pow (.cst (.int 10)) (.cst (.int 9))))) (.bin .Mult (.idx (.var 1) (.cst (.int 2))) (.bin .Pow (.cst (.int 10)) (.cst (.int 18)))))) .nil)))

theorem enumD_at {α : Type} {g : α → D} {l : List α} {j : Nat} {d : D} (h : (enumFrom 0 (l.map g))[j]? = some d) : ∃ a, l[j]? = some a ∧ d = .tuple [.int j, g a] := by
  obtain ⟨x, hx, rfl⟩ := enum_at h
  rw [List.getElem?_map] at hx
  cases q : l[j]? with
  | none => rw [q] at hx; cases hx
  | some a =>
    rw [q] at hx
    cases hx
    exact ⟨a, rfl, by rw [Nat.zero_add]⟩
theorem enumD_len {α : Type} {g : α → D} {l : List α} : (enumFrom 0 (l.map g)).length = l.length := by rw [enum_len, List.length_map]
theorem nth_app {l : List Int} {x : Int} {i : Nat} : nth (l ++ [x]) i = if i = l.length then x else nth l i := by
  unfold nth
  simp only [List.getD_eq_getElem?_getD]
  by_cases c : i < l.length
  · rw [List.getElem?_append_left c, if_neg (by omega)]
  · by_cases c2 : i = l.length
    · subst c2
      rw [List.getElem?_append_right (Nat.le_refl _)]
      simp
    · rw [List.getElem?_append_right (by omega), if_neg c2, List.getElem?_eq_none (by simp; omega), List.getElem?_eq_none (by omega)]
theorem contA_spec (Γ Γs : Rf.Ctx) (k0 : ∀ ds, callD Γ 0 ds = run Γs .own 6 bStream (ds ++ [])) {m : Mill} (h : m.Ok) (c : Int) : ∃ cs : List Int, run Γ .sh 7 bContA [m.d, .int c] = .ok (.tuple (cs.map .int)) ∧ COk m cs := by
  obtain ⟨P, hP⟩ : ∃ P : D → Prop, ∀ d, P d ↔ (∃ cs : List Int, d = .tuple (cs.map .int) ∧ COk m cs) := ⟨_, fun _ => Iff.rfl⟩
  obtain ⟨d, e, hd⟩ := run_wp (Γ := Γ) (fr := .sh) (s := bContA) (kk := 7) (ds := [m.d, .int c]) (P := P) (by
    unfold bContA
    have p6 : powD 10 6 = .ok (.int 1000000) := pow_ok (by decide) (by decide) (by decide)
    obtain ⟨xs, e1, hl, hx⟩ := streamA_spec Γs (c / 2) (2 * m.ponds.length) (by have := h.few.1; omega) (c % 2 * 1000000) (by omega) (by
      have : c % 2 = 0 ∨ c % 2 = 1 := by omega
      rcases this with e | e <;> rw [e] <;> decide)
    have e1 : callD Γ 0 [.int (c / 2), .int ((2 * m.ponds.length : Nat) : Int), .int (c % 2 * 1000000)] = _ := (k0 _).trans e1
    rw [Int.natCast_mul] at e1
    have e1 : callD Γ 0 [.int (c / 2), .int (2 * (m.ponds.length : Int)), .int (c % 2 * 1000000)] = _ := e1
    simp (disch := omega) [-List.map_map, List.replicate, mill_ponds, exec_for, fdiv_ok, mod_ok, mul_ok_l, p6, e1, itEnum]
    obtain ⟨I, hI⟩ : ∃ I : Nat → Sl → Prop, ∀ j ρ, I j ρ ↔ (∃ (cs : List Int) (u4 u5 u6 : Slot), ρ = [.sh m.d, .sh (.int c), .own (cs.map .int), .own (xs.map .int), u4, u5, u6] ∧ cs.length = j ∧ ∀ i, i < j → 0 ≤ nth cs i ∧ nth cs i ≤ holdP (nthA m.ponds i)) := ⟨_, fun _ _ => Iff.rfl⟩
    refine wp_forL I ((hI _ _).mpr ⟨[], _, _, _, rfl, rfl, fun i hi => absurd hi (Nat.not_lt_zero _)⟩) ?_ ?_
    · intro j d ρ hd hr
      obtain ⟨cs, u4, u5, u6, rfl, hcl, hcb⟩ := (hI _ _).mp hr
      obtain ⟨p, hp, rfl⟩ := enumD_at hd
      have hj : j < m.ponds.length := (List.getElem?_eq_some_iff.mp hp).1
      have few := h.few.1
      have hpj : nthA m.ponds j = p := by rw [nthA_eq hj]; exact (List.getElem?_eq_some_iff.mp hp).2
      have pk := h.ponds p (List.mem_of_getElem? hp)
      have p1 := pk.area
      have p3 := pk.bd
      have hb := hold_bd pk
      refine ⟨_, rfl, ?_⟩
      have e8 : p.area * (p.rim - p.bottom) = holdP p := rfl
      simp (disch := omega) [-List.map_map, pondD, mul_ok_l, idx_ints, hl, e8, mod_ok]
      have x0 := (hx _ (nth_mem (l := xs) (k := (2 * (j : Int)).toNat) (by omega)))
      have m0 := Int.emod_nonneg (nth xs (2 * (j : Int)).toNat) (show holdP p + 1 ≠ 0 by omega)
      have m1 := Int.emod_lt_of_pos (nth xs (2 * (j : Int)).toNat) (show 0 < holdP p + 1 by omega)
      generalize nth xs (2 * (j : Int)).toNat % (holdP p + 1) = v at *
      obtain ⟨d1, q1, w, rfl, w0, w1⟩ := idx_all (l := [.int v, .int v, .int 0, .int (holdP p)]) (q := nth xs (2 * (j : Int) + 1).toNat % 4) (fun d => ∃ n : Int, d = .int n ∧ 0 ≤ n ∧ n ≤ holdP p) (by
        intro d hd
        simp at hd
        rcases hd with rfl | rfl | rfl <;> exact ⟨_, rfl, by omega, by omega⟩) (by omega) (by simp; omega)
      simp [-List.map_map, q1, guardF_lt (show cs.length < 16777216 by omega)]
      refine (hI _ _).mpr ⟨cs ++ [w], _, _, _, by rw [List.map_append]; rfl, by rw [List.length_append, hcl]; rfl, fun i hi => ?_⟩
      rw [nth_app]
      by_cases q : i = cs.length
      · rw [if_pos q]
        have : i = j := by omega
        subst this
        rw [hpj]; exact ⟨w0, w1⟩
      · rw [if_neg q]
        exact hcb i (by omega)
    · intro ρ hr
      obtain ⟨cs, u4, u5, u6, rfl, hcl, hcb⟩ := (hI _ _).mp hr
      rw [enumD_len] at hcl hcb
      simp [-List.map_map, Kf_eq]
      exact (hP _).mpr ⟨cs, rfl, hcl, hcb⟩)
  obtain ⟨cs, rfl, hc⟩ := (hP d).mp hd
  exact ⟨cs, e, hc⟩
theorem turnA_spec (Γ : Rf.Ctx) (c : Int) : ∃ t : Int, run Γ .sh 1 bTurnA [.int c] = .ok (.int t) ∧ 0 ≤ t ∧ t ≤ 1000000000000 := by
  have p12 : powD 10 12 = .ok (.int 1000000000000) := pow_ok (by decide) (by decide) (by decide)
  obtain ⟨d1, q1, w, rfl, w0, w1⟩ := idx_all (l := [.int (c % 41), .int (c % 41), .int (c % 999999999901)]) (q := c / 41 % 3) (fun d => ∃ n : Int, d = .int n ∧ 0 ≤ n ∧ n ≤ 1000000000000) (by
    intro d hd
    simp at hd
    rcases hd with rfl | rfl <;> exact ⟨_, rfl, by omega, by omega⟩) (by omega) (by simp; omega)
  refine ⟨w, run_eq ?_, w0, w1⟩
  unfold bTurnA
  simp (disch := omega) [List.replicate, p12, mod_ok, fdiv_ok, q1]
theorem rest_spec (Γ Γs : Rf.Ctx) (k0 : ∀ ds, callD Γ 0 ds = run Γs .own 6 bStream (ds ++ [.int 0])) (c : Int) : ∃ t : Int, run Γ .sh 2 bRest [.int c] = .ok (.int t) := by
  have p40 : powD 10 40 = .ok (.int 10000000000000000000000000000000000000000) := pow_ok (by decide) (by decide) (by decide)
  have p9 : powD 10 9 = .ok (.int 1000000000) := pow_ok (by decide) (by decide) (by decide)
  have p18 : powD 10 18 = .ok (.int 1000000000000000000) := pow_ok (by decide) (by decide) (by decide)
  obtain ⟨P, hP⟩ : ∃ P : D → Prop, ∀ d, P d ↔ (∃ t : Int, d = .int t) := ⟨_, fun _ => Iff.rfl⟩
  obtain ⟨d, e, hd⟩ := run_wp (Γ := Γ) (fr := .sh) (s := bRest) (kk := 2) (ds := [.int c]) (P := P) (by
    unfold bRest
    obtain ⟨xs, e1, hl, hx⟩ := stream_spec Γs c 3 (by decide)
    have e1 : callD Γ 0 [.int c, .int 3] = _ := (k0 _).trans e1
    by_cases c1 : c % 2 = 1
    · simp (disch := omega) [List.replicate, mod_ok, c1, p40, fdiv_ok, hP]
    · simp (disch := omega) [-List.map_map, List.replicate, mod_ok, c1, p9, p18, e1, Kf_eq, idx_ints, hl, mul_ok_r, hP])
  obtain ⟨t, rfl⟩ := (hP d).mp hd
  exact ⟨t, e⟩
/-! ### standing -/
structure CW (m : Mill) (cs : List Int) : Prop where
  len : cs.length = m.ponds.length
  bd : ∀ i, -20000000000000 ≤ nth cs i ∧ nth cs i ≤ 20000000000000
theorem nth_out {l : List Int} {i : Nat} (h : ¬ i < l.length) : nth l i = 0 := by
  unfold nth
  rw [List.getD_eq_getElem?_getD, List.getElem?_eq_none (by omega)]; rfl
theorem COk.w {m : Mill} {cs : List Int} (h : m.Ok) (hc : COk m cs) : CW m cs := ⟨hc.len, fun i => by
  by_cases c : i < cs.length
  · have := cs_bd h hc (i := i) (by rw [← hc.len]; exact c)
    omega
  · rw [nth_out c]; decide⟩
structure LvW (x : Int × Int) : Prop where
  u0 : 1 ≤ x.2
  u1 : x.2 ≤ 1000000
  t0 : -100000000000000 ≤ x.1
  t1 : x.1 ≤ 100000000000000
theorem lvw_ok {m : Mill} {cs : List Int} {t s : Int} (h : m.Ok) (hc : CW m cs) (hs : Side m s) : LvW (lv m cs t s) := by
  by_cases c : s = -1
  · subst c
    rw [lv_sea]
    have := seaAt_bd h (t := t)
    exact ⟨by show (1 : Int) ≤ 1; decide, by show (1 : Int) ≤ 1000000; decide, by show _ ≤ seaAt _ _ _; omega, by show seaAt _ _ _ ≤ _; omega⟩
  · have h0 : 0 ≤ s := by have := hs.lo; omega
    have hi : s.toNat < m.ponds.length := by have := hs.hi; omega
    rw [lv_pond h0]
    have p := pond_at h hi
    have h1 := p.area
    have h2 := p.lev
    have h3 := p.bd
    have h4 := mul_bd (a := (nthA m.ponds s.toNat).bottom) (b := (nthA m.ponds s.toNat).area) (A := 1000000) (B := 1000000) (by omega) (by omega) (by decide)
    have h5 := hc.bd s.toNat
    exact ⟨h1, h3.1, by show _ ≤ _ * _ + _; omega, by show _ * _ + _ ≤ _; omega⟩
def lvD (x : Int × Int) : D := .tuple [.int x.1, .int x.2]
theorem seaL_spec (Γ : Rf.Ctx) {m : Mill} (h : m.Ok) (t : Int) : run Γ .sh 5 bSeaL [m.d, .int t] = .ok (.int (seaAt m.base m.rings t)) := by
  refine run_eq ?_
  unfold bSeaL
  have s0 : idxD (seaD m.base m.rings) (.int 0) = .ok (.int m.base) := by simp [seaD]
  have s1 : idxD (seaD m.base m.rings) (.int 1) = .ok (.tuple (m.rings.map ringD)) := by simp [seaD]
  simp [-List.map_map, List.replicate, exec_for, mill_sea, s0, s1]
  obtain ⟨I, hI⟩ : ∃ I : Nat → Sl → Prop, ∀ j ρ, I j ρ ↔ (∃ (v : Int) (u3 u4 : Slot), ρ = [.sh m.d, .sh (.int t), .sh (.int v), u3, u4] ∧ v = m.base + ((m.rings.take j).map (rAt t)).sum) := ⟨_, fun _ _ => Iff.rfl⟩
  refine wp_forL I ((hI _ _).mpr ⟨_, _, _, rfl, by simp⟩) ?_ ?_
  · intro j d ρ hd hr
    obtain ⟨v, u3, u4, rfl, hv⟩ := (hI _ _).mp hr
    rw [List.getElem?_map] at hd
    cases q1 : m.rings[j]? with
    | none => rw [q1] at hd; cases hd
    | some r =>
      rw [q1] at hd
      cases hd
      refine ⟨_, rfl, ?_⟩
      have ht : m.rings.take (j + 1) = m.rings.take j ++ [r] := by rw [List.take_add_one, q1]; rfl
      have hl : 0 < r.2.length := List.length_pos_iff.mpr (ring_ne h r (List.mem_of_getElem? q1))
      have h1 := Int.emod_nonneg (t + r.1) (show (r.2.length : Int) ≠ 0 by omega)
      have h2 := Int.emod_lt_of_pos (t + r.1) (show (0 : Int) < r.2.length by omega)
      simp [-List.map_map, mod_ok (show (0 : Int) < r.2.length by omega), idx_intsT h1 h2]
      refine (hI _ _).mpr ⟨_, _, _, rfl, ?_⟩
      rw [ht, List.map_append, List.sum_append, hv]
      simp [rAt, Int.add_assoc]
  · intro ρ hr
    obtain ⟨v, u3, u4, rfl, hv⟩ := (hI _ _).mp hr
    rw [List.length_map, List.take_length] at hv
    simp [Kf_eq, hv, seaAt]
theorem stand_spec (Γ Γs : Rf.Ctx) (k0 : ∀ ds, callD Γ 0 ds = run Γs .sh 5 bSeaL (ds ++ [])) {m : Mill} {cs : List Int} {t s : Int} (h : m.Ok) (hc : CW m cs) (hs : Side m s) :
    run Γ .sh 5 bStand [m.d, .tuple (cs.map .int), .int s, .int t] = .ok (lvD (lv m cs t s)) := by
  refine run_eq ?_
  unfold bStand
  by_cases c : s = -1
  · subst c
    have e0 : callD Γ 0 [m.d, .int t] = _ := (k0 _).trans (seaL_spec Γs h t)
    simp [-List.map_map, List.replicate, e0, lv_sea, lvD]
  · have h0 : 0 ≤ s := by have := hs.lo; omega
    have hi : s.toNat < m.ponds.length := by have := hs.hi; omega
    have ix := idxAT (g := pondD) (l := m.ponds) (q := s) h0 hs.hi
    have iy := idx_intsT (l := cs) (q := s) h0 (by rw [hc.len]; exact hs.hi)
    have pk := pond_at h hi
    have h1 := pk.area
    have h3 := pk.bd
    rw [lv_pond h0]
    generalize nthA m.ponds s.toNat = p at *
    simp [-List.map_map, List.replicate, c, Kf_eq, mill_ponds, ix, iy, lvD]
    simp [-List.map_map, pondD, iy, mul_ok_l (n := p.area) (q := p.bottom) (by omega) (by omega), Int.mul_comm p.bottom p.area]
/-- the first height is no lower than the second -/
def geq (x y : Int × Int) : Prop := y.1 * x.2 ≤ x.1 * y.2
instance {x y : Int × Int} : Decidable (geq x y) := inferInstanceAs (Decidable (_ ≤ _))
theorem no_lower_spec (Γ : Rf.Ctx) {x y : Int × Int} (hx : LvW x) (hy : LvW y) : run Γ .sh 2 bAtLeast [lvD x, lvD y] = .ok (.bool (decide (geq x y))) := by
  have := hx.u0
  have := hx.u1
  have := hx.t0
  have := hx.t1
  have := hy.u0
  have := hy.u1
  have := hy.t0
  have := hy.t1
  exact at_least_spec Γ x.1 x.2 y.1 y.2 (smb_of (by omega) (by omega)) (smb_of (by omega) (by omega)) (smb_of (by omega) (by omega)) (smb_of (by omega) (by omega))
theorem sillW {x : Int} (h : -1000000 ≤ x ∧ x ≤ 1000000) : LvW (x, 1) := ⟨by show (1 : Int) ≤ 1; decide, by show (1 : Int) ≤ 1000000; decide, by show _ ≤ x; omega, by show x ≤ _; omega⟩
end Rf

/-! Rf: reflection. Part ZF: the sides of a gate, and what fits, as the law goes through it. -/
namespace Rf
open PySem L2
def sidesT (m : Mill) (cs : List Int) (t o k sill : Int) : Option (Int × Int) := if geq (lv m cs t k) (lv m cs t o) ∨ geq (sill, 1) (lv m cs t o) then none else some (o, k)
def sidesO (m : Mill) (cs : List Int) (t : Int) (g : MGate) : Option (Int × Int) := if geq (lv m cs t g.other) (lv m cs t g.one) then sidesT m cs t g.other g.one g.sill else sidesT m cs t g.one g.other g.sill
def sidesD : Option (Int × Int) → D
  | none => .none
  | some (a, b) => .tuple [.int a, .int b]
theorem sides_spec (Γ Γn Γt Γs : Rf.Ctx) (k0 : ∀ ds, callD Γ 0 ds = run Γn .sh 2 bAtLeast (ds ++ [])) (k1 : ∀ ds, callD Γ 1 ds = run Γt .sh 5 bStand (ds ++ [])) (kt : ∀ ds, callD Γt 0 ds = run Γs .sh 5 bSeaL (ds ++ []))
    {m : Mill} {cs : List Int} {t : Int} (h : m.Ok) (hc : COk m cs) {i : Nat} (hi : i < m.gates.length) :
    run Γ .sh 9 bSides [m.d, .tuple (cs.map .int), .int t, .int i] = .ok (sidesD (sidesO m cs t (nthA m.gates i))) := by
  refine run_eq ?_
  unfold bSides
  have gk := h.gates _ (nthA_mem hi)
  have ix := idxAT (g := gateD) (l := m.gates) (q := (i : Int)) (by omega) (by omega)
  rw [show ((i : Int)).toNat = i by omega] at ix
  generalize nthA m.gates i = gt at *
  have s1 : Side m gt.one := ⟨gk.one.1, gk.one.2⟩
  have s2 : Side m gt.other := ⟨gk.other.1, gk.other.2⟩
  have hw := COk.w h hc
  have sb := gk.bd
  have st : ∀ {s : Int}, Side m s → callD Γ 1 [m.d, .tuple (cs.map .int), .int s, .int t] = .ok (lvD (lv m cs t s)) := fun hs => (k1 _).trans (stand_spec Γt Γs kt h hw hs)
  have nl : ∀ {x y : Int × Int}, LvW x → LvW y → callD Γ 0 [lvD x, lvD y] = .ok (.bool (decide (geq x y))) := fun hx hy => (k0 _).trans (no_lower_spec Γn hx hy)
  have l1 := lvw_ok h hw s1 (t := t)
  have l2 := lvw_ok h hw s2 (t := t)
  have lsl := sillW (x := gt.sill) ⟨sb.2.1, sb.2.2⟩
  have hsl : slD false (gateD gt) none (some 3) = .ok (.tuple [.int gt.one, .int gt.other, .int gt.sill]) := by
    show slD false (.tuple [.int gt.one, .int gt.other, .int gt.sill, .int gt.rate]) none (some 3) = _
    rw [slD_t, show (3 : Int) = ((3 : Nat) : Int) from rfl, cut_take]; rfl
  have sd : ∀ x : Int, PyData.tuple [.int x, .int 1] = lvD (x, 1) := fun _ => rfl
  have tail : ∀ o k : Int, Side m o → Side m k → Kf Γ .sh (.seq (.asg 7 (.call false 1 (.cons (.var 0) (.cons (.var 1) (.cons (.var 4) (.cons (.var 2) .nil)))))) (.seq (.asg 8 (.call false 0 (.cons (.call false 1 (.cons (.var 0) (.cons (.var 1) (.cons (.var 5) (.cons (.var 2) .nil))))) (.cons (.var 7) .nil)))) (.seq (.ifs (.or (.var 8) (.call false 0 (.cons (.tup (.cons (.var 6) (.cons (.cst (.int 1)) .nil))) (.cons (.var 7) .nil)))) (.seq (.ret (.cst .none)) .nil) .nil) (.seq (.ret (.tup (.cons (.var 4) (.cons (.var 5) .nil)))) .nil))))
      No No No (fun z => z = sidesD (sidesT m cs t o k gt.sill)) [.sh m.d, .sh (.tuple (cs.map .int)), .sh (.int t), .sh (.int i), .sh (.int o), .sh (.int k), .sh (.int gt.sill), .un, .un] := fun o k ho hk => by
    have a := lvw_ok h hw ho (t := t)
    have b := lvw_ok h hw hk (t := t)
    unfold sidesT
    simp [-List.map_map, Kf_eq, st ho, st hk, nl b a]
    by_cases c1 : geq (lv m cs t k) (lv m cs t o)
    · simp [c1, sidesD]
    · simp [c1, sd, nl lsl a]
      by_cases c2 : geq (gt.sill, 1) (lv m cs t o)
      · simp [c2, sidesD]
      · simp [c2, sidesD, Kf_eq]
  simp [-List.map_map, List.replicate, mill_gates, ix, hsl, st s1, st s2, nl l2 l1]
  unfold sidesO
  by_cases c : geq (lv m cs t gt.other) (lv m cs t gt.one)
  · simp [-List.map_map, c]
    exact tail _ _ s2 s1
  · simp [-List.map_map, c]
    exact tail _ _ s1 s2
/-! ### what fits -/
def fitsP (m : Mill) (cs : List Int) (t g k sill rate B : Int) : Prop :=
  B ≤ rate ∧ geq (lv m (shL cs g k B) t g) (sill, 1) ∧ (0 ≤ g → 0 ≤ nth (shL cs g k B) g.toNat) ∧ (0 ≤ k → nth (shL cs g k B) k.toNat ≤ holdP (nthA m.ponds k.toNat)) ∧ geq (lv m (shL cs g k B) t g) (lv m (shL cs g k B) t k)
theorem shL_cw {m : Mill} {cs : List Int} (h : m.Ok) (hc : COk m cs) {g k B : Int} (hne : g ≠ k) (hB : -10000000 ≤ B ∧ B ≤ 10000000) : CW m (shL cs g k B) := by
  refine ⟨by rw [shL_len, hc.len], fun i => ?_⟩
  by_cases c : i < cs.length
  · rw [shL_at c]
    have := cs_bd h hc (i := i) (by rw [← hc.len]; exact c)
    split <;> split <;> omega
  · rw [nth_out (by rw [shL_len]; exact c)]; decide
theorem shL_g {m : Mill} {cs : List Int} (hl : cs.length = m.ponds.length) {g k B : Int} (hg : Side m g) (h0 : 0 ≤ g) (hne : g ≠ k) : nth (shL cs g k B) g.toNat = nth cs g.toNat - B := by
  have := hg.hi
  rw [shL_at (by omega), if_neg (by omega), if_pos (by omega)]; omega
theorem shL_k {m : Mill} {cs : List Int} (hl : cs.length = m.ponds.length) {g k B : Int} (hk : Side m k) (h0 : 0 ≤ k) (hne : g ≠ k) : nth (shL cs g k B) k.toNat = nth cs k.toNat + B := by
  have := hk.hi
  rw [shL_at (by omega), if_pos (by omega), if_neg (by omega)]; omega
theorem fits_spec (Γ Γb Γn Γt Γs Γr : Rf.Ctx) (k0 : ∀ ds, callD Γ 0 ds = run Γb .sh 5 bShifted (ds ++ [])) (k1 : ∀ ds, callD Γ 1 ds = run Γt .sh 5 bStand (ds ++ [])) (kt : ∀ ds, callD Γt 0 ds = run Γs .sh 5 bSeaL (ds ++ []))
    (k2 : ∀ ds, callD Γ 2 ds = run Γn .sh 2 bAtLeast (ds ++ [])) (k3 : ∀ ds, callD Γ 3 ds = run Γr .sh 1 bHolds (ds ++ []))
    {m : Mill} {cs : List Int} {t : Int} (h : m.Ok) (hc : COk m cs) {i : Nat} (hi : i < m.gates.length) {g k B : Int} (hg : Side m g) (hk : Side m k) (hne : g ≠ k) (hB : -10000000 ≤ B ∧ B ≤ 10000000) (z : Bool)
    (hz : z = true ↔ fitsP m cs t g k (nthA m.gates i).sill (nthA m.gates i).rate B) :
    run Γ .sh 10 bFits [m.d, .tuple (cs.map .int), .int t, .int i, .tuple [.int g, .int k], .int B] = .ok (.bool z) := by
  refine run_eq ?_
  unfold bFits
  have gk := h.gates _ (nthA_mem hi)
  have ix := idxAT (g := gateD) (l := m.gates) (q := (i : Int)) (by omega) (by omega)
  rw [show ((i : Int)).toNat = i by omega] at ix
  generalize nthA m.gates i = gt at *
  have hw := shL_cw h hc hne hB
  have sb := gk.bd
  have e0 : callD Γ 0 [.tuple (cs.map .int), .int g, .int k, .int B] = _ := (k0 _).trans (shifted_spec Γb cs g k B ⟨hg.lo, by rw [hc.len]; exact hg.hi⟩ ⟨hk.lo, by rw [hc.len]; exact hk.hi⟩ hne)
  have st : ∀ {s : Int}, Side m s → callD Γ 1 [m.d, .tuple ((shL cs g k B).map .int), .int s, .int t] = .ok (lvD (lv m (shL cs g k B) t s)) := fun hs => (k1 _).trans (stand_spec Γt Γs kt h hw hs)
  have nl : ∀ {x y : Int × Int}, LvW x → LvW y → callD Γ 2 [lvD x, lvD y] = .ok (.bool (decide (geq x y))) := fun hx hy => (k2 _).trans (no_lower_spec Γn hx hy)
  have l1 := lvw_ok h hw hg (t := t)
  have l2 := lvw_ok h hw hk (t := t)
  have lsl := sillW (x := gt.sill) ⟨sb.2.1, sb.2.2⟩
  have sd : ∀ x : Int, PyData.tuple [.int x, .int 1] = lvD (x, 1) := fun _ => rfl
  have g3 : idxD (gateD gt) (.int 3) = .ok (.int gt.rate) := by simp [gateD]
  have g2 : idxD (gateD gt) (.int 2) = .ok (.int gt.sill) := by simp [gateD]
  have ixk := fun h0 => idxAT (g := pondD) (l := m.ponds) (q := k) h0 hk.hi
  have iyk := fun h0 => idx_intsT (l := shL cs g k B) (q := k) h0 (by rw [hw.len]; exact hk.hi)
  have iyg := fun h0 => idx_intsT (l := shL cs g k B) (q := g) h0 (by rw [hw.len]; exact hg.hi)
  have e3 : 0 ≤ k → callD Γ 3 [pondD (nthA m.ponds k.toNat)] = .ok (.int (holdP (nthA m.ponds k.toNat))) := fun h0 => (k3 _).trans (holds_spec Γr (pond_at h (by have := hk.hi; omega)))
  have no : ∀ {p : Prop}, (z = true ↔ p) → ¬ p → z = false := fun h1 h2 => by
    cases z with
    | true => exact absurd (h1.mp rfl) h2
    | false => rfl
  unfold fitsP at hz
  generalize shL cs g k B = cs' at *
  simp [-List.map_map, List.replicate, e0, st hg, mill_gates, ix, g3, g2]
  by_cases c1 : B ≤ gt.rate
  · simp [-List.map_map, show ¬ gt.rate < B by omega, sd, nl l1 lsl]
    by_cases c2 : geq (lv m cs' t g) (gt.sill, 1)
    · have fin : (0 ≤ g → 0 ≤ nth cs' g.toNat) → (0 ≤ k → nth cs' k.toNat ≤ holdP (nthA m.ponds k.toNat)) → Wp (exec Γ .sh (.seq (.ret (.call false 2 (.cons (.var 9) (.cons (.call false 1 (.cons (.var 0) (.cons (.var 8) (.cons (.var 7) (.cons (.var 2) .nil))))) .nil)))) .nil) [.sh m.d, .sh (.tuple (cs.map .int)), .sh (.int t), .sh (.int i), .sh (.tuple [.int g, .int k]), .sh (.int B), .sh (.int g), .sh (.int k), .sh (.tuple (cs'.map .int)), .sh (lvD (lv m cs' t g))]) No No No (fun y => y = .bool z) := fun h3 h4 => by
        simp [-List.map_map, st hk, nl l1 l2]
        by_cases c5 : geq (lv m cs' t g) (lv m cs' t k)
        · rw [hz.mpr ⟨c1, c2, h3, h4, c5⟩]; simp [c5]
        · rw [no hz fun q => c5 q.2.2.2.2]; simp [c5]
      simp [-List.map_map, c2, Kf_eq]
      have right : (0 ≤ g → 0 ≤ nth cs' g.toNat) → (0 ≤ k → nth cs' k.toNat ≤ holdP (nthA m.ponds k.toNat)) ∨ True := fun _ => .inr trivial
      by_cases c3 : 0 ≤ g
      · by_cases c4 : nth cs' g.toNat < 0
        · rw [no hz fun q => by have := q.2.2.1 c3; omega]
          simp [-List.map_map, c3, iyg c3, c4]
        · by_cases c5 : 0 ≤ k
          · by_cases c6 : holdP (nthA m.ponds k.toNat) < nth cs' k.toNat
            · rw [no hz fun q => by have := q.2.2.2.1 c5; omega]
              simp [-List.map_map, c3, iyg c3, c4, c5, iyk c5, mill_ponds, ixk c5, e3 c5, c6]
            · have := fin (fun _ => by omega) (fun _ => by omega)
              simp [-List.map_map, c3, iyg c3, c4, c5, iyk c5, mill_ponds, ixk c5, e3 c5, c6, Kf_eq] at this ⊢
              exact this
          · have := fin (fun _ => by omega) (fun q => absurd q c5)
            simp [-List.map_map, c3, iyg c3, c4, c5, Kf_eq] at this ⊢
            exact this
      · by_cases c5 : 0 ≤ k
        · by_cases c6 : holdP (nthA m.ponds k.toNat) < nth cs' k.toNat
          · rw [no hz fun q => by have := q.2.2.2.1 c5; omega]
            simp [-List.map_map, c3, c5, iyk c5, mill_ponds, ixk c5, e3 c5, c6]
          · have := fin (fun q => absurd q c3) (fun _ => by omega)
            simp [-List.map_map, c3, c5, iyk c5, mill_ponds, ixk c5, e3 c5, c6, Kf_eq] at this ⊢
            exact this
        · have := fin (fun q => absurd q c3) (fun q => absurd q c5)
          simp [-List.map_map, c3, c5, Kf_eq] at this ⊢
          exact this
    · rw [no hz fun q => c2 q.2.1]
      simp [-List.map_map, c2]
  · rw [no hz fun q => c1 q.1]
    simp [-List.map_map, show gt.rate < B by omega]
end Rf

/-! Rf: reflection. Part ZG: what passes is the most that fits. -/
namespace Rf
open PySem L2
section
variable {m : Mill} {cs : List Int} {t g k sill rate B : Int}
theorem lv_shg (hl : cs.length = m.ponds.length) (hg : Side m g) (h0 : 0 ≤ g) (hne : g ≠ k) : lv m (shL cs g k B) t g = ((lv m cs t g).1 - B, (lv m cs t g).2) := by
  rw [lv_pond h0, lv_pond h0, shL_g hl hg h0 hne, Int.add_sub_assoc]
theorem lv_shk (hl : cs.length = m.ponds.length) (hk : Side m k) (h0 : 0 ≤ k) (hne : g ≠ k) : lv m (shL cs g k B) t k = ((lv m cs t k).1 + B, (lv m cs t k).2) := by
  rw [lv_pond h0, lv_pond h0, shL_k hl hk h0 hne, Int.add_assoc]
theorem fits_iff (h : m.Ok) (hc : COk m cs) (hg : Side m g) (hk : Side m k) (hne : g ≠ k) (hs : ¬ geq (sill, 1) (lv m cs t g)) :
    fitsP m cs t g k sill rate B ↔ B ≤ passB m cs t g k sill rate := by
  have hl := hc.len
  have gl := hg.lo
  have kl := hk.lo
  have gh := hg.hi
  have kh := hk.hi
  have hs : ¬ ((lv m cs t g).1 * 1 ≤ sill * (lv m cs t g).2) := hs
  unfold fitsP passB capK capG untilEven
  by_cases c1 : g = -1
  · have k0 : 0 ≤ k := by omega
    subst c1
    rw [if_neg (show ¬ (0 : Int) ≤ -1 by decide), if_pos rfl, if_pos k0, lv_sea, lv_shk hl hk k0 hne, lv_pond k0, shL_k hl hk k0 hne]
    rw [lv_sea] at hs
    have hs : ¬ (seaAt m.base m.rings t * 1 ≤ sill * 1) := hs
    generalize nthA m.ponds k.toNat = p at *
    generalize nth cs k.toNat = c at *
    generalize seaAt m.base m.rings t = S at *
    have e1 : geq (S, 1) (sill, 1) ↔ sill * 1 ≤ S * 1 := Iff.rfl
    have e2 : geq (S, 1) (p.bottom * p.area + c + B, p.area) ↔ (p.bottom * p.area + c + B) * 1 ≤ S * p.area := Iff.rfl
    rw [e1, e2]
    unfold takBelow
    rw [Int.sub_mul]
    generalize S * p.area = X
    generalize p.bottom * p.area = Y
    generalize holdP p = Z
    constructor
    · rintro ⟨h1, _, _, h4, h5⟩
      have := h4 k0
      omega
    · intro q
      exact ⟨by omega, by omega, fun q => absurd q (by decide), fun _ => by omega, by omega⟩
  · have g0 : 0 ≤ g := by omega
    rw [if_neg c1, if_pos g0, lv_shg hl hg g0 hne, shL_g hl hg g0 hne]
    by_cases c2 : k = -1
    · subst c2
      rw [if_neg (show ¬ (0 : Int) ≤ -1 by decide), if_pos rfl, lv_sea, lv_pond g0]
      rw [lv_pond g0] at hs
      generalize nthA m.ponds g.toNat = p at *
      generalize nth cs g.toNat = c at *
      generalize seaAt m.base m.rings t = S at *
      have e1 : geq (p.bottom * p.area + c - B, p.area) (sill, 1) ↔ sill * p.area ≤ (p.bottom * p.area + c - B) * 1 := Iff.rfl
      have e2 : geq (p.bottom * p.area + c - B, p.area) (S, 1) ↔ S * p.area ≤ (p.bottom * p.area + c - B) * 1 := Iff.rfl
      rw [e1, e2]
      unfold givAbove
      rw [Int.sub_mul S, Int.sub_mul sill]
      generalize S * p.area = X
      generalize p.bottom * p.area = Y
      generalize sill * p.area = V
      constructor
      · rintro ⟨h1, h2, h3, _, h5⟩
        have := h3 g0
        omega
      · intro q
        exact ⟨by omega, by omega, fun _ => by omega, fun q => absurd q (by decide), by omega⟩
    · have k0 : 0 ≤ k := by omega
      rw [if_neg c2, if_pos k0, lv_shk hl hk k0 hne, shL_k hl hk k0 hne]
      have G := lv_ok h hc hg (t := t)
      have K := lv_ok h hc hk (t := t)
      have eg : ∀ x : Int, (lv m cs t g).1 = (nthA m.ponds g.toNat).bottom * (lv m cs t g).2 + nth cs g.toNat := fun _ => by rw [lv_pond g0]
      have eg2 : (lv m cs t g).2 = (nthA m.ponds g.toNat).area := by rw [lv_pond g0]
      have eg := eg 0
      generalize lv m cs t g = X at *
      generalize lv m cs t k = Y at *
      have e1 : geq (X.1 - B, X.2) (sill, 1) ↔ sill * X.2 ≤ (X.1 - B) * 1 := Iff.rfl
      have e2 : geq (X.1 - B, X.2) (Y.1 + B, Y.2) ↔ (Y.1 + B) * X.2 ≤ (X.1 - B) * Y.2 := Iff.rfl
      rw [e1, e2, Int.add_mul Y.1 B X.2, Int.sub_mul X.1 B Y.2]
      unfold givAbove
      rw [← eg2]
      generalize nthA m.ponds g.toNat = p at *
      generalize holdP (nthA m.ponds k.toNat) = Z
      generalize nth cs g.toNat = c at *
      generalize nth cs k.toNat = c' at *
      rw [Int.sub_mul sill]
      have G0 := G.u0
      have K0 := K.u0
      have e3 : B ≤ (X.1 * Y.2 - Y.1 * X.2) / (X.2 + Y.2) ↔ B * (X.2 + Y.2) ≤ X.1 * Y.2 - Y.1 * X.2 := Int.le_ediv_iff_mul_le (by omega)
      rw [Int.mul_add] at e3
      generalize (X.1 * Y.2 - Y.1 * X.2) / (X.2 + Y.2) = W at *
      generalize X.1 * Y.2 = P1 at *
      generalize Y.1 * X.2 = P2 at *
      generalize B * X.2 = P3 at *
      generalize B * Y.2 = P4 at *
      generalize sill * X.2 = P5 at *
      generalize p.bottom * X.2 = P6 at *
      constructor
      · rintro ⟨h1, h2, h3, h4, h5⟩
        have := h3 g0
        have := h4 k0
        have := e3.mpr (by omega)
        omega
      · intro q
        have := e3.mp (by omega)
        exact ⟨by omega, by omega, fun _ => by omega, fun _ => by omega, by omega⟩
theorem worth_ge {a b t u c e : Int} (hb : 0 < b) (hu : 0 < u) (h : a * u = t * b) : a * e ≤ c * b ↔ t * e ≤ c * u := by
  have h1 := worth_le (a := -a) (b := b) (t := -t) (u := u) (c := -c) (e := e) hb hu (by rw [Int.neg_mul, Int.neg_mul, h])
  rw [Int.neg_mul, Int.neg_mul, Int.neg_mul, Int.neg_mul] at h1
  omega
theorem top_iff (h : m.Ok) (hc : COk m cs) (hg : Side m g) : (fl m cs t g).1 * 1 ≤ sill * (fl m cs t g).2 ↔ geq (sill, 1) (lv m cs t g) :=
  worth_ge (by have := (fl_ok h hc hg (t := t)).u0; omega) (by have := (lv_ok h hc hg (t := t)).u0; omega) (fl_eq h hc hg)
theorem fo_neg {a b : Int} (h : m.Ok) (hc : COk m cs) (ha : Side m a) (hb : Side m b) : (fo m cs t a b).1 < 0 ↔ (lv m cs t a).1 * (lv m cs t b).2 < (lv m cs t b).1 * (lv m cs t a).2 := by
  obtain ⟨f1, _, _, _, f2, _⟩ := fo_ok h hc ha hb (t := t)
  have := worth_neg (by omega) (Int.mul_pos (by have := (lv_ok h hc ha (t := t)).u0; omega) (by have := (lv_ok h hc hb (t := t)).u0; omega)) f2
  omega
theorem even_none (h : m.Ok) (hc : COk m cs) (hg : Side m g) (hk : Side m k) (hne : g ≠ k) (he : (lv m cs t g).1 * (lv m cs t k).2 = (lv m cs t k).1 * (lv m cs t g).2) : untilEven m cs t g k ≤ 0 := by
  have gl := hg.lo
  have kl := hk.lo
  unfold untilEven
  by_cases c1 : g = -1
  · have k0 : 0 ≤ k := by omega
    subst c1
    rw [if_pos rfl]
    rw [lv_sea, lv_pond k0] at he
    generalize nthA m.ponds k.toNat = p at *
    have he : seaAt m.base m.rings t * p.area = (p.bottom * p.area + nth cs k.toNat) * 1 := he
    unfold takBelow
    rw [Int.sub_mul]
    omega
  · rw [if_neg c1]
    have g0 : 0 ≤ g := by omega
    by_cases c2 : k = -1
    · subst c2
      rw [if_pos rfl]
      rw [lv_sea, lv_pond g0] at he
      generalize nthA m.ponds g.toNat = p at *
      have he : (p.bottom * p.area + nth cs g.toNat) * 1 = seaAt m.base m.rings t * p.area := he
      unfold givAbove
      rw [Int.sub_mul]
      omega
    · rw [if_neg c2, he, Int.sub_self, Int.zero_ediv]
      exact Int.le_refl 0
theorem capG_le : capG m cs g sill B ≤ B := by unfold capG; split <;> omega
theorem capK_le : capK m cs k B ≤ B := by unfold capK; split <;> omega
theorem passB_le : passB m cs t g k sill rate ≤ rate ∧ passB m cs t g k sill rate ≤ untilEven m cs t g k := by
  have h1 := capK_le (m := m) (cs := cs) (k := k) (B := capG m cs g sill (min rate (untilEven m cs t g k)))
  have h2 := capG_le (m := m) (cs := cs) (g := g) (sill := sill) (B := min rate (untilEven m cs t g k))
  unfold passB
  omega
/-- what passes, by the sides as the law finds them -/
theorem pass_sides {gt : MGate} (h : m.Ok) (hc : COk m cs) (gk : GateOk m.ponds.length gt) :
    match sidesO m cs t gt with
    | none => passO m cs t gt = none
    | some (g, k) => passO m cs t gt = (if passB m cs t g k gt.sill gt.rate ≤ 0 then none else some (g, k, passB m cs t g k gt.sill gt.rate)) ∧ Side m g ∧ Side m k ∧ g ≠ k ∧ ¬ geq (gt.sill, 1) (lv m cs t g) ∧ ¬ geq (lv m cs t k) (lv m cs t g) := by
  have s1 : Side m gt.one := ⟨gk.one.1, gk.one.2⟩
  have s2 : Side m gt.other := ⟨gk.other.1, gk.other.2⟩
  have fn := fo_neg h hc s1 s2 (t := t)
  have g1 : geq (lv m cs t gt.other) (lv m cs t gt.one) ↔ (lv m cs t gt.one).1 * (lv m cs t gt.other).2 ≤ (lv m cs t gt.other).1 * (lv m cs t gt.one).2 := Iff.rfl
  have g2 : geq (lv m cs t gt.one) (lv m cs t gt.other) ↔ (lv m cs t gt.other).1 * (lv m cs t gt.one).2 ≤ (lv m cs t gt.one).1 * (lv m cs t gt.other).2 := Iff.rfl
  have t1 := top_iff h hc s1 (t := t) (sill := gt.sill)
  have t2 := top_iff h hc s2 (t := t) (sill := gt.sill)
  unfold sidesO passO
  rcases Int.lt_trichotomy ((lv m cs t gt.one).1 * (lv m cs t gt.other).2) ((lv m cs t gt.other).1 * (lv m cs t gt.one).2) with q | q | q
  · rw [if_pos (g1.mpr (by omega)), if_pos (fn.mpr q)]
    have n2 : ¬ geq (lv m cs t gt.one) (lv m cs t gt.other) := fun z => by have := g2.mp z; omega
    unfold sidesT passT
    by_cases c : geq (gt.sill, 1) (lv m cs t gt.other)
    · rw [if_pos (.inr c)]
      simp only
      rw [if_pos (t2.mpr c)]
    · rw [if_neg (by rintro (z | z); exact n2 z; exact c z)]
      simp only
      rw [if_neg (fun z => c (t2.mp z))]
      exact ⟨rfl, s2, s1, Ne.symm gk.ne, c, n2⟩
  · rw [if_pos (g1.mpr (by omega)), if_neg (fun z => by have := fn.mp z; omega)]
    unfold sidesT passT
    rw [if_pos (.inl (g2.mpr (by omega)))]
    simp only
    have u := even_none h hc s1 s2 gk.ne q
    have b := passB_le (m := m) (cs := cs) (t := t) (g := gt.one) (k := gt.other) (sill := gt.sill) (rate := gt.rate)
    split
    · rfl
    · rw [if_pos (by omega)]
  · have n1 : ¬ geq (lv m cs t gt.other) (lv m cs t gt.one) := fun z => by have := g1.mp z; omega
    rw [if_neg n1, if_neg (fun z => by have := fn.mp z; omega)]
    unfold sidesT passT
    by_cases c : geq (gt.sill, 1) (lv m cs t gt.one)
    · rw [if_pos (.inr c)]
      simp only
      rw [if_pos (t1.mpr c)]
    · rw [if_neg (by rintro (z | z); exact n1 z; exact c z)]
      simp only
      rw [if_neg (fun z => c (t1.mp z))]
      exact ⟨rfl, s1, s2, gk.ne, c, n1⟩
end
end Rf

/-! Rf: reflection. Part ZH: whether a wheel can turn, as the law goes through it. -/
namespace Rf
open PySem L2
def bCan : S :=
  (.seq (.unp [4, 5, 6, 7] (.sl false (.idx (.idx (.var 0) (.cst (.int 3))) (.var 3)) .non (.cst (.int 4)))) (.seq (.asg 8 (.call false 0 (.cons (.var 0) (.cons (.var 1) (.cons (.var 4) (.cons (.var 2) .nil)))))) (.seq (.asg 9 (.call false 0 (.cons (.var 0) (.cons (.var 1) (.cons (.var 5) (.cons (.var 2) .nil)))))) (.seq (.ifs (.or (.cmp .Lt (.idx (.var 1) (.var 4)) (.var 7)) (.not (.call false 1 (.cons (.var 8) (.cons (.tup (.cons (.bin .Add (.idx (.var 9) (.cst (.int 0))) (.bin .Mult (.var 6) (.idx (.var 9) (.cst (.int 1))))) (.cons (.idx (.var 9) (.cst (.int 1))) .nil))) .nil))))) (.seq (.ret (.cst (.bool false))) .nil) .nil) (.seq (.ret (.or (.cmp .Eq (.var 5) (.neg (.cst (.int 1)))) (.cmp .LtE (.bin .Add (.idx (.var 1) (.var 5)) (.var 7)) (.call false 2 (.cons (.idx (.idx (.var 0) (.cst (.int 1))) (.var 5)) .nil))))) .nil)))))

theorem can_iff {m : Mill} {cs : List Int} {t fall : Int} {a b : Int} (h : m.Ok) (hc : COk m cs) (ha : Side m a) (hb : Side m b) :
    fall * (fo m cs t a b).2 ≤ (fo m cs t a b).1 ↔ geq (lv m cs t a) ((lv m cs t b).1 + fall * (lv m cs t b).2, (lv m cs t b).2) := by
  obtain ⟨f1, _, _, _, f2, _⟩ := fo_ok h hc ha hb (t := t)
  have w := worth_le (c := fall) (e := 1) (by omega) (Int.mul_pos (by have := (lv_ok h hc ha (t := t)).u0; omega) (by have := (lv_ok h hc hb (t := t)).u0; omega)) f2
  rw [Int.mul_one, Int.mul_one] at w
  rw [w]
  show _ ↔ ((lv m cs t b).1 + fall * (lv m cs t b).2) * (lv m cs t a).2 ≤ (lv m cs t a).1 * (lv m cs t b).2
  rw [Int.add_mul, Int.mul_comm (lv m cs t a).2, Int.mul_assoc fall]
  omega
theorem can_spec (Γ Γt Γs Γn Γr : Rf.Ctx) (k0 : ∀ ds, callD Γ 0 ds = run Γt .sh 5 bStand (ds ++ [])) (kt : ∀ ds, callD Γt 0 ds = run Γs .sh 5 bSeaL (ds ++ [])) (k1 : ∀ ds, callD Γ 1 ds = run Γn .sh 2 bAtLeast (ds ++ []))
    (k2 : ∀ ds, callD Γ 2 ds = run Γr .sh 1 bHolds (ds ++ [])) {m : Mill} {cs : List Int} {t : Int} (h : m.Ok) (hc : COk m cs) {w : MWheel} {i : D} (wk : WheelOk m.ponds.length w) (ix : idxD (.tuple (m.wheels.map wheelD)) i = .ok (wheelD w)) :
    run Γ .sh 10 bCan [m.d, .tuple (cs.map .int), .int t, i] = .ok (.bool (canO m cs t w)) := by
  refine run_eq ?_
  unfold bCan
  have s1 : Side m w.pond := ⟨by have := wk.pond; omega, wk.pond.2⟩
  have s2 : Side m w.tail := ⟨wk.tail.1, wk.tail.2⟩
  have hw := COk.w h hc
  have st : ∀ {s : Int}, Side m s → callD Γ 0 [m.d, .tuple (cs.map .int), .int s, .int t] = .ok (lvD (lv m cs t s)) := fun hs => (k0 _).trans (stand_spec Γt Γs kt h hw hs)
  have A := lvw_ok h hw s1 (t := t)
  have B := lv_ok h hc s2 (t := t)
  have wf := wk.fall
  have wb := wk.bd
  have q := mul_bd (a := w.fall) (b := (lv m cs t w.tail).2) (A := 1000000) (B := 1000000) (by omega) ⟨by have := B.u0; omega, B.u1⟩ (by decide)
  have C : LvW ((lv m cs t w.tail).1 + w.fall * (lv m cs t w.tail).2, (lv m cs t w.tail).2) := ⟨B.u0, B.u1, by have := B.t0; show _ ≤ _ + _; omega, by have := B.t1; show _ + _ ≤ _; omega⟩
  have nl : callD Γ 1 [lvD (lv m cs t w.pond), lvD ((lv m cs t w.tail).1 + w.fall * (lv m cs t w.tail).2, (lv m cs t w.tail).2)] = _ := (k1 _).trans (no_lower_spec Γn A C)
  have ci := can_iff h hc s1 s2 (t := t) (fall := w.fall)
  have iy := idx_intsT (l := cs) (q := w.pond) wk.pond.1 (by rw [hc.len]; exact wk.pond.2)
  have hsl : slD false (wheelD w) none (some 4) = .ok (.tuple [.int w.pond, .int w.tail, .int w.fall, .int w.drink]) := by
    show slD false (.tuple [.int w.pond, .int w.tail, .int w.fall, .int w.drink, .int w.grind]) none (some 4) = _
    rw [slD_t, show (4 : Int) = ((4 : Nat) : Int) from rfl, cut_take]; rfl
  have l0 : ∀ x : Int × Int, idxD (lvD x) (.int 0) = .ok (.int x.1) := fun x => by simp [lvD]
  have l1 : ∀ x : Int × Int, idxD (lvD x) (.int 1) = .ok (.int x.2) := fun x => by simp [lvD]
  have ld : ∀ x y : Int, PyData.tuple [.int x, .int y] = lvD (x, y) := fun _ _ => rfl
  unfold canO
  rw [← decide_eq_decide.mpr ci] at nl
  generalize decide (w.fall * (fo m cs t w.pond w.tail).2 ≤ (fo m cs t w.pond w.tail).1) = z at nl ⊢
  have B0 := B.u0
  have B1 := B.u1
  have nl : callD Γ 1 [lvD (lv m cs t w.pond), .tuple [.int ((lv m cs t w.tail).1 + w.fall * (lv m cs t w.tail).2), .int (lv m cs t w.tail).2]] = _ := nl
  have st1 := st s1
  have st2 := st s2
  generalize lv m cs t w.tail = Y at *
  generalize lv m cs t w.pond = X at *
  simp [-List.map_map, List.replicate, mill_wheels, ix, hsl, st1, st2, iy]
  by_cases c2 : nth cs w.pond.toNat < w.drink
  · simp [-List.map_map, c2, show ¬ w.drink ≤ nth cs w.pond.toNat by omega]
  · simp [-List.map_map, c2, show w.drink ≤ nth cs w.pond.toNat by omega, l0, l1, mul_ok_l (n := w.fall) (q := Y.2) (by omega) (by omega), nl]
    cases z with
    | false => simp [-List.map_map]
    | true =>
      by_cases c3 : w.tail = -1
      · simp [-List.map_map, c3, Kf_eq]
      · have h0 : 0 ≤ w.tail := by have := wk.tail; omega
        have ik := idx_intsT (l := cs) (q := w.tail) h0 (by rw [hc.len]; exact wk.tail.2)
        have il := idxAT (g := pondD) (l := m.ponds) (q := w.tail) h0 wk.tail.2
        have wt := wk.tail
        have e2 : callD Γ 2 [pondD (nthA m.ponds w.tail.toNat)] = _ := (k2 _).trans (holds_spec Γr (pond_at h (by omega)))
        simp [-List.map_map, c3, Kf_eq, ik, il, mill_ponds, e2]
end Rf

/-! Rf: reflection. Part ZI: what passes, as the law finds it by halving. -/
namespace Rf
open PySem L2
def bPassL : S :=
  (.seq (.asg 4 (.call false 0 (.cons (.var 0) (.cons (.var 1) (.cons (.var 2) (.cons (.var 3) .nil)))))) (.seq (.ifs (.cmp .Is (.var 4) (.cst .none)) (.seq (.ret (.cst .none)) .nil) .nil) (.seq (.asg 5 (.cst (.int 0))) (.seq (.asg 6 (.bin .Add (.idx (.idx (.idx (.var 0) (.cst (.int 2))) (.var 3)) (.cst (.int 3))) (.cst (.int 1)))) (.seq (.whl (.cmp .Gt (.bin .Sub (.var 6) (.var 5)) (.cst (.int 1))) (.seq (.asg 7 (.bin .FloorDiv (.bin .Add (.var 5) (.var 6)) (.cst (.int 2)))) (.seq (.ifs (.call false 1 (.cons (.var 0) (.cons (.var 1) (.cons (.var 2) (.cons (.var 3) (.cons (.var 4) (.cons (.var 7) .nil))))))) (.seq (.asg 5 (.var 7)) .nil) (.seq (.asg 6 (.var 7)) .nil)) .nil))) (.seq (.ifs (.cmp .Eq (.var 5) (.cst (.int 0))) (.seq (.ret (.cst .none)) .nil) .nil) (.seq (.ret (.bin .Add (.var 4) (.tup (.cons (.var 5) .nil)))) .nil)))))))

theorem passL_spec (Γ : Rf.Ctx) {m : Mill} {cs : List Int} {t : Int} (h : m.Ok) (hc : COk m cs) {i : Nat} (hi : i < m.gates.length)
    (e0 : callD Γ 0 [m.d, .tuple (cs.map .int), .int t, .int i] = .ok (sidesD (sidesO m cs t (nthA m.gates i))))
    (e1 : ∀ g k, Side m g → Side m k → g ≠ k → ¬ geq ((nthA m.gates i).sill, 1) (lv m cs t g) → ∀ B, -10000000 ≤ B → B ≤ 10000000 → callD Γ 1 [m.d, .tuple (cs.map .int), .int t, .int i, .tuple [.int g, .int k], .int B] = .ok (.bool (decide (B ≤ passB m cs t g k (nthA m.gates i).sill (nthA m.gates i).rate)))) :
    run Γ .sh 8 bPassL [m.d, .tuple (cs.map .int), .int t, .int i] = .ok (passD (passO m cs t (nthA m.gates i))) := by
  refine run_eq ?_
  unfold bPassL
  have gk := h.gates _ (nthA_mem hi)
  have ix := idxAT (g := gateD) (l := m.gates) (q := (i : Int)) (by omega) (by omega)
  rw [show ((i : Int)).toNat = i by omega] at ix
  have ps := pass_sides h hc gk (t := t)
  generalize nthA m.gates i = gt at *
  have i3 : idxD (gateD gt) (.int 3) = .ok (.int gt.rate) := by simp [gateD]
  have rb := gk.bd
  have r0 := gk.rate
  simp [-List.map_map, List.replicate, e0]
  cases q : sidesO m cs t gt with
  | none =>
    rw [q] at ps
    simp only at ps
    rw [ps]
    simp [sidesD, passD, cmp_isN]
  | some gk2 =>
    obtain ⟨g, k⟩ := gk2
    rw [q] at ps
    obtain ⟨ps, hg, hk, hne, hs, _⟩ := ps
    have fit := e1 g k hg hk hne hs
    have pb := (passB_le (m := m) (cs := cs) (t := t) (g := g) (k := k) (sill := gt.sill) (rate := gt.rate)).1
    rw [ps]
    generalize passB m cs t g k gt.sill gt.rate = b at *
    simp [-List.map_map, sidesD, cmp_isN, Kf_eq, mill_gates, ix, i3, exec_whl]
    obtain ⟨I, hI⟩ : ∃ I : Nat → Sl → Prop, ∀ n ρ, I n ρ ↔ (∃ (l u : Int) (u7 : Slot), ρ = [.sh m.d, .sh (.tuple (cs.map .int)), .sh (.int t), .sh (.int i), .sh (.tuple [.int g, .int k]), .sh (.int l), .sh (.int u), u7] ∧ 0 ≤ l ∧ l < u ∧ u ≤ gt.rate + 1 ∧ (l = 0 ∨ l ≤ b) ∧ b < u ∧ n = (u - l).toNat) := ⟨_, fun _ _ => Iff.rfl⟩
    refine wp_whl I (gt.rate + 1 - 0).toNat (by unfold fuel; omega) ((hI _ _).mpr ⟨0, _, _, rfl, by omega, by omega, by omega, .inl rfl, by omega, rfl⟩) ?_
    intro n ρ hr
    obtain ⟨l, u, u7, rfl, l0, lu, ur, lb, bu, hn⟩ := (hI _ _).mp hr
    by_cases c : 1 < u - l
    · refine ⟨true, by simp [c], ?_⟩
      have f := fit ((l + u) / 2) (by omega) (by omega)
      simp (disch := omega) [-List.map_map, fdiv_ok, f]
      by_cases c2 : (l + u) / 2 ≤ b
      · simp [-List.map_map, c2]
        exact ⟨_, by omega, (hI _ _).mpr ⟨(l + u) / 2, u, _, rfl, by omega, by omega, by omega, by omega, by omega, rfl⟩⟩
      · simp [-List.map_map, c2]
        exact ⟨_, by omega, (hI _ _).mpr ⟨l, (l + u) / 2, _, rfl, by omega, by omega, by omega, by omega, by omega, rfl⟩⟩
    · refine ⟨false, by simp [c], ?_⟩
      simp [-List.map_map, Kf_eq]
      by_cases c3 : l = 0
      · rw [if_pos (show b ≤ 0 by omega)]
        simp [-List.map_map, c3, passD]
      · have : l = b := by omega
        subst this
        rw [if_neg (show ¬ l ≤ 0 by omega)]
        simp [-List.map_map, c3, passD, Kf_eq, add_tup]
theorem seed_cell {a : Int} {l : List Int} {j : Nat} {d : D} (h : ([PyData.int a] ++ l.map .int)[j]? = some d) : ∃ c : Int, d = .int c := by
  rcases List.mem_append.mp (List.mem_of_getElem? h) with q | q
  · exact ⟨_, List.mem_singleton.mp q⟩
  · obtain ⟨c, _, rfl⟩ := List.mem_map.mp q
    exact ⟨c, rfl⟩
def dropS : Nat → S → S
  | 0, s => s
  | n + 1, .seq _ r => dropS n r
  | _ + 1, s => s
end Rf

/-! Rf: reflection. Part ZJ: turns and runs. -/
namespace Rf
open PySem L2
inductive Row where
  | gate (g : Nat) (one other b : Int)
  | wheel (w : Nat)
  deriving DecidableEq
def rowD : Row → D
  | .gate g a b c => .tuple [.str "gate", .int g, .int a, .int b, .int c]
  | .wheel w => .tuple [.str "wheel", .int w]
def logD (rs : List Row) : D := .list (rs.map rowD)
abbrev Done := List Int × List Row × Int
def doneD (x : Done) : D := .tuple [.tuple (x.1.map .int), logD x.2.1, .int x.2.2]
def gateStep (m : Mill) (t : Int) (st : List Bool) (k : Nat) (p : List Int × List Row) : List Int × List Row :=
  if nthA st k = true then (match passO m p.1 t (nthA m.gates k) with
    | none => p
    | some (a, b, n) => (shL p.1 a b n, p.2 ++ [.gate k a b n])) else p
def gatesO (m : Mill) (t : Int) (st : List Bool) (p : List Int × List Row) : Nat → List Int × List Row
  | 0 => p
  | n + 1 => gateStep m t st n (gatesO m t st p n)
def wheelStep (m : Mill) (t : Int) (rn : List Bool) (k : Nat) (p : Done) : Done :=
  if nthA rn k = true then (if canO m p.1 t (nthA m.wheels k) = true then (shL p.1 (nthA m.wheels k).pond (nthA m.wheels k).tail (nthA m.wheels k).drink, p.2.1 ++ [.wheel k], p.2.2 + (nthA m.wheels k).grind) else p) else p
def wheelsO (m : Mill) (t : Int) (rn : List Bool) (p : Done) : Nat → Done
  | 0 => p
  | n + 1 => wheelStep m t rn n (wheelsO m t rn p n)
def turnO (m : Mill) (cs : List Int) (t : Int) (st rn : List Bool) : Done :=
  wheelsO m t rn ((gatesO m t st (cs, []) m.gates.length).1, (gatesO m t st (cs, []) m.gates.length).2, 0) m.wheels.length
def runO (m : Mill) (t : Int) : List Int → List (List Bool × List Bool) → List Done
  | _, [] => []
  | cs, (st, rn) :: r => turnO m cs t st rn :: runO m (t + 1) (turnO m cs t st rn).1 r
section
variable {m : Mill} {cs : List Int} {t : Int}
/-- what passes keeps the contents right -/
theorem pass_ok {k : Nat} {a b n : Int} (h : m.Ok) (hc : COk m cs) (hk : k < m.gates.length) (e : passO m cs t (nthA m.gates k) = some (a, b, n)) :
    COk m (shL cs a b n) ∧ Side m a ∧ Side m b ∧ a ≠ b ∧ 1 ≤ n ∧ n ≤ (nthA m.gates k).rate := by
  have gk := h.gates _ (nthA_mem hk)
  have ps := pass_sides h hc gk (t := t)
  generalize nthA m.gates k = gt at *
  cases q : sidesO m cs t gt with
  | none =>
    rw [q] at ps
    simp only at ps
    rw [ps] at e
    cases e
  | some gk2 =>
    obtain ⟨g, k2⟩ := gk2
    rw [q] at ps
    obtain ⟨ps, hg, hk, hne, hs, _⟩ := ps
    rw [ps] at e
    split at e
    · cases e
    · rename_i c
      cases e
      have fi := (fits_iff h hc hg hk hne hs (rate := gt.rate)).mpr (Int.le_refl _)
      have pb := (passB_le (m := m) (cs := cs) (t := t) (g := a) (k := b) (sill := gt.sill) (rate := gt.rate)).1
      obtain ⟨_, _, f3, f4, _⟩ := fi
      generalize passB m cs t a b gt.sill gt.rate = n at *
      refine ⟨⟨by rw [shL_len]; exact hc.len, fun i hi => ?_⟩, hg, hk, hne, by omega, pb⟩
      have hl := hc.len
      have q1 := hc.bd i hi
      have s := shL_at (cs := cs) (one := a) (other := b) (b := n) (i := i) (by omega)
      by_cases c1 : (i : Int) = a
      · have := f3 (by omega)
        rw [show a.toNat = i by omega] at this
        refine ⟨this, ?_⟩
        rw [s, if_pos c1, if_neg (by omega)]
        omega
      · by_cases c2 : (i : Int) = b
        · have := f4 (by omega)
          rw [show b.toNat = i by omega] at this
          refine ⟨?_, this⟩
          rw [s, if_neg c1, if_pos c2]
          omega
        · rw [s, if_neg c1, if_neg c2]
          omega
theorem can_ok {k : Nat} (h : m.Ok) (hc : COk m cs) (hk : k < m.wheels.length) (e : canO m cs t (nthA m.wheels k) = true) :
    COk m (shL cs (nthA m.wheels k).pond (nthA m.wheels k).tail (nthA m.wheels k).drink) := by
  have wk := h.wheels _ (nthA_mem hk)
  generalize nthA m.wheels k = w at *
  unfold canO at e
  simp only [Bool.and_eq_true, Bool.or_eq_true, decide_eq_true_eq] at e
  obtain ⟨⟨_, e1⟩, e2⟩ := e
  have w1 := wk.pond
  have w2 := wk.tail
  have w3 := wk.ne
  have w4 := wk.drink
  have hl := hc.len
  refine ⟨by rw [shL_len]; exact hc.len, fun i hi => ?_⟩
  have q1 := hc.bd i hi
  have s := shL_at (cs := cs) (one := w.pond) (other := w.tail) (b := w.drink) (i := i) (by omega)
  by_cases c1 : (i : Int) = w.pond
  · rw [show w.pond.toNat = i by omega] at e1
    rw [s, if_pos c1, if_neg (by omega)]
    omega
  · by_cases c2 : (i : Int) = w.tail
    · rcases e2 with e2 | e2
      · omega
      · rw [show w.tail.toNat = i by omega] at e2
        rw [s, if_neg c1, if_pos c2]
        omega
    · rw [s, if_neg c1, if_neg c2]
      omega
theorem gateStep_ok {st : List Bool} {k : Nat} {p : List Int × List Row} (h : m.Ok) (hc : COk m p.1) (hk : k < m.gates.length) : COk m (gateStep m t st k p).1 := by
  unfold gateStep
  split
  · cases e : passO m p.1 t (nthA m.gates k) with
    | none => exact hc
    | some x =>
      obtain ⟨a, b, n⟩ := x
      exact (pass_ok h hc hk e).1
  · exact hc
theorem gatesO_ok {st : List Bool} {p : List Int × List Row} (h : m.Ok) (hc : COk m p.1) : ∀ (n : Nat), n ≤ m.gates.length → COk m (gatesO m t st p n).1
  | 0, _ => hc
  | n + 1, hn => gateStep_ok h (gatesO_ok h hc n (by omega)) (by omega)
theorem wheelStep_ok {rn : List Bool} {k : Nat} {p : Done} (h : m.Ok) (hc : COk m p.1) (hk : k < m.wheels.length) : COk m (wheelStep m t rn k p).1 := by
  unfold wheelStep
  split
  · split
    · rename_i e
      exact can_ok h hc hk e
    · exact hc
  · exact hc
theorem wheelsO_ok {rn : List Bool} {p : Done} (h : m.Ok) (hc : COk m p.1) : ∀ (n : Nat), n ≤ m.wheels.length → COk m (wheelsO m t rn p n).1
  | 0, _ => hc
  | n + 1, hn => wheelStep_ok h (wheelsO_ok h hc n (by omega)) (by omega)
theorem turnO_ok {st rn : List Bool} (h : m.Ok) (hc : COk m cs) : COk m (turnO m cs t st rn).1 :=
  wheelsO_ok h (gatesO_ok h hc _ (Nat.le_refl _)) _ (Nat.le_refl _)
/-- how long a log gets -/
theorem gatesO_len {st : List Bool} {p : List Int × List Row} : ∀ (n : Nat), (gatesO m t st p n).2.length ≤ p.2.length + n
  | 0 => Nat.le_refl _
  | n + 1 => by
    have := gatesO_len (st := st) (p := p) n
    show (gateStep m t st n (gatesO m t st p n)).2.length ≤ _
    unfold gateStep
    split
    · split
      · omega
      · simp; omega
    · omega
theorem wheelsO_len {rn : List Bool} {p : Done} : ∀ (n : Nat), (wheelsO m t rn p n).2.1.length ≤ p.2.1.length + n
  | 0 => Nat.le_refl _
  | n + 1 => by
    have := wheelsO_len (rn := rn) (p := p) n
    show (wheelStep m t rn n (wheelsO m t rn p n)).2.1.length ≤ _
    unfold wheelStep
    split
    · split
      · simp; omega
      · omega
    · omega
theorem turnO_len {st rn : List Bool} : (turnO m cs t st rn).2.1.length ≤ m.gates.length + m.wheels.length := by
  have h1 := gatesO_len (m := m) (t := t) (st := st) (p := (cs, [])) m.gates.length
  have h2 := wheelsO_len (m := m) (t := t) (rn := rn) (p := ((gatesO m t st (cs, []) m.gates.length).1, (gatesO m t st (cs, []) m.gates.length).2, 0)) m.wheels.length
  have h1 : _ ≤ 0 + _ := h1
  unfold turnO
  have h2 : _ ≤ (gatesO m t st (cs, []) m.gates.length).2.length + _ := h2
  omega
end
theorem idx_boolsT {l : List Bool} {q : Nat} (h : q < l.length) : idxD (.tuple (l.map .bool)) (.int q) = .ok (.bool (nthA l q)) := by
  have e := idxAT (g := PyData.bool) (l := l) (q := (q : Int)) (by omega) (by omega)
  rwa [Int.toNat_natCast] at e
/-! ### the defs -/
def bGates : S :=
  (.seq (.asg 4 (.lst .nil)) (.seq (.fr (.one 5) (.irng (.cons (.blt .len (.cons (.idx (.var 0) (.cst (.int 2))) .nil)) .nil)) (.seq (.ifs (.idx (.var 3) (.var 5)) (.seq (.asg 6 (.call false 0 (.cons (.var 0) (.cons (.var 1) (.cons (.var 2) (.cons (.var 5) .nil)))))) (.seq (.ifs (.cmp .IsNot (.var 6) (.cst .none)) (.seq (.asg 1 (.call false 1 (.cons (.var 1) (.cons (.idx (.var 6) (.cst (.int 0))) (.cons (.idx (.var 6) (.cst (.int 1))) (.cons (.idx (.var 6) (.cst (.int 2))) .nil)))))) (.seq (.app 4 (.bin .Add (.tup (.cons (.cst (.str "gate")) (.cons (.var 5) .nil))) (.var 6))) .nil)) .nil) .nil)) .nil) .nil)) (.seq (.ret (.tup (.cons (.var 1) (.cons (.var 4) .nil)))) .nil)))
@[simp] theorem retD_tup {Γ : Rf.Ctx} {k : Nat} {es : E} {ρ : Sl} : retD Γ (.tup k) (.tup es) ρ = evK Γ k es ρ := id rfl
@[simp] theorem evK_z {Γ : Rf.Ctx} {e es : E} {ρ : Sl} : evK Γ 0 (.cons e es) ρ = (evO Γ e ρ >>= fun d => tupOf (ev Γ es false ρ) fun ds => .ok (.tuple (d :: ds))) := id rfl
@[simp] theorem evK_s {Γ : Rf.Ctx} {k : Nat} {e es : E} {ρ : Sl} : evK Γ (k + 1) (.cons e es) ρ = (ev Γ e false ρ >>= fun d => tupOf (evK Γ k es ρ) fun ds => .ok (.tuple (d :: ds))) := id rfl
theorem unpK1 {is : List Nat} {ds : List D} {ρ : Sl} {k : Nat} : unpKD (some k) is (.tuple ds) ρ = optF (setAllK k is ds ρ) := id rfl
def bTurned (fz : Bool) : S :=
  (.seq (.unpC [1, 5] 0 (.cons (.var 0) (.cons (.var 1) (.cons (.var 2) (.cons (.var 3) .nil))))) (.seq (.asg 6 (.cst (.int 0))) (.seq (.fr (.one 7) (.irng (.cons (.blt .len (.cons (.idx (.var 0) (.cst (.int 3))) .nil)) .nil)) (.seq (.ifs (.and (.idx (.var 4) (.var 7)) (.call false 1 (.cons (.var 0) (.cons (.var 1) (.cons (.var 2) (.cons (.var 7) .nil)))))) (.seq (.unp [8, 9, 10, 11, 12] (.idx (.idx (.var 0) (.cst (.int 3))) (.var 7))) (.seq (.asg 1 (.call false 2 (.cons (.var 1) (.cons (.var 8) (.cons (.var 9) (.cons (.var 11) .nil)))))) (.seq (.app 5 (.tup (.cons (.cst (.str "wheel")) (.cons (.var 7) .nil)))) (.seq (.asg 6 (.bin .Add (.var 6) (.var 12))) .nil)))) .nil) .nil)) (match fz with
    | true => (.seq (.frz 5) (.seq (.ret (.tup (.cons (.var 1) (.cons (.var 5) (.cons (.var 6) .nil))))) .nil))
    | false => (.seq (.ret (.tup (.cons (.var 1) (.cons (.var 5) (.cons (.var 6) .nil))))) .nil)))))
def bRun : S :=
  (.seq (.asg 4 (.lst .nil)) (.seq (.fr (.tup [5, 6]) (.iseq (.var 3)) (.seq (.asg 7 (.call false 0 (.cons (.var 0) (.cons (.var 1) (.cons (.bin .Add (.var 2) (.blt .len (.cons (.var 4) .nil))) (.cons (.var 5) (.cons (.var 6) .nil))))))) (.seq (.asg 1 (.idx (.var 7) (.cst (.int 0)))) (.seq (.app 4 (.var 7)) .nil)))) (.seq (.ret (.var 4)) .nil)))
theorem shD {Γ Γ' : Rf.Ctx} {j : Nat} (k0 : ∀ ds, callD Γ j ds = run Γ' .sh 5 bShifted (ds ++ [])) {m : Mill} {cs : List Int} (hc : COk m cs) {a b n : Int} (ha : Side m a) (hb : Side m b) (hne : a ≠ b) :
    callD Γ j [.tuple (cs.map .int), .int a, .int b, .int n] = .ok (.tuple ((shL cs a b n).map .int)) :=
  (k0 _).trans (shifted_spec Γ' cs a b n ⟨ha.lo, by rw [hc.len]; exact ha.hi⟩ ⟨hb.lo, by rw [hc.len]; exact hb.hi⟩ hne)
theorem gates_spec (Γ : Rf.Ctx) {m : Mill} {cs : List Int} {t : Int} {st : List Bool} (h : m.Ok) (hc : COk m cs) (hst : st.length = m.gates.length)
    (e0 : ∀ cs, COk m cs → ∀ i, i < m.gates.length → callD Γ 0 [m.d, .tuple (cs.map .int), .int t, .int i] = .ok (passD (passO m cs t (nthA m.gates i))))
    (e1 : ∀ cs a b n, COk m cs → Side m a → Side m b → a ≠ b → callD Γ 1 [.tuple (cs.map .int), .int a, .int b, .int n] = .ok (.tuple ((shL cs a b n).map .int))) :
    run Γ (.tup 1) 7 bGates [m.d, .tuple (cs.map .int), .int t, .tuple (st.map .bool)] = .ok (.tuple [.tuple ((gatesO m t st (cs, []) m.gates.length).1.map .int), logD (gatesO m t st (cs, []) m.gates.length).2]) := by
  refine run_eq ?_
  unfold bGates
  have few := h.few.2.1
  simp (disch := omega) [-List.map_map, List.replicate, mill_gates, exec_for]
  rw [rng1 (sm62_of (by omega) (by omega))]
  simp only [bind_ok, toFl_ok, listF_l]
  obtain ⟨I, hI⟩ : ∃ I : Nat → Sl → Prop, ∀ j ρ, I j ρ ↔ (∃ (p : List Int × List Row) (u5 u6 : Slot), ρ = [.sh m.d, .sh (.tuple (p.1.map .int)), .sh (.int t), .sh (.tuple (st.map .bool)), .own (p.2.map rowD), u5, u6] ∧ p = gatesO m t st (cs, []) j) := ⟨_, fun _ _ => Iff.rfl⟩
  refine wp_rngL I ((hI _ _).mpr ⟨(cs, []), _, _, rfl, rfl⟩) ?_ ?_
  · intro j ρ hj hr
    obtain ⟨p, u5, u6, rfl, hp⟩ := (hI _ _).mp hr
    have hj : j < m.gates.length := by omega
    have hpc : COk m p.1 := by rw [hp]; exact gatesO_ok h hc j (by omega)
    have hpl : p.2.length < 16777216 := by
      have := gatesO_len (m := m) (t := t) (st := st) (p := (cs, [])) j
      rw [← hp] at this
      have : p.2.length ≤ 0 + j := this
      omega
    have ib := idx_boolsT (l := st) (q := j) (by omega)
    have e := e0 p.1 hpc j hj
    have hs : gatesO m t st (cs, []) (j + 1) = gateStep m t st j p := by rw [hp]; rfl
    simp [-List.map_map, ib]
    unfold gateStep at hs
    by_cases c : nthA st j = true
    · rw [if_pos c] at hs
      cases q : passO m p.1 t (nthA m.gates j) with
      | none =>
        rw [q] at e hs
        have e : callD Γ 0 [m.d, .tuple (p.1.map .int), .int t, .int j] = .ok .none := e
        have h2 : cmpB .IsNot .none .none = .ok false := rfl
        simp [-List.map_map, c, e, h2, Kf_eq]
        exact (hI _ _).mpr ⟨p, _, _, rfl, hs.symm⟩
      | some x =>
        obtain ⟨a, b, n⟩ := x
        obtain ⟨_, sa, sb, hne, _, _⟩ := pass_ok h hpc hj q
        rw [q] at e hs
        have e : callD Γ 0 [m.d, .tuple (p.1.map .int), .int t, .int j] = .ok (.tuple [.int a, .int b, .int n]) := e
        have h2 : cmpB .IsNot (.tuple [.int a, .int b, .int n]) .none = .ok true := rfl
        have es := e1 p.1 a b n hpc sa sb hne
        have ad : binD .Add (.tuple [.str "gate", .int j]) (.tuple [.int a, .int b, .int n]) = .ok (rowD (.gate j a b n)) := add_tup (by show 5 ≤ _; decide)
        simp [-List.map_map, c, e, h2, es, ad, Kf_eq, guardF_lt hpl]
        exact (hI _ _).mpr ⟨(shL p.1 a b n, p.2 ++ [.gate j a b n]), _, _, by rw [List.map_append]; rfl, hs.symm⟩
    · rw [if_neg c] at hs
      have c : nthA st j = false := by simpa using c
      simp [-List.map_map, c, Kf_eq]
      exact (hI _ _).mpr ⟨p, _, _, rfl, hs.symm⟩
  · intro ρ hr
    obtain ⟨p, u5, u6, rfl, hp⟩ := (hI _ _).mp hr
    rw [show ((m.gates.length : Int) - 0).toNat = m.gates.length by omega] at hp
    simp [-List.map_map, Kf_eq, ← hp, logD, evK_s (k := 0)]
theorem shL_side {m : Mill} {w : MWheel} (wk : WheelOk m.ponds.length w) : Side m w.pond ∧ Side m w.tail :=
  ⟨⟨by have := wk.pond; omega, wk.pond.2⟩, ⟨wk.tail.1, wk.tail.2⟩⟩
theorem turned_spec (fz : Bool) (Γ : Rf.Ctx) {m : Mill} {cs : List Int} {t : Int} {st rn : List Bool} (h : m.Ok) (hc : COk m cs) (hst : st.length = m.gates.length) (hrn : rn.length = m.wheels.length)
    (fk : frK Γ 0 = some 1)
    (e0 : callD Γ 0 [m.d, .tuple (cs.map .int), .int t, .tuple (st.map .bool)] = .ok (.tuple [.tuple ((gatesO m t st (cs, []) m.gates.length).1.map .int), logD (gatesO m t st (cs, []) m.gates.length).2]))
    (e1 : ∀ cs, COk m cs → ∀ i, i < m.wheels.length → callD Γ 1 [m.d, .tuple (cs.map .int), .int t, .int i] = .ok (.bool (canO m cs t (nthA m.wheels i))))
    (e2 : ∀ cs a b n, COk m cs → Side m a → Side m b → a ≠ b → callD Γ 2 [.tuple (cs.map .int), .int a, .int b, .int n] = .ok (.tuple ((shL cs a b n).map .int))) :
    run Γ (if fz = true then .sh else .tup 1) 13 (bTurned fz) [m.d, .tuple (cs.map .int), .int t, .tuple (st.map .bool), .tuple (rn.map .bool)] = .ok (doneD (turnO m cs t st rn)) := by
  refine run_eq ?_
  unfold bTurned
  have few := h.few.2.2
  have ok0 := gatesO_ok (t := t) (st := st) (p := (cs, [])) h hc _ (Nat.le_refl _)
  have len0 : (gatesO m t st (cs, []) m.gates.length).2.length ≤ 0 + m.gates.length := gatesO_len (p := (cs, [])) m.gates.length
  unfold turnO
  generalize gatesO m t st (cs, []) m.gates.length = q0 at *
  have few1 := h.few.2.1
  simp (disch := omega) [-List.map_map, List.replicate, e0, fk, unpK1, setAllK, setAll, newSlot, logD, optF]
  simp (disch := omega) [-List.map_map, mill_wheels, exec_for]
  rw [rng1 (sm62_of (by omega) (by omega))]
  simp only [bind_ok, toFl_ok, listF_l]
  obtain ⟨I, hI⟩ : ∃ I : Nat → Sl → Prop, ∀ j ρ, I j ρ ↔ (∃ (p : Done) (u7 u8 u9 u10 u11 u12 : Slot), ρ = [.sh m.d, .sh (.tuple (p.1.map .int)), .sh (.int t), .sh (.tuple (st.map .bool)), .sh (.tuple (rn.map .bool)), .own (p.2.1.map rowD), .sh (.int p.2.2), u7, u8, u9, u10, u11, u12] ∧ p = wheelsO m t rn (q0.1, q0.2, 0) j) := ⟨_, fun _ _ => Iff.rfl⟩
  refine wp_rngL I ((hI _ _).mpr ⟨(q0.1, q0.2, 0), _, _, _, _, _, _, rfl, rfl⟩) ?_ ?_
  · intro j ρ hj hr
    obtain ⟨p, u7, u8, u9, u10, u11, u12, rfl, hp⟩ := (hI _ _).mp hr
    have hj : j < m.wheels.length := by omega
    have hpc : COk m p.1 := by rw [hp]; exact wheelsO_ok (p := (q0.1, q0.2, 0)) h ok0 j (by omega)
    have hpl : p.2.1.length < 16777216 := by
      have := wheelsO_len (m := m) (t := t) (rn := rn) (p := (q0.1, q0.2, 0)) j
      rw [← hp] at this
      have : p.2.1.length ≤ q0.2.length + j := this
      omega
    have ib := idx_boolsT (l := rn) (q := j) (by omega)
    have e := e1 p.1 hpc j hj
    have hs : wheelsO m t rn (q0.1, q0.2, 0) (j + 1) = wheelStep m t rn j p := by rw [hp]; rfl
    have iw := idxAT (g := wheelD) (l := m.wheels) (q := (j : Int)) (by omega) (by omega)
    rw [Int.toNat_natCast] at iw
    have wk := h.wheels _ (nthA_mem hj)
    obtain ⟨sa, sb⟩ := shL_side wk
    have es := e2 p.1 _ _ (nthA m.wheels j).drink hpc sa sb wk.ne
    unfold wheelStep at hs
    by_cases c : nthA rn j = true
    · rw [if_pos c] at hs
      by_cases c2 : canO m p.1 t (nthA m.wheels j) = true
      · rw [if_pos c2] at hs
        rw [c2] at e
        simp [-List.map_map, ib, c, e, mill_wheels, iw, wheelD, es, guardF_lt hpl]
        simp [-List.map_map, Kf_eq]
        exact (hI _ _).mpr ⟨(shL p.1 (nthA m.wheels j).pond (nthA m.wheels j).tail (nthA m.wheels j).drink, p.2.1 ++ [.wheel j], p.2.2 + (nthA m.wheels j).grind), _, _, _, _, _, _, by rw [List.map_append]; rfl, hs.symm⟩
      · rw [if_neg c2] at hs
        have c2 : canO m p.1 t (nthA m.wheels j) = false := by simpa using c2
        rw [c2] at e
        simp [-List.map_map, ib, c, e, Kf_eq]
        exact (hI _ _).mpr ⟨p, _, _, _, _, _, _, rfl, hs.symm⟩
    · rw [if_neg c] at hs
      have c : nthA rn j = false := by simpa using c
      simp [-List.map_map, ib, c, Kf_eq]
      exact (hI _ _).mpr ⟨p, _, _, _, _, _, _, rfl, hs.symm⟩
  · intro ρ hr
    obtain ⟨p, u7, u8, u9, u10, u11, u12, rfl, hp⟩ := (hI _ _).mp hr
    rw [show ((m.wheels.length : Int) - 0).toNat = m.wheels.length by omega] at hp
    cases fz with
    | true => simp [-List.map_map, Kf_eq, ← hp, doneD, logD]
    | false => simp [-List.map_map, Kf_eq, ← hp, doneD, logD, evK_s (k := 0)]
theorem run_spec (Γ : Rf.Ctx) {m : Mill} {cs : List Int} {t : Int} {plan : List (List Bool × List Bool)} (h : m.Ok) (hc : COk m cs) (hp : ∀ p ∈ plan, p.1.length = m.gates.length ∧ p.2.length = m.wheels.length) (hl : plan.length ≤ 1000)
    (e0 : ∀ cs t st rn, COk m cs → st.length = m.gates.length → rn.length = m.wheels.length → callD Γ 0 [m.d, .tuple (cs.map .int), .int t, .tuple (st.map .bool), .tuple (rn.map .bool)] = .ok (doneD (turnO m cs t st rn))) :
    run Γ .own 8 bRun [m.d, .tuple (cs.map .int), .int t, .list (plan.map fun p => .tuple [.tuple (p.1.map .bool), .tuple (p.2.map .bool)])] = .ok (.list ((runO m t cs plan).map doneD)) := by
  refine run_eq ?_
  unfold bRun
  simp (disch := omega) [-List.map_map, List.replicate, exec_for]
  obtain ⟨I, hI⟩ : ∃ I : Nat → Sl → Prop, ∀ j ρ, I j ρ ↔ (∃ (told : List Done) (ks : List Int) (u5 u6 u7 : Slot), ρ = [.sh m.d, .sh (.tuple (ks.map .int)), .sh (.int t), .sh (.list (plan.map fun p => .tuple [.tuple (p.1.map .bool), .tuple (p.2.map .bool)])), .own (told.map doneD), u5, u6, u7] ∧ COk m ks ∧ told.length = j ∧ told ++ runO m (t + j) ks (plan.drop j) = runO m t cs plan) := ⟨_, fun _ _ => Iff.rfl⟩
  refine wp_forL I ((hI _ _).mpr ⟨[], cs, _, _, _, rfl, hc, rfl, by simp⟩) ?_ ?_
  · intro j d ρ hd hr
    obtain ⟨told, ks, u5, u6, u7, rfl, hk, ht, he⟩ := (hI _ _).mp hr
    rw [List.getElem?_map] at hd
    cases q : plan[j]? with
    | none => rw [q] at hd; cases hd
    | some x =>
      obtain ⟨st, rn⟩ := x
      rw [q] at hd
      cases hd
      have hj : j < plan.length := (List.getElem?_eq_some_iff.mp q).1
      obtain ⟨l1, l2⟩ := hp _ (List.mem_of_getElem? q)
      have e := e0 ks (t + j) st rn hk l1 l2
      refine ⟨_, rfl, ?_⟩
      rw [List.drop_eq_getElem_cons hj, (List.getElem?_eq_some_iff.mp q).2] at he
      have he : told ++ (turnO m ks (t + j) st rn :: runO m (t + j + 1) (turnO m ks (t + j) st rn).1 (plan.drop (j + 1))) = _ := he
      have i0 : ∀ x : Done, idxD (doneD x) (.int 0) = .ok (.tuple (x.1.map .int)) := fun x => by simp [doneD]
      simp [-List.map_map, ht, e, i0, guardF_lt (show j < 16777216 by omega), guardF_lt (show told.length < 16777216 by omega), Kf_eq]
      refine (hI _ _).mpr ⟨told ++ [turnO m ks (t + j) st rn], (turnO m ks (t + j) st rn).1, _, _, _, by rw [List.map_append]; rfl, turnO_ok h hk, by simp [ht], ?_⟩
      rw [← he, List.append_assoc, show t + ((j + 1 : Nat) : Int) = t + j + 1 by omega]; rfl
  · intro ρ hr
    obtain ⟨told, ks, u5, u6, u7, rfl, hk, ht, he⟩ := (hI _ _).mp hr
    rw [List.length_map, List.drop_length] at he
    have he : told ++ [] = _ := he
    rw [List.append_nil] at he
    simp [-List.map_map, Kf_eq, he]
end Rf

/-! Rf: reflection. Part ZK: what the rows of a log move. -/
namespace Rf
open PySem L2
def bShares : S :=
  (.seq (.ifs (.cmp .Eq (.idx (.var 1) (.cst (.int 0))) (.cst (.str "gate"))) (.seq (.ret (.sl false (.var 1) (.cst (.int 2)) .non)) .nil) .nil) (.seq (.unp [2, 3, 4, 5, 6] (.idx (.idx (.var 0) (.cst (.int 3))) (.idx (.var 1) (.cst (.int 1))))) (.seq (.ret (.tup (.cons (.var 2) (.cons (.var 3) (.cons (.var 5) .nil))))) .nil)))
def bBalance : S :=
  (.seq (.asg 3 (.cst (.int 0))) (.seq (.asg 4 (.cst (.int 0))) (.seq (.fr (.one 5) (.iseq (.var 2)) (.seq (.fr (.one 6) (.iseq (.var 5)) (.seq (.unp [7, 8, 9] (.call false 0 (.cons (.var 0) (.cons (.var 6) .nil)))) (.seq (.ifs (.cmp .Eq (.var 8) (.var 1)) (.seq (.asg 3 (.bin .Add (.var 3) (.var 9))) .nil) .nil) (.seq (.ifs (.cmp .Eq (.var 7) (.var 1)) (.seq (.asg 4 (.bin .Add (.var 4) (.var 9))) .nil) .nil) .nil)))) .nil)) (.seq (.ret (.tup (.cons (.var 3) (.cons (.var 4) .nil)))) .nil))))
def bShareL : S :=
  (.seq (.ifs (.cmp .Eq (.idx (.var 1) (.cst (.int 0))) (.cst (.str "gate"))) (.seq (.ret (.sl false (.var 1) (.cst (.int 2)) .non)) .nil) .nil) (.seq (.ret (.tup (.cons (.idx (.idx (.idx (.var 0) (.cst (.int 3))) (.idx (.var 1) (.cst (.int 1)))) (.cst (.int 0))) (.cons (.idx (.idx (.idx (.var 0) (.cst (.int 3))) (.idx (.var 1) (.cst (.int 1)))) (.cst (.int 1))) (.cons (.idx (.idx (.idx (.var 0) (.cst (.int 3))) (.idx (.var 1) (.cst (.int 1)))) (.cst (.int 3))) .nil))))) .nil))
def bBits : S :=
  (.seq (.ret (.blt .tuple (.cons (.comp (.cmp .Gt (.bin .Mod (.bin .FloorDiv (.var 0) (.idx (.lst (.cons (.cst (.int 1)) (.cons (.cst (.int 3)) (.cons (.cst (.int 9)) .nil)))) (.var 2))) (.cst (.int 3))) (.cst (.int 0))) (.one 2) (.irng (.cons (.var 1) .nil)) [2]) .nil))) .nil)
def giv (M : Mill) : Row → Int
  | .gate _ a _ _ => a
  | .wheel w => (nthA M.wheels w).pond
def tak (M : Mill) : Row → Int
  | .gate _ _ b _ => b
  | .wheel w => (nthA M.wheels w).tail
def buc (M : Mill) : Row → Int
  | .gate _ _ _ c => c
  | .wheel w => (nthA M.wheels w).drink
def grd1 (M : Mill) : Row → Int
  | .gate _ _ _ _ => 0
  | .wheel w => (nthA M.wheels w).grind
def RowIn (M : Mill) : Row → Prop
  | .gate _ _ _ _ => True
  | .wheel w => w < M.wheels.length
structure RowOk (M : Mill) (r : Row) : Prop where
  in_ : RowIn M r
  giv : Side M (giv M r)
  tak : Side M (tak M r)
  ne : Rf.giv M r ≠ Rf.tak M r
  buc : 1 ≤ buc M r ∧ Rf.buc M r ≤ 1000000
theorem shares_spec (Γ : Rf.Ctx) (M : Mill) (r : Row) (h : RowIn M r) : run Γ .sh 7 bShares [M.d, rowD r] = .ok (.tuple [.int (giv M r), .int (tak M r), .int (buc M r)]) := by
  refine run_eq ?_
  unfold bShares
  cases r with
  | gate g a b c =>
    simp [-List.map_map, List.replicate, rowD, giv, tak, buc]
    rw [show (2 : Int) = ((2 : Nat) : Int) from rfl, cut_drop]
    rfl
  | wheel w =>
    have hw : w < M.wheels.length := h
    have ix := idxAT (g := wheelD) (l := M.wheels) (q := (w : Int)) (by omega) (by omega)
    have ne : ¬ (("wheel" : Str) = "gate") := by decide
    simp [-List.map_map, List.replicate, rowD, Mill.d, giv, tak, buc, ne, Kf_eq, ix, wheelD]
theorem shareL_spec (Γ : Rf.Ctx) (M : Mill) (r : Row) (h : RowIn M r) : run Γ .sh 2 bShareL [M.d, rowD r] = .ok (.tuple [.int (giv M r), .int (tak M r), .int (buc M r)]) := by
  refine run_eq ?_
  unfold bShareL
  cases r with
  | gate g a b c =>
    simp [-List.map_map, List.replicate, rowD, giv, tak, buc]
    rw [show (2 : Int) = ((2 : Nat) : Int) from rfl, cut_drop]
    rfl
  | wheel w =>
    have hw : w < M.wheels.length := h
    have ix := idxAT (g := wheelD) (l := M.wheels) (q := (w : Int)) (by omega) (by omega)
    have ne : ¬ (("wheel" : Str) = "gate") := by decide
    simp [-List.map_map, List.replicate, rowD, Mill.d, giv, tak, buc, ne, Kf_eq, ix, wheelD]
def came (M : Mill) (p : Int) (rs : List Row) : Int := (rs.map fun r => if tak M r = p then buc M r else 0).sum
def went (M : Mill) (p : Int) (rs : List Row) : Int := (rs.map fun r => if giv M r = p then buc M r else 0).sum
theorem balance_spec (Γ Γs : Rf.Ctx) (k0 : ∀ ds, callD Γ 0 ds = run Γs .sh 7 bShares (ds ++ [])) (M : Mill) (p : Int) (logs : List (List Row)) (h : ∀ l ∈ logs, ∀ r ∈ l, RowIn M r) :
    run Γ .sh 10 bBalance [M.d, .int p, .list (logs.map logD)] = .ok (.tuple [.int ((logs.map (came M p)).sum), .int ((logs.map (went M p)).sum)]) := by
  refine run_eq ?_
  unfold bBalance
  simp [-List.map_map, List.replicate, exec_for]
  obtain ⟨I, hI⟩ : ∃ I : Nat → Sl → Prop, ∀ j ρ, I j ρ ↔ (∃ (a b : Int) (u5 u6 u7 u8 u9 : Slot), ρ = [.sh M.d, .sh (.int p), .sh (.list (logs.map logD)), .sh (.int a), .sh (.int b), u5, u6, u7, u8, u9] ∧
    a + ((logs.drop j).map (came M p)).sum = (logs.map (came M p)).sum ∧ b + ((logs.drop j).map (went M p)).sum = (logs.map (went M p)).sum) := ⟨_, fun _ _ => Iff.rfl⟩
  refine wp_forL I ((hI _ _).mpr ⟨0, 0, _, _, _, _, _, rfl, by simp, by simp⟩) ?_ ?_
  · intro j d ρ hd hr
    obtain ⟨a, b, u5, u6, u7, u8, u9, rfl, ha, hb⟩ := (hI _ _).mp hr
    rw [List.getElem?_map] at hd
    cases q : logs[j]? with
    | none => rw [q] at hd; cases hd
    | some l =>
      rw [q] at hd
      cases hd
      have hj : j < logs.length := (List.getElem?_eq_some_iff.mp q).1
      have hlj : logs[j] = l := (List.getElem?_eq_some_iff.mp q).2
      have hl := h l (List.mem_of_getElem? q)
      rw [List.drop_eq_getElem_cons hj, hlj, List.map_cons, List.sum_cons] at ha hb
      refine ⟨_, rfl, ?_⟩
      simp [-List.map_map, exec_for, logD]
      obtain ⟨J, hJ⟩ : ∃ J : Nat → Sl → Prop, ∀ i ρ, J i ρ ↔ (∃ (a' b' : Int) (u6 u7 u8 u9 : Slot), ρ = [.sh M.d, .sh (.int p), .sh (.list (logs.map logD)), .sh (.int a'), .sh (.int b'), .sh (logD l), u6, u7, u8, u9] ∧
        a' + came M p (l.drop i) = a + came M p l ∧ b' + went M p (l.drop i) = b + went M p l) := ⟨_, fun _ _ => Iff.rfl⟩
      refine wp_forL J ((hJ _ _).mpr ⟨a, b, _, _, _, _, rfl, rfl, rfl⟩) ?_ ?_
      · intro i d ρ hd hr
        obtain ⟨a', b', u6, u7, u8, u9, rfl, ha', hb'⟩ := (hJ _ _).mp hr
        rw [List.getElem?_map] at hd
        cases q2 : l[i]? with
        | none => rw [q2] at hd; cases hd
        | some r =>
          rw [q2] at hd
          cases hd
          have hi : i < l.length := (List.getElem?_eq_some_iff.mp q2).1
          have hli : l[i] = r := (List.getElem?_eq_some_iff.mp q2).2
          have e : callD Γ 0 [M.d, rowD r] = _ := (k0 _).trans (shares_spec Γs M r (hl r (List.mem_of_getElem? q2)))
          rw [List.drop_eq_getElem_cons hi, hli] at ha' hb'
          have ha' : a' + (came M p (r :: l.drop (i + 1))) = _ := ha'
          have hb' : b' + (went M p (r :: l.drop (i + 1))) = _ := hb'
          unfold came at ha'
          unfold went at hb'
          rw [List.map_cons, List.sum_cons] at ha' hb'
          refine ⟨_, rfl, ?_⟩
          by_cases c1 : tak M r = p
          · by_cases c2 : giv M r = p
            · simp [-List.map_map, e, c1, c2, Kf_eq]
              rw [if_pos c1] at ha'
              rw [if_pos c2] at hb'
              exact (hJ _ _).mpr ⟨_, _, _, _, _, _, rfl, by unfold came; omega, by unfold went; omega⟩
            · simp [-List.map_map, e, c1, c2, Kf_eq]
              rw [if_pos c1] at ha'
              rw [if_neg c2] at hb'
              exact (hJ _ _).mpr ⟨_, _, _, _, _, _, rfl, by unfold came; omega, by unfold went; omega⟩
          · by_cases c2 : giv M r = p
            · simp [-List.map_map, e, c1, c2, Kf_eq]
              rw [if_neg c1] at ha'
              rw [if_pos c2] at hb'
              exact (hJ _ _).mpr ⟨_, _, _, _, _, _, rfl, by unfold came; omega, by unfold went; omega⟩
            · simp [-List.map_map, e, c1, c2, Kf_eq]
              rw [if_neg c1] at ha'
              rw [if_neg c2] at hb'
              exact (hJ _ _).mpr ⟨_, _, _, _, _, _, rfl, by unfold came; omega, by unfold went; omega⟩
      · intro ρ hr
        obtain ⟨a', b', u6, u7, u8, u9, rfl, ha', hb'⟩ := (hJ _ _).mp hr
        rw [List.length_map, List.drop_length] at ha' hb'
        have ha' : a' + 0 = _ := ha'
        have hb' : b' + 0 = _ := hb'
        simp only [Kf_eq, exec_nil, Wp_nx]
        exact (hI (j + 1) _).mpr ⟨a', b', _, _, _, _, _, rfl, by omega, by omega⟩
  · intro ρ hr
    obtain ⟨a, b, u5, u6, u7, u8, u9, rfl, ha, hb⟩ := (hI _ _).mp hr
    rw [List.length_map, List.drop_length] at ha hb
    have ha : a + 0 = _ := ha
    have hb : b + 0 = _ := hb
    simp [Kf_eq]
    omega
theorem sum_app {a b : List Int} : (a ++ b).sum = a.sum + b.sum := by simp
theorem came_app {M : Mill} {p : Int} {a b : List Row} : came M p (a ++ b) = came M p a + came M p b := by unfold came; rw [List.map_append, sum_app]
theorem went_app {M : Mill} {p : Int} {a b : List Row} : went M p (a ++ b) = went M p a + went M p b := by unfold went; rw [List.map_append, sum_app]
theorem came_flat {M : Mill} {p : Int} : ∀ {ls : List (List Row)}, (ls.map (came M p)).sum = came M p ls.flatten
  | [] => rfl
  | l :: ls => by
    rw [List.map_cons, List.sum_cons, List.flatten_cons, came_app, came_flat]
theorem went_flat {M : Mill} {p : Int} : ∀ {ls : List (List Row)}, (ls.map (went M p)).sum = went M p ls.flatten
  | [] => rfl
  | l :: ls => by
    rw [List.map_cons, List.sum_cons, List.flatten_cons, went_app, went_flat]
theorem came_pos {M : Mill} {p : Int} : ∀ {rs : List Row}, (∀ r ∈ rs, RowOk M r) → 0 ≤ came M p rs
  | [], _ => Int.le_refl 0
  | r :: rs, h => by
    have := came_pos (p := p) fun x hx => h x (List.mem_cons_of_mem _ hx)
    have := (h r List.mem_cons_self).buc
    show 0 ≤ List.sum (_ :: _)
    rw [List.sum_cons]
    unfold came at *
    simp only
    split <;> omega
theorem went_pos {M : Mill} {p : Int} : ∀ {rs : List Row}, (∀ r ∈ rs, RowOk M r) → 0 ≤ went M p rs
  | [], _ => Int.le_refl 0
  | r :: rs, h => by
    have := went_pos (p := p) fun x hx => h x (List.mem_cons_of_mem _ hx)
    have := (h r List.mem_cons_self).buc
    show 0 ≤ List.sum (_ :: _)
    rw [List.sum_cons]
    unfold went at *
    simp only
    split <;> omega
/-- the contents behind rows -/
def rowsL (M : Mill) (cs : List Int) (rs : List Row) : List Int := rs.foldl (fun cs r => shL cs (giv M r) (tak M r) (buc M r)) cs
theorem rowsL_app {M : Mill} {cs : List Int} {a b : List Row} : rowsL M cs (a ++ b) = rowsL M (rowsL M cs a) b := List.foldl_append
theorem rowsL_len {M : Mill} : ∀ {rs : List Row} {cs : List Int}, (rowsL M cs rs).length = cs.length
  | [], _ => rfl
  | r :: rs, cs => by
    show (rowsL M (shL cs _ _ _) rs).length = _
    rw [rowsL_len, shL_len]
theorem rowsL_nth {M : Mill} {i : Nat} : ∀ {rs : List Row} {cs : List Int}, i < cs.length → nth (rowsL M cs rs) i = nth cs i + came M i rs - went M i rs
  | [], cs, _ => by
    show nth cs i = nth cs i + 0 - 0
    omega
  | r :: rs, cs, h => by
    show nth (rowsL M (shL cs (giv M r) (tak M r) (buc M r)) rs) i = _
    rw [rowsL_nth (by rw [shL_len]; exact h), shL_at h]
    have e1 : came M i (r :: rs) = (if tak M r = (i : Int) then buc M r else 0) + came M i rs := by
      unfold came; rw [List.map_cons, List.sum_cons]
    have e2 : went M i (r :: rs) = (if giv M r = (i : Int) then buc M r else 0) + went M i rs := by
      unfold went; rw [List.map_cons, List.sum_cons]
    rw [e1, e2]
    by_cases c1 : tak M r = (i : Int)
    · by_cases c2 : giv M r = (i : Int)
      · rw [if_pos c1, if_pos c2, if_pos c1.symm, if_pos c2.symm]; omega
      · rw [if_pos c1, if_neg c2, if_pos c1.symm, if_neg (fun z => c2 z.symm)]; omega
    · by_cases c2 : giv M r = (i : Int)
      · rw [if_neg c1, if_pos c2, if_neg (fun z => c1 z.symm), if_pos c2.symm]; omega
      · rw [if_neg c1, if_neg c2, if_neg (fun z => c1 z.symm), if_neg (fun z => c2 z.symm)]; omega
/-! ### what a turn tells -/
section
variable {m : Mill} {t : Int}
theorem gatesO_rows {st : List Bool} {cs : List Int} (h : m.Ok) (hc : COk m cs) : ∀ (n : Nat), n ≤ m.gates.length → (∀ r ∈ (gatesO m t st (cs, []) n).2, RowOk m r) ∧ (gatesO m t st (cs, []) n).1 = rowsL m cs (gatesO m t st (cs, []) n).2 ∧ ((gatesO m t st (cs, []) n).2.map (grd1 m)).sum = 0
  | 0, _ => ⟨fun r hr => absurd hr List.not_mem_nil, rfl, rfl⟩
  | n + 1, hn => by
    obtain ⟨i1, i2, i3⟩ := gatesO_rows (st := st) h hc n (by omega)
    have ok := gatesO_ok (t := t) (st := st) (p := (cs, [])) h hc n (by omega)
    show (∀ r ∈ (gateStep m t st n (gatesO m t st (cs, []) n)).2, RowOk m r) ∧ (gateStep m t st n (gatesO m t st (cs, []) n)).1 = rowsL m cs (gateStep m t st n (gatesO m t st (cs, []) n)).2 ∧ ((gateStep m t st n (gatesO m t st (cs, []) n)).2.map (grd1 m)).sum = 0
    generalize gatesO m t st (cs, []) n = p at *
    unfold gateStep
    split
    · cases e : passO m p.1 t (nthA m.gates n) with
      | none => exact ⟨i1, i2, i3⟩
      | some x =>
        obtain ⟨a, b, k⟩ := x
        obtain ⟨_, sa, sb, hne, k1, k2⟩ := pass_ok h ok (by omega) e
        have gk := (h.gates _ (nthA_mem (l := m.gates) (k := n) (by omega))).bd
        refine ⟨fun r hr => ?_, ?_, ?_⟩
        · rcases List.mem_append.mp hr with hr | hr
          · exact i1 r hr
          · rcases List.mem_singleton.mp hr with rfl
            exact ⟨trivial, sa, sb, hne, k1, by show k ≤ _; omega⟩
        · rw [rowsL_app, ← i2]; rfl
        · rw [List.map_append, sum_app, i3]; rfl
    · exact ⟨i1, i2, i3⟩
theorem wheelsO_rows {rn : List Bool} {cs : List Int} {p0 : Done} (h : m.Ok) (hc : COk m p0.1) (i1 : ∀ r ∈ p0.2.1, RowOk m r) (i2 : p0.1 = rowsL m cs p0.2.1) (i3 : p0.2.2 = (p0.2.1.map (grd1 m)).sum) : ∀ (n : Nat), n ≤ m.wheels.length →
    (∀ r ∈ (wheelsO m t rn p0 n).2.1, RowOk m r) ∧ (wheelsO m t rn p0 n).1 = rowsL m cs (wheelsO m t rn p0 n).2.1 ∧ (wheelsO m t rn p0 n).2.2 = ((wheelsO m t rn p0 n).2.1.map (grd1 m)).sum
  | 0, _ => ⟨i1, i2, i3⟩
  | n + 1, hn => by
    have ok := wheelsO_ok (t := t) (rn := rn) (p := p0) h hc n (by omega)
    obtain ⟨i1, i2, i3⟩ := wheelsO_rows (rn := rn) h hc i1 i2 i3 n (by omega)
    show (∀ r ∈ (wheelStep m t rn n (wheelsO m t rn p0 n)).2.1, RowOk m r) ∧ (wheelStep m t rn n (wheelsO m t rn p0 n)).1 = rowsL m cs (wheelStep m t rn n (wheelsO m t rn p0 n)).2.1 ∧ (wheelStep m t rn n (wheelsO m t rn p0 n)).2.2 = ((wheelStep m t rn n (wheelsO m t rn p0 n)).2.1.map (grd1 m)).sum
    generalize wheelsO m t rn p0 n = p at *
    have wk := h.wheels _ (nthA_mem (l := m.wheels) (k := n) (by omega))
    obtain ⟨sa, sb⟩ := shL_side wk
    unfold wheelStep
    split
    · split
      · refine ⟨fun r hr => ?_, ?_, ?_⟩
        · rcases List.mem_append.mp hr with hr | hr
          · exact i1 r hr
          · rcases List.mem_singleton.mp hr with rfl
            exact ⟨by show n < _; omega, sa, sb, wk.ne, wk.drink, wk.bd.2.1⟩
        · show shL _ _ _ _ = rowsL m cs (p.2.1 ++ [.wheel n])
          rw [rowsL_app, ← i2]; rfl
        · show p.2.2 + _ = ((p.2.1 ++ [Row.wheel n]).map (grd1 m)).sum
          rw [List.map_append, sum_app, ← i3]; simp [grd1]
      · exact ⟨i1, i2, i3⟩
    · exact ⟨i1, i2, i3⟩
theorem turnO_rows {st rn : List Bool} {cs : List Int} (h : m.Ok) (hc : COk m cs) : (∀ r ∈ (turnO m cs t st rn).2.1, RowOk m r) ∧ (turnO m cs t st rn).1 = rowsL m cs (turnO m cs t st rn).2.1 ∧ (turnO m cs t st rn).2.2 = ((turnO m cs t st rn).2.1.map (grd1 m)).sum := by
  obtain ⟨i1, i2, i3⟩ := gatesO_rows (t := t) (st := st) h hc _ (Nat.le_refl _)
  exact wheelsO_rows (p0 := ((gatesO m t st (cs, []) m.gates.length).1, (gatesO m t st (cs, []) m.gates.length).2, 0)) h (gatesO_ok h hc _ (Nat.le_refl _)) i1 i2 i3.symm _ (Nat.le_refl _)
/-- what a run tells, turn by turn -/
theorem runO_rows (h : m.Ok) : ∀ {plan : List (List Bool × List Bool)} {cs : List Int} {t : Int}, COk m cs → ∀ j (x : Done), (runO m t cs plan)[j]? = some x →
    COk m x.1 ∧ (∀ r ∈ x.2.1, RowOk m r) ∧ x.1 = rowsL m cs (((runO m t cs plan).map (·.2.1)).take (j + 1)).flatten ∧ x.2.2 = (x.2.1.map (grd1 m)).sum ∧ x.2.1.length ≤ 6
  | [], _, _, _, j, x, e => by cases e
  | (st, rn) :: r, cs, t, hc, 0, x, e => by
    cases e
    obtain ⟨i1, i2, i3⟩ := turnO_rows (t := t) (st := st) (rn := rn) h hc
    have := turnO_len (m := m) (cs := cs) (t := t) (st := st) (rn := rn)
    have := h.few
    refine ⟨turnO_ok h hc, i1, ?_, i3, by omega⟩
    rw [show (((runO m t cs ((st, rn) :: r)).map (·.2.1)).take (0 + 1)).flatten = (turnO m cs t st rn).2.1 by
      show [(turnO m cs t st rn).2.1].flatten = _
      simp]
    exact i2
  | (st, rn) :: r, cs, t, hc, j + 1, x, e => by
    have e : (runO m (t + 1) (turnO m cs t st rn).1 r)[j]? = some x := e
    obtain ⟨i1, i2, i3, i4, i5⟩ := runO_rows h (turnO_ok h hc) j x e
    refine ⟨i1, i2, ?_, i4, i5⟩
    obtain ⟨_, z, _⟩ := turnO_rows (t := t) (st := st) (rn := rn) h hc
    show x.1 = rowsL m cs ((turnO m cs t st rn).2.1 :: ((runO m (t + 1) (turnO m cs t st rn).1 r).map (·.2.1)).take (j + 1)).flatten
    rw [List.flatten_cons, rowsL_app, ← z]
    exact i3
theorem runO_len : ∀ {plan : List (List Bool × List Bool)} {cs : List Int} {t : Int}, (runO m t cs plan).length = plan.length
  | [], _, _ => rfl
  | (st, rn) :: r, cs, t => by
    show (runO m (t + 1) (turnO m cs t st rn).1 r).length + 1 = r.length + 1
    rw [runO_len]
end
/-! ### sums -/
theorem sum_ext {f g : Nat → Int} : ∀ {n : Nat}, (∀ i, i < n → f i = g i) → ((List.range n).map f).sum = ((List.range n).map g).sum := fun {n} h => by
  congr 1
  exact List.map_congr_left fun i hi => h i (List.mem_range.mp hi)
theorem sum_rngS {f : Nat → Int} {n : Nat} : ((List.range (n + 1)).map f).sum = ((List.range n).map f).sum + f n := by
  rw [List.range_succ, List.map_append, sum_app]; simp
theorem sum_one {n : Nat} {p : Int} {b : Int} : ((List.range n).map fun (k : Nat) => b * (if (k : Int) = p then 1 else 0)).sum = b * (if 0 ≤ p ∧ p < n then 1 else 0) := by
  induction n with
  | zero =>
    rw [if_neg (by omega)]
    simp
  | succ n ih =>
    rw [sum_rngS, ih]
    by_cases c : (n : Int) = p
    · rw [if_pos c, if_neg (by omega), if_pos (by omega)]
      omega
    · rw [if_neg c]
      by_cases c2 : 0 ≤ p ∧ p < n
      · rw [if_pos c2, if_pos (by omega)]; omega
      · rw [if_neg c2, if_neg (by omega)]; omega
theorem sum_addf {f g : Nat → Int} {n : Nat} : ((List.range n).map fun k => f k + g k).sum = ((List.range n).map f).sum + ((List.range n).map g).sum := by
  induction n with
  | zero => rfl
  | succ n ih => rw [sum_rngS, sum_rngS, sum_rngS, ih]; omega
theorem sum_nth {l : List Int} : ((List.range l.length).map (nth l)).sum = l.sum := by
  congr 1
  refine List.ext_getElem (by simp) fun i h1 h2 => ?_
  simp [nth, h2]
theorem sum_shL {m : Mill} {cs : List Int} {a b n : Int} (hl : cs.length = m.ponds.length) (ha : Side m a) (hb : Side m b) : (shL cs a b n).sum = cs.sum + n * ((if a = -1 then 1 else 0) - (if b = -1 then 1 else 0)) := by
  have e : (shL cs a b n).sum = ((List.range cs.length).map fun (k : Nat) => nth cs k + (n * (if (k : Int) = b then 1 else 0) + (-n) * (if (k : Int) = a then 1 else 0))).sum := by
    unfold shL
    refine sum_ext fun i _ => ?_
    split <;> split <;> omega
  rw [e, sum_addf, sum_addf, sum_one, sum_one, sum_nth]
  have := ha.lo
  have := ha.hi
  have := hb.lo
  have := hb.hi
  by_cases c1 : a = -1
  · by_cases c2 : b = -1
    · rw [if_pos c1, if_pos c2, if_neg (by omega), if_neg (by omega)]; omega
    · rw [if_pos c1, if_neg c2, if_pos (by omega), if_neg (by omega)]; omega
  · by_cases c2 : b = -1
    · rw [if_neg c1, if_pos c2, if_neg (by omega), if_pos (by omega)]; omega
    · rw [if_neg c1, if_neg c2, if_pos (by omega), if_pos (by omega)]; omega
/-! ### bits -/
def bitV (x : Int) (i : Nat) : Bool := decide (0 < x / (if i = 0 then 1 else if i = 1 then 3 else 9) % 3)
def bits (x : Int) (m : Nat) : List Bool := (List.range m).map (bitV x)
theorem bits_len {x : Int} {m : Nat} : (bits x m).length = m := by unfold bits; simp
theorem bits_spec (Γ : Rf.Ctx) (x : Int) (m : Nat) (h : m ≤ 3) : run Γ .sh 3 bBits [.int x, .int m] = .ok (.tuple ((bits x m).map .bool)) := by
  refine run_eq ?_
  unfold bBits
  simp [-List.map_map, List.replicate]
  rw [rng1 (sm62_of (by omega) (by omega))]
  simp only [bind_ok, seqOf_list, optL_some]
  rw [compD_rng (fun i => .bool (bitV x i)) (by omega) fun i hi => by
    have hi3 : i = 0 ∨ i = 1 ∨ i = 2 := by omega
    rcases hi3 with rfl | rfl | rfl <;> simp [fdiv_ok, mod_ok, bitV]]
  simp [bits]
end Rf

/-! Rf: reflection. Part ZL: the mills of the whole laws. -/
namespace Rf
open PySem L2
def bTides : S :=
  (.seq (.asg 1 (.lst .nil)) (.seq (.fr (.one 2) (.irng (.cons (.call false 0 (.cons (.var 0) (.cons (.cst (.int 1)) (.cons (.cst (.int 4)) .nil)))) .nil)) (.seq (.asg 3 (.comp (.bin .Sub (.call false 0 (.cons (.var 0) (.cons (.bin .Add (.bin .Add (.cst (.int 10)) (.bin .Mult (.cst (.int 7)) (.var 2))) (.var 4)) (.cons (.cst (.int 9)) .nil)))) (.cst (.int 4))) (.one 4) (.irng (.cons (.bin .Add (.cst (.int 1)) (.call false 0 (.cons (.var 0) (.cons (.bin .Add (.cst (.int 2)) (.var 2)) (.cons (.cst (.int 6)) .nil))))) .nil)) [4])) (.seq (.app 1 (.tup (.cons (.call false 0 (.cons (.var 0) (.cons (.bin .Add (.cst (.int 6)) (.var 2)) (.cons (.cst (.int 9)) .nil)))) (.cons (.blt .tuple (.cons (.var 3) .nil)) .nil)))) .nil))) (.seq (.ret (.tup (.cons (.bin .Sub (.call false 0 (.cons (.var 0) (.cons (.cst (.int 5)) (.cons (.cst (.int 7)) .nil)))) (.cst (.int 2))) (.cons (.blt .tuple (.cons (.var 1) .nil)) .nil)))) .nil)))
def bTwoSides : S :=
  (.seq (.asg 3 (.bin .Sub (.call false 0 (.cons (.var 0) (.cons (.var 1) (.cons (.bin .Add (.var 2) (.cst (.int 1))) .nil)))) (.cst (.int 1)))) (.seq (.ret (.tup (.cons (.var 3) (.cons (.bin .Sub (.bin .Mod (.bin .Add (.bin .Add (.var 3) (.cst (.int 2))) (.call false 0 (.cons (.var 0) (.cons (.bin .Add (.var 1) (.cst (.int 1))) (.cons (.var 2) .nil))))) (.bin .Add (.var 2) (.cst (.int 1)))) (.cst (.int 1))) .nil)))) .nil))
def bWorksOf : S :=
  (.seq (.asg 4 (.idx (.lst (.cons (.cst (.int 1)) (.cons (.cst (.int 1)) (.cons (.cst (.int 2)) (.cons (.cst (.int 2)) (.cons (.cst (.int 2)) (.cons (.cst (.int 3)) .nil))))))) (.call false 0 (.cons (.var 0) (.cons (.cst (.int 40)) (.cons (.cst (.int 6)) .nil)))))) (.seq (.asg 5 (.lst .nil)) (.seq (.fr (.one 6) (.irng (.cons (.var 4) .nil)) (.seq (.asg 9 (.bin .Sub (.call false 0 (.cons (.var 0) (.cons (.bin .Add (.cst (.int 41)) (.var 6)) (.cons (.cst (.int 4)) .nil)))) (.cst (.int 2)))) (.seq (.asg 10 (.bin .Add (.cst (.int 1)) (.call false 0 (.cons (.var 0) (.cons (.bin .Add (.cst (.int 44)) (.var 6)) (.cons (.var 1) .nil)))))) (.seq (.app 5 (.tup (.cons (.bin .Add (.cst (.str "pond")) (.idx (.cst (.str "abc")) (.var 6))) (.cons (.var 10) (.cons (.var 9) (.cons (.bin .Add (.bin .Add (.var 9) (.cst (.int 1))) (.call false 0 (.cons (.var 0) (.cons (.bin .Add (.cst (.int 47)) (.var 6)) (.cons (.bin .Add (.var 1) (.cst (.int 1))) .nil))))) .nil)))))) .nil)))) (.seq (.asg 7 (.lst .nil)) (.seq (.fr (.one 6) (.irng (.cons (.var 2) .nil)) (.seq (.asg 11 (.bin .Add (.cst (.int 1)) (.call false 0 (.cons (.var 0) (.cons (.bin .Add (.cst (.int 50)) (.var 6)) (.cons (.bin .Mult (.cst (.int 3)) (.var 1)) .nil)))))) (.seq (.app 7 (.bin .Add (.call false 1 (.cons (.var 0) (.cons (.bin .Add (.cst (.int 53)) (.bin .Mult (.cst (.int 2)) (.var 6))) (.cons (.var 4) .nil)))) (.tup (.cons (.bin .Sub (.call false 0 (.cons (.var 0) (.cons (.bin .Add (.cst (.int 60)) (.var 6)) (.cons (.cst (.int 5)) .nil)))) (.cst (.int 3))) (.cons (.var 11) .nil))))) .nil))) (.seq (.asg 8 (.lst .nil)) (.seq (.fr (.one 6) (.irng (.cons (.var 3) .nil)) (.seq (.unp [12, 13] (.call false 1 (.cons (.var 0) (.cons (.bin .Add (.cst (.int 63)) (.bin .Mult (.cst (.int 2)) (.var 6))) (.cons (.var 4) .nil))))) (.seq (.ifs (.cmp .Lt (.var 12) (.cst (.int 0))) (.seq (.par 12 13 (.var 13) (.var 12)) .nil) .nil) (.seq (.asg 14 (.bin .Add (.cst (.int 1)) (.call false 0 (.cons (.var 0) (.cons (.bin .Add (.cst (.int 70)) (.var 6)) (.cons (.cst (.int 3)) .nil)))))) (.seq (.app 8 (.tup (.cons (.var 12) (.cons (.var 13) (.cons (.var 14) (.cons (.bin .Add (.cst (.int 1)) (.call false 0 (.cons (.var 0) (.cons (.bin .Add (.cst (.int 73)) (.var 6)) (.cons (.cst (.int 3)) .nil))))) (.cons (.bin .Add (.cst (.int 1)) (.call false 0 (.cons (.var 0) (.cons (.bin .Add (.cst (.int 76)) (.var 6)) (.cons (.cst (.int 4)) .nil))))) .nil))))))) .nil))))) (.seq (.ret (.tup (.cons (.blt .tuple (.cons (.var 5) .nil)) (.cons (.blt .tuple (.cons (.var 7) .nil)) (.cons (.blt .tuple (.cons (.var 8) .nil)) .nil))))) .nil))))))))
def bFilled : S :=
  (.seq (.ret (.blt .tuple (.cons (.comp (.call false 0 (.cons (.var 1) (.cons (.bin .Add (.cst (.int 80)) (.var 2)) (.cons (.bin .Add (.call false 1 (.cons (.idx (.var 0) (.var 2)) .nil)) (.cst (.int 1))) .nil)))) (.one 2) (.irng (.cons (.blt .len (.cons (.var 0) .nil)) .nil)) [2]) .nil))) .nil)
def bTruths : S :=
  (.seq (.ret (.blt .tuple (.cons (.comp (.cmp .Eq (.call false 0 (.cons (.var 0) (.cons (.bin .Add (.var 1) (.var 3)) (.cons (.cst (.int 2)) .nil)))) (.cst (.int 1))) (.one 3) (.irng (.cons (.var 2) .nil)) [3]) .nil))) .nil)
def bFromSea : S :=
  (.seq (.asg 2 (.cst (.int 0))) (.seq (.fr (.one 3) (.iseq (.var 1)) (.seq (.ifs (.cmp .Eq (.idx (.var 3) (.cst (.int 0))) (.cst (.str "gate"))) (.seq (.unp [4, 5, 6] (.sl false (.var 3) (.cst (.int 2)) .non)) .nil) (.seq (.unp [4, 5, 7, 6, 8] (.idx (.idx (.var 0) (.cst (.int 3))) (.idx (.var 3) (.cst (.int 1))))) .nil)) (.seq (.asg 2 (.bin .Add (.var 2) (.bin .Mult (.var 6) (.bin .Sub (.blt .int (.cons (.cmp .Lt (.var 4) (.cst (.int 0))) .nil)) (.blt .int (.cons (.cmp .Lt (.var 5) (.cst (.int 0))) .nil)))))) .nil))) (.seq (.ret (.var 2)) .nil)))

abbrev PkAt (Γ : Rf.Ctx) (j : Nat) : Prop := ∀ x t many : Int, 0 ≤ t → t ≤ 1000 → 0 < many → ∃ v : Int, callD Γ j [.int x, .int t, .int many] = .ok (.int v) ∧ 0 ≤ v ∧ v < many
theorem pkAt (Γ Γp : Rf.Ctx) (j : Nat) (k0 : ∀ ds, callD Γ j ds = run Γp .sh 5 bPick (ds ++ [])) : PkAt Γ j := fun x t many h0 h1 hm => by
  obtain ⟨v, e, h⟩ := pk_of Γ Γp j k0 x t.toNat (by omega) many hm
  rw [Int.toNat_of_nonneg h0] at e
  exact ⟨v, e, h⟩
theorem lcm_le {a b : Nat} (ha : 0 < a) (hb : 0 < b) : Nat.lcm a b ≤ a * b := Nat.le_of_dvd (Nat.mul_pos ha hb) (Nat.lcm_dvd_mul a b)
theorem tides_spec (Γ : Rf.Ctx) (pk : PkAt Γ 0) (x : Int) : ∃ b rs, run Γ .sh 5 bTides [.int x] = .ok (seaD b rs) ∧ SeaOk b rs := by
  obtain ⟨P, hP⟩ : ∃ P : D → Prop, ∀ d, P d ↔ (∃ b rs, d = seaD b rs ∧ SeaOk b rs) := ⟨_, fun _ => Iff.rfl⟩
  obtain ⟨d, e, hd⟩ := run_wp (Γ := Γ) (fr := .sh) (s := bTides) (kk := 5) (ds := [.int x]) (P := P) (by
    unfold bTides
    obtain ⟨v1, e1, v10, v11⟩ := pk x 1 4 (by decide) (by decide) (by decide)
    obtain ⟨v5, e5, v50, v51⟩ := pk x 5 7 (by decide) (by decide) (by decide)
    simp [-List.map_map, List.replicate, exec_for, e1]
    rw [rng1 (sm62_of (by omega) (by omega))]
    simp only [bind_ok, toFl_ok, listF_l]
    obtain ⟨I, hI⟩ : ∃ I : Nat → Sl → Prop, ∀ j ρ, I j ρ ↔ (∃ (rs : List (Int × List Int)) (u2 u3 u4 : Slot), ρ = [.sh (.int x), .own (rs.map ringD), u2, u3, u4] ∧ rs.length = j ∧ (∀ r ∈ rs, ROk r) ∧ lcms (lens rs) ≤ 6 ^ j) := ⟨_, fun _ _ => Iff.rfl⟩
    refine wp_rngL I ((hI _ _).mpr ⟨[], _, _, _, rfl, rfl, (fun _ h => absurd h List.not_mem_nil), by decide⟩) ?_ ?_
    · intro j ρ hj hr
      obtain ⟨rs, u2, u3, u4, rfl, hl, hro, hlc⟩ := (hI _ _).mp hr
      obtain ⟨v2, e2, v20, v21⟩ := pk x (2 + (j : Int)) 6 (by omega) (by omega) (by decide)
      obtain ⟨v6, e6, v60, v61⟩ := pk x (6 + (j : Int)) 9 (by omega) (by omega) (by decide)
      simp [-List.map_map, e2]
      rw [rng1 (sm62_of (by omega) (by omega))]
      simp only [bind_ok, seqOf_list, optL_some]
      generalize hc : compD _ (PyData.list (rngL 0 (1 + v2))) = r
      obtain ⟨ys, rfl, hyl, hq⟩ : ∃ ys, r = .ok (.list ys) ∧ ys.length = (rngL 0 (1 + v2)).length ∧ ∀ y ∈ ys, ∃ c : Int, y = .int c ∧ -1001 ≤ c ∧ c ≤ 1001 := by
        rw [← hc]
        refine compD_ex (by rw [rngL_len]; omega) fun d hd => ?_
        obtain ⟨i, hi0, hi1, rfl⟩ := rngL_mem hd
        obtain ⟨v8, e8, v80, v81⟩ := pk x (10 + 7 * (j : Int) + i) 9 (by omega) (by omega) (by decide)
        simp (disch := omega) [e8, mul_ok_l]
        omega
      obtain ⟨hs, rfl, hhs⟩ := lift_map hq
      rw [rngL_len, List.length_map] at hyl
      simp [-List.map_map, e6, guardF_lt (show rs.length < 16777216 by omega), Kf_eq]
      have rk : ROk (v6, hs) := ⟨⟨by show 1 ≤ hs.length; omega, by show hs.length ≤ 60; omega⟩, ⟨v60, by show v6 ≤ 1000; omega⟩, hhs⟩
      have hro' : ∀ r ∈ rs ++ [(v6, hs)], ROk r := fun r hr => by
        rcases List.mem_append.mp hr with hr | hr
        · exact hro r hr
        · rcases List.mem_singleton.mp hr with rfl
          exact rk
      refine (hI _ _).mpr ⟨rs ++ [(v6, hs)], _, _, _, by rw [List.map_append]; rfl, by simp [hl], hro', ?_⟩
      have e : lens (rs ++ [(v6, hs)]) = lens rs ++ [hs.length] := by unfold lens; simp
      rw [e, lcms_snoc]
      have h1 := lcm_le (a := lcms (lens rs)) (b := hs.length) (lcms_pos fun n hn => (lens_ok hro n hn).1) (by omega)
      have h2 : lcms (lens rs) * hs.length ≤ 6 ^ j * 6 := Nat.mul_le_mul hlc (by omega)
      rw [Nat.pow_succ]
      omega
    · intro ρ hr
      obtain ⟨rs, u2, u3, u4, rfl, hl, hro, hlc⟩ := (hI _ _).mp hr
      have hl3 : rs.length ≤ 3 := by omega
      have : 6 ^ (v1 - 0).toNat ≤ 6 ^ 3 := Nat.pow_le_pow_right (by decide) (by omega)
      simp [-List.map_map, Kf_eq, e5]
      exact (hP _).mpr ⟨v5 - 2, rs, rfl, by omega, hro, by omega, by omega, by omega⟩)
  obtain ⟨b, rs, rfl, h⟩ := (hP d).mp hd
  exact ⟨b, rs, e, h⟩
theorem two_sides_spec (Γ : Rf.Ctx) (pk : PkAt Γ 0) (x k : Int) (n : Nat) (hk : 0 ≤ k ∧ k ≤ 900) (hn : 1 ≤ n ∧ n ≤ 3) : ∃ a b : Int, run Γ .sh 4 bTwoSides [.int x, .int k, .int n] = .ok (.tuple [.int a, .int b]) ∧ (-1 ≤ a ∧ a < n) ∧ (-1 ≤ b ∧ b < n) ∧ a ≠ b := by
  obtain ⟨v1, e1, v10, v11⟩ := pk x k (n + 1) (by omega) (by omega) (by omega)
  obtain ⟨v2, e2, v20, v21⟩ := pk x (k + 1) n (by omega) (by omega) (by omega)
  refine ⟨v1 - 1, (v1 - 1 + 2 + v2) % (n + 1) - 1, run_eq ?_, by omega, ?_⟩
  · unfold bTwoSides
    simp (disch := omega) [-List.map_map, List.replicate, e1, e2, mod_ok]
  · have : n = 1 ∨ n = 2 ∨ n = 3 := by omega
    rcases this with rfl | rfl | rfl
    · omega
    · omega
    · omega
def pn (k : Nat) : Str := if k = 0 then "ponda" else if k = 1 then "pondb" else "pondc"
theorem pn_eq {k : Nat} (h : k < 3) : ∃ s : Str, idxD (.str "abc") (.int k) = .ok (.str s) ∧ binD .Add (.str "pond") (.str s) = .ok (.str (pn k)) := by
  have : k = 0 ∨ k = 1 ∨ k = 2 := by omega
  rcases this with rfl | rfl | rfl
  · exact ⟨"a", rfl, rfl⟩
  · exact ⟨"b", rfl, rfl⟩
  · exact ⟨"c", rfl, rfl⟩
structure Works (P : Int) (gates wheels : Nat) (ps : List MPond) (gs : List MGate) (ws : List MWheel) : Prop where
  some_ : 1 ≤ ps.length ∧ ps.length ≤ 3
  ponds : ∀ p ∈ ps, PondOk p ∧ p.area ≤ P ∧ p.rim ≤ p.bottom + P + 1
  names : ∀ k, k < ps.length → (nthA ps k).name = pn k
  glen : gs.length = gates
  gates : ∀ g ∈ gs, GateOk ps.length g
  wlen : ws.length = wheels
  wheels : ∀ w ∈ ws, WheelOk ps.length w
theorem nthA_app {α : Type} [Inhabited α] {l : List α} {x : α} {k : Nat} : nthA (l ++ [x]) k = if k = l.length then x else nthA l k := by
  unfold nthA
  simp only [List.getD_eq_getElem?_getD]
  by_cases c : k < l.length
  · rw [List.getElem?_append_left c, if_neg (by omega)]
  · by_cases c2 : k = l.length
    · subst c2
      rw [List.getElem?_append_right (Nat.le_refl _), if_pos rfl]
      simp
    · rw [List.getElem?_append_right (by omega), if_neg c2, List.getElem?_eq_none (by simp; omega), List.getElem?_eq_none (by omega)]
theorem works_spec (Γ Γt : Rf.Ctx) (pk : PkAt Γ 0) (k1 : ∀ ds, callD Γ 1 ds = run Γt .sh 4 bTwoSides (ds ++ [])) (pkt : PkAt Γt 0) (x P : Int) (g w : Nat) (hP : 1 ≤ P ∧ P ≤ 20) (hg : g ≤ 3) (hw : w ≤ 3) :
    ∃ ps gs ws, run Γ .sh 15 bWorksOf [.int x, .int P, .int g, .int w] = .ok (.tuple [.tuple (ps.map pondD), .tuple (gs.map gateD), .tuple (ws.map wheelD)]) ∧ Works P g w ps gs ws := by
  obtain ⟨Q, hQ⟩ : ∃ Q : D → Prop, ∀ d, Q d ↔ (∃ ps gs ws, d = .tuple [.tuple (ps.map pondD), .tuple (gs.map gateD), .tuple (ws.map wheelD)] ∧ Works P g w ps gs ws) := ⟨_, fun _ => Iff.rfl⟩
  obtain ⟨d, e, hd⟩ := run_wp (Γ := Γ) (fr := .sh) (s := bWorksOf) (kk := 15) (ds := [.int x, .int P, .int g, .int w]) (P := Q) (by
    unfold bWorksOf
    obtain ⟨v40, e40, v400, v401⟩ := pk x 40 6 (by decide) (by decide) (by decide)
    obtain ⟨d0, q0, n, rfl, n0, n1⟩ := idx_all (l := [.int 1, .int 1, .int 2, .int 2, .int 2, .int 3]) (q := v40) (fun d => ∃ n : Nat, d = .int n ∧ 1 ≤ n ∧ n ≤ 3) (by
      intro d hd
      simp at hd
      rcases hd with rfl | rfl | rfl
      · exact ⟨1, rfl, by omega, by omega⟩
      · exact ⟨2, rfl, by omega, by omega⟩
      · exact ⟨3, rfl, by omega, by omega⟩) v400 (by simpa using v401)
    simp [-List.map_map, List.replicate, exec_for, e40, q0]
    rw [rng1 (sm62_of (by omega) (by omega))]
    simp only [bind_ok, toFl_ok, listF_l]
    obtain ⟨I, hI⟩ : ∃ I : Nat → Sl → Prop, ∀ j ρ, I j ρ ↔ (∃ (ps : List MPond) (u6 u9 u10 : Slot), ρ = [.sh (.int x), .sh (.int P), .sh (.int g), .sh (.int w), .sh (.int n), .own (ps.map pondD), u6, .un, .un, u9, u10, .un, .un, .un, .un] ∧ ps.length = j ∧ (∀ p ∈ ps, PondOk p ∧ p.area ≤ P ∧ p.rim ≤ p.bottom + P + 1) ∧ ∀ k, k < ps.length → (nthA ps k).name = pn k) := ⟨_, fun _ _ => Iff.rfl⟩
    refine wp_rngL I ((hI _ _).mpr ⟨[], _, _, _, rfl, rfl, (fun _ h => absurd h List.not_mem_nil), fun k hk => absurd hk (Nat.not_lt_zero _)⟩) ?_ ?_
    · intro j ρ hj hr
      obtain ⟨ps, u6, u9, u10, rfl, hl, hps, hnm⟩ := (hI _ _).mp hr
      obtain ⟨v1, e1, v10, v11⟩ := pk x (41 + (j : Int)) 4 (by omega) (by omega) (by decide)
      obtain ⟨v2, e2, v20, v21⟩ := pk x (44 + (j : Int)) P (by omega) (by omega) (by omega)
      obtain ⟨v3, e3, v30, v31⟩ := pk x (47 + (j : Int)) (P + 1) (by omega) (by omega) (by omega)
      obtain ⟨s, es, ea⟩ := pn_eq (k := j) (by omega)
      simp [-List.map_map, e1, e2, e3, es, ea, guardF_lt (show ps.length < 16777216 by omega), Kf_eq]
      have pok : PondOk ⟨pn j, 1 + v2, v1 - 2, v1 - 2 + 1 + v3⟩ := ⟨by show 1 ≤ 1 + v2; omega, by show v1 - 2 < v1 - 2 + 1 + v3; omega, by show 1 + v2 ≤ _; omega, by show _ ≤ v1 - 2; omega, by show v1 - 2 + 1 + v3 ≤ _; omega⟩
      refine (hI _ _).mpr ⟨ps ++ [⟨pn j, 1 + v2, v1 - 2, v1 - 2 + 1 + v3⟩], _, _, _, by rw [List.map_append]; rfl, by simp [hl], fun p hp => ?_, fun k hk => ?_⟩
      · rcases List.mem_append.mp hp with hp | hp
        · exact hps p hp
        · rcases List.mem_singleton.mp hp with rfl
          exact ⟨pok, by show 1 + v2 ≤ P; omega, by show v1 - 2 + 1 + v3 ≤ v1 - 2 + P + 1; omega⟩
      · rw [nthA_app]
        split
        · rename_i c
          rw [c, hl]
        · rename_i c
          simp at hk
          exact hnm k (by omega)
    · intro ρ hr
      obtain ⟨ps, u6, u9, u10, rfl, hl, hps, hnm⟩ := (hI _ _).mp hr
      have hl : ps.length = n := by omega
      simp [-List.map_map, exec_for, Kf_eq]
      rw [rng1 (sm62_of (by omega) (by omega))]
      simp only [bind_ok, toFl_ok, listF_l]
      obtain ⟨J, hJ⟩ : ∃ J : Nat → Sl → Prop, ∀ j ρ, J j ρ ↔ (∃ (gs : List MGate) (u6 u11 : Slot), ρ = [.sh (.int x), .sh (.int P), .sh (.int g), .sh (.int w), .sh (.int n), .own (ps.map pondD), u6, .own (gs.map gateD), .un, u9, u10, u11, .un, .un, .un] ∧ gs.length = j ∧ ∀ q ∈ gs, GateOk ps.length q) := ⟨_, fun _ _ => Iff.rfl⟩
      refine wp_rngL J ((hJ _ _).mpr ⟨[], _, _, rfl, rfl, fun _ h => absurd h List.not_mem_nil⟩) ?_ ?_
      · intro j ρ hj hr
        obtain ⟨gs, u6, u11, rfl, hgl, hgs⟩ := (hJ _ _).mp hr
        obtain ⟨v1, e1, v10, v11⟩ := pk x (50 + (j : Int)) (3 * P) (by omega) (by omega) (by omega)
        obtain ⟨v2, e2, v20, v21⟩ := pk x (60 + (j : Int)) 5 (by omega) (by omega) (by omega)
        obtain ⟨a, b, e3, a0, b0, ne⟩ := two_sides_spec Γt pkt x (53 + 2 * (j : Int)) n (by omega) ⟨n0, n1⟩
        have e3 : callD Γ 1 [.int x, .int (53 + 2 * (j : Int)), .int n] = _ := (k1 _).trans e3
        have ad : binD .Add (.tuple [.int a, .int b]) (.tuple [.int (v2 - 3), .int (1 + v1)]) = .ok (gateD ⟨a, b, v2 - 3, 1 + v1⟩) := add_tup (by show 4 ≤ _; decide)
        simp (disch := omega) [-List.map_map, mul_ok_l, e1, e2, e3, ad, guardF_lt (show gs.length < 16777216 by omega), Kf_eq]
        have gok : GateOk ps.length ⟨a, b, v2 - 3, 1 + v1⟩ := ⟨⟨a0.1, by show a < _; omega⟩, ⟨b0.1, by show b < _; omega⟩, ne, by show 1 ≤ 1 + v1; omega, by show 1 + v1 ≤ _; omega, by show _ ≤ v2 - 3; omega, by show v2 - 3 ≤ _; omega⟩
        refine (hJ _ _).mpr ⟨gs ++ [⟨a, b, v2 - 3, 1 + v1⟩], _, _, by rw [List.map_append]; rfl, by simp [hgl], fun q hq => ?_⟩
        rcases List.mem_append.mp hq with hq | hq
        · exact hgs q hq
        · rcases List.mem_singleton.mp hq with rfl
          exact gok
      · intro ρ hr
        obtain ⟨gs, u6, u11, rfl, hgl, hgs⟩ := (hJ _ _).mp hr
        have hgl : gs.length = g := by omega
        simp [-List.map_map, exec_for, Kf_eq]
        rw [rng1 (sm62_of (by omega) (by omega))]
        simp only [bind_ok, toFl_ok, listF_l]
        obtain ⟨L, hL⟩ : ∃ L : Nat → Sl → Prop, ∀ j ρ, L j ρ ↔ (∃ (ws : List MWheel) (u6 u12 u13 u14 : Slot), ρ = [.sh (.int x), .sh (.int P), .sh (.int g), .sh (.int w), .sh (.int n), .own (ps.map pondD), u6, .own (gs.map gateD), .own (ws.map wheelD), u9, u10, u11, u12, u13, u14] ∧ ws.length = j ∧ ∀ q ∈ ws, WheelOk ps.length q) := ⟨_, fun _ _ => Iff.rfl⟩
        refine wp_rngL L ((hL _ _).mpr ⟨[], _, _, _, _, rfl, rfl, fun _ h => absurd h List.not_mem_nil⟩) ?_ ?_
        · intro j ρ hj hr
          obtain ⟨ws, u6, u12, u13, u14, rfl, hwl, hws⟩ := (hL _ _).mp hr
          obtain ⟨v1, e1, v10, v11⟩ := pk x (70 + (j : Int)) 3 (by omega) (by omega) (by omega)
          obtain ⟨v2, e2, v20, v21⟩ := pk x (73 + (j : Int)) 3 (by omega) (by omega) (by omega)
          obtain ⟨v3, e3, v30, v31⟩ := pk x (76 + (j : Int)) 4 (by omega) (by omega) (by omega)
          obtain ⟨a, b, e4, a0, b0, ne⟩ := two_sides_spec Γt pkt x (63 + 2 * (j : Int)) n (by omega) ⟨n0, n1⟩
          have e4 : callD Γ 1 [.int x, .int (63 + 2 * (j : Int)), .int n] = _ := (k1 _).trans e4
          have fin : ∀ a b : Int, 0 ≤ a → a < n → -1 ≤ b → b < n → a ≠ b → ∀ u12 u13 u14 : Slot, L (j + 1) [.sh (.int x), .sh (.int P), .sh (.int g), .sh (.int w), .sh (.int n), .own (ps.map pondD), .sh (.int j), .own (gs.map gateD), .own (ws.map wheelD ++ [.tuple [.int a, .int b, .int (1 + v1), .int (1 + v2), .int (1 + v3)]]), u9, u10, u11, u12, u13, u14] := fun a b h1 h2 h3 h4 h5 u12 u13 u14 => by
            have wok : WheelOk ps.length ⟨a, b, 1 + v1, 1 + v2, 1 + v3⟩ := ⟨⟨h1, by show a < _; omega⟩, ⟨h3, by show b < _; omega⟩, h5, by show 1 ≤ 1 + v1; omega, by show 1 ≤ 1 + v2; omega, by show 1 ≤ 1 + v3; omega, by show 1 + v1 ≤ _; omega, by show 1 + v2 ≤ _; omega, by show 1 + v3 ≤ _; omega⟩
            refine (hL _ _).mpr ⟨ws ++ [⟨a, b, 1 + v1, 1 + v2, 1 + v3⟩], _, _, _, _, by rw [List.map_append]; rfl, by simp [hwl], fun q hq => ?_⟩
            rcases List.mem_append.mp hq with hq | hq
            · exact hws q hq
            · rcases List.mem_singleton.mp hq with rfl
              exact wok
          simp (disch := omega) [-List.map_map, mul_ok_l, e4]
          by_cases c : a < 0
          · simp (disch := omega) [-List.map_map, c, e1, e2, e3, guardF_lt (show ws.length < 16777216 by omega), Kf_eq]
            exact fin b a (by omega) b0.2 a0.1 a0.2 (Ne.symm ne) _ _ _
          · simp (disch := omega) [-List.map_map, c, e1, e2, e3, guardF_lt (show ws.length < 16777216 by omega), Kf_eq]
            exact fin a b (by omega) a0.2 b0.1 b0.2 ne _ _ _
        · intro ρ hr
          obtain ⟨ws, u6, u12, u13, u14, rfl, hwl, hws⟩ := (hL _ _).mp hr
          simp [-List.map_map, Kf_eq]
          exact (hQ _).mpr ⟨ps, gs, ws, rfl, by omega, hps, hnm, hgl, hgs, by omega, hws⟩)
  obtain ⟨ps, gs, ws, rfl, h⟩ := (hQ d).mp hd
  exact ⟨ps, gs, ws, e, h⟩
theorem filled_spec (Γ Γh : Rf.Ctx) (pk : PkAt Γ 0) (k1 : ∀ ds, callD Γ 1 ds = run Γh .sh 1 bHolds (ds ++ [])) (x : Int) {ps : List MPond} (hl : ps.length ≤ 3) (h : ∀ p ∈ ps, PondOk p) :
    ∃ cs : List Int, run Γ .sh 3 bFilled [.tuple (ps.map pondD), .int x] = .ok (.tuple (cs.map .int)) ∧ cs.length = ps.length ∧ ∀ i, i < ps.length → 0 ≤ nth cs i ∧ nth cs i ≤ holdP (nthA ps i) := by
  have key : ∀ i : Nat, i < ps.length → ∃ v : Int, callD Γ 0 [.int x, .int (80 + (i : Int)), .int (holdP (nthA ps i) + 1)] = .ok (.int v) ∧ 0 ≤ v ∧ v ≤ holdP (nthA ps i) := fun i hi => by
    have hb := hold_bd (h _ (nthA_mem hi))
    obtain ⟨v, e, v0, v1⟩ := pk x (80 + (i : Int)) (holdP (nthA ps i) + 1) (by omega) (by omega) (by omega)
    exact ⟨v, e, v0, by omega⟩
  obtain ⟨f, hf⟩ : ∃ f : Nat → Int, ∀ i, i < ps.length → callD Γ 0 [.int x, .int (80 + (i : Int)), .int (holdP (nthA ps i) + 1)] = .ok (.int (f i)) ∧ 0 ≤ f i ∧ f i ≤ holdP (nthA ps i) :=
    ⟨fun i => if hi : i < ps.length then (key i hi).choose else 0, fun i hi => by simp only [dif_pos hi]; exact (key i hi).choose_spec⟩
  refine ⟨(List.range ps.length).map f, run_eq ?_, by simp, fun i hi => ?_⟩
  · unfold bFilled
    simp [-List.map_map, List.replicate]
    rw [rng1 (sm62_of (by omega) (by omega))]
    simp only [bind_ok, seqOf_list, optL_some]
    rw [compD_rng (fun i => .int (f i)) (by omega) fun i hi => by
      have hi : i < ps.length := by omega
      have ix := idxAT (g := pondD) (l := ps) (q := (i : Int)) (by omega) (by omega)
      rw [Int.toNat_natCast] at ix
      have e1 : callD Γ 1 [pondD (nthA ps i)] = _ := (k1 _).trans (holds_spec Γh (h _ (nthA_mem hi)))
      simp [-List.map_map, ix, e1, (hf i hi).1]]
    simp
  · have : nth ((List.range ps.length).map f) i = f i := nth_rng hi
    rw [this]
    exact (hf i hi).2
theorem truths_spec (Γ : Rf.Ctx) (pk : PkAt Γ 0) (x k : Int) (n : Nat) (hk : 0 ≤ k ∧ k ≤ 900) (hn : n ≤ 3) : ∃ bs : List Bool, run Γ .sh 4 bTruths [.int x, .int k, .int n] = .ok (.tuple (bs.map .bool)) ∧ bs.length = n := by
  have key : ∀ i : Nat, i < n → ∃ v : Int, callD Γ 0 [.int x, .int (k + (i : Int)), .int 2] = .ok (.int v) := fun i hi => by
    obtain ⟨v, e, v0, v1⟩ := pk x (k + (i : Int)) 2 (by omega) (by omega) (by omega)
    exact ⟨v, e⟩
  obtain ⟨f, hf⟩ : ∃ f : Nat → Int, ∀ i, i < n → callD Γ 0 [.int x, .int (k + (i : Int)), .int 2] = .ok (.int (f i)) :=
    ⟨fun i => if hi : i < n then (key i hi).choose else 0, fun i hi => by simp only [dif_pos hi]; exact (key i hi).choose_spec⟩
  refine ⟨(List.range n).map fun i => decide (f i = 1), run_eq ?_, by simp⟩
  unfold bTruths
  simp [-List.map_map, List.replicate]
  rw [rng1 (sm62_of (by omega) (by omega))]
  simp only [bind_ok, seqOf_list, optL_some]
  rw [compD_rng (fun i => .bool (decide (f i = 1))) (by omega) fun i hi => by
    simp [-List.map_map, hf i (by omega)]]
  simp
/-! ### the same water, rounds later -/
section
variable {m : Mill} {t t' : Int}
theorem lv_per (e : seaAt m.base m.rings t = seaAt m.base m.rings t') (cs : List Int) (s : Int) : lv m cs t s = lv m cs t' s := by unfold lv; rw [e]
theorem passO_per (e : seaAt m.base m.rings t = seaAt m.base m.rings t') (cs : List Int) (g : MGate) : passO m cs t g = passO m cs t' g := by
  unfold passO passT passB untilEven fo fl
  simp only [lv_per e, e]
theorem canO_per (e : seaAt m.base m.rings t = seaAt m.base m.rings t') (cs : List Int) (w : MWheel) : canO m cs t w = canO m cs t' w := by
  unfold canO fo fl
  simp only [lv_per e]
theorem gatesO_per (e : seaAt m.base m.rings t = seaAt m.base m.rings t') {st : List Bool} {p : List Int × List Row} : ∀ n, gatesO m t st p n = gatesO m t' st p n
  | 0 => rfl
  | n + 1 => by
    show gateStep m t st n (gatesO m t st p n) = gateStep m t' st n (gatesO m t' st p n)
    rw [gatesO_per e n]
    unfold gateStep
    rw [passO_per e]
theorem wheelsO_per (e : seaAt m.base m.rings t = seaAt m.base m.rings t') {rn : List Bool} {p : Done} : ∀ n, wheelsO m t rn p n = wheelsO m t' rn p n
  | 0 => rfl
  | n + 1 => by
    show wheelStep m t rn n (wheelsO m t rn p n) = wheelStep m t' rn n (wheelsO m t' rn p n)
    rw [wheelsO_per e n]
    unfold wheelStep
    rw [canO_per e]
theorem turnO_per (e : seaAt m.base m.rings t = seaAt m.base m.rings t') {cs : List Int} {st rn : List Bool} : turnO m cs t st rn = turnO m cs t' st rn := by
  unfold turnO
  rw [gatesO_per e, wheelsO_per e]
end
theorem runO_per {m : Mill} : ∀ {plan : List (List Bool × List Bool)} {cs : List Int} {t t' : Int}, (∀ j : Nat, seaAt m.base m.rings (t + j) = seaAt m.base m.rings (t' + j)) → runO m t cs plan = runO m t' cs plan
  | [], _, _, _, _ => rfl
  | (st, rn) :: r, cs, t, t', e => by
    have e0 := e 0
    rw [show t + ((0 : Nat) : Int) = t by omega, show t' + ((0 : Nat) : Int) = t' by omega] at e0
    show turnO m cs t st rn :: runO m (t + 1) (turnO m cs t st rn).1 r = turnO m cs t' st rn :: runO m (t' + 1) (turnO m cs t' st rn).1 r
    have e1 : ∀ j : Nat, seaAt m.base m.rings (t + 1 + j) = seaAt m.base m.rings (t' + 1 + j) := fun j => by
      have := e (j + 1)
      rw [show t + 1 + (j : Int) = t + ((j + 1 : Nat) : Int) by omega, show t' + 1 + (j : Int) = t' + ((j + 1 : Nat) : Int) by omega]
      exact this
    rw [turnO_per e0, runO_per e1]
/-- what the run tells of a turn is what the turn tells -/
def hereO (m : Mill) (t : Int) (cs : List Int) (plan : List (List Bool × List Bool)) : Nat → List Int
  | 0 => cs
  | j + 1 => match (runO m t cs plan)[j]? with
    | some x => x.1
    | none => cs
theorem runO_at {m : Mill} : ∀ {plan : List (List Bool × List Bool)} {cs : List Int} {t : Int} {j : Nat} {x : Done}, (runO m t cs plan)[j]? = some x → ∃ p, plan[j]? = some p ∧ x = turnO m (hereO m t cs plan j) (t + j) p.1 p.2
  | [], _, _, _, _, e => by cases e
  | (st, rn) :: r, cs, t, 0, x, e => by
    cases e
    refine ⟨_, rfl, ?_⟩
    show _ = turnO m cs (t + ((0 : Nat) : Int)) st rn
    rw [show t + ((0 : Nat) : Int) = t by omega]
  | (st, rn) :: r, cs, t, j + 1, x, e => by
    have e : (runO m (t + 1) (turnO m cs t st rn).1 r)[j]? = some x := e
    obtain ⟨p, h1, h2⟩ := runO_at e
    refine ⟨p, h1, ?_⟩
    rw [h2, show t + 1 + (j : Int) = t + ((j + 1 : Nat) : Int) by omega]
    congr 1
    cases j with
    | zero => rfl
    | succ j =>
      show (match (runO m (t + 1) (turnO m cs t st rn).1 r)[j]? with
        | some x => x.1
        | none => (turnO m cs t st rn).1) = (match (runO m (t + 1) (turnO m cs t st rn).1 r)[j]? with
        | some x => x.1
        | none => cs)
      have hl := (List.getElem?_eq_some_iff.mp e).1
      rw [List.getElem?_eq_getElem (by omega)]
/-! ### from the sea -/
theorem from_sea_spec (Γ : Rf.Ctx) {m : Mill} {cs ks : List Int} {rs : List Row} (h : m.Ok) (hl : cs.length = m.ponds.length) (hr : ∀ r ∈ rs, RowOk m r) (he : ks = rowsL m cs rs) : run Γ .sh 9 bFromSea [m.d, logD rs] = .ok (.int (ks.sum - cs.sum)) := by
  subst he
  refine run_eq ?_
  unfold bFromSea
  simp [-List.map_map, List.replicate, exec_for, logD]
  obtain ⟨I, hI⟩ : ∃ I : Nat → Sl → Prop, ∀ j ρ, I j ρ ↔ (∃ (s : Int) (u3 u4 u5 u6 u7 u8 : Slot) (now : List Int), ρ = [.sh m.d, .sh (.list (rs.map rowD)), .sh (.int s), u3, u4, u5, u6, u7, u8] ∧ rowsL m now (rs.drop j) = rowsL m cs rs ∧ now.sum = cs.sum + s ∧ now.length = m.ponds.length) := ⟨_, fun _ _ => Iff.rfl⟩
  refine wp_forL I ((hI _ _).mpr ⟨0, _, _, _, _, _, _, cs, rfl, rfl, by omega, hl⟩) ?_ ?_
  · intro i d ρ hd hq
    obtain ⟨s, u3, u4, u5, u6, u7, u8, now, rfl, e1, e2, e3⟩ := (hI _ _).mp hq
    rw [List.getElem?_map] at hd
    cases q2 : rs[i]? with
    | none => rw [q2] at hd; cases hd
    | some r =>
      rw [q2] at hd
      cases hd
      have hi : i < rs.length := (List.getElem?_eq_some_iff.mp q2).1
      have rk := hr r (List.mem_of_getElem? q2)
      rw [List.drop_eq_getElem_cons hi, (List.getElem?_eq_some_iff.mp q2).2] at e1
      have e1 : rowsL m (shL now (giv m r) (tak m r) (buc m r)) (rs.drop (i + 1)) = _ := e1
      have ss := sum_shL (n := buc m r) e3 rk.giv rk.tak
      have b := rk.buc
      have g0 := rk.giv.lo
      have t0 := rk.tak.lo
      have hne := rk.ne
      refine ⟨_, rfl, ?_⟩
      have tail : ∀ u7 u8 : Slot, Kf Γ .sh (.seq (.asg 2 (.bin .Add (.var 2) (.bin .Mult (.var 6) (.bin .Sub (.blt .int (.cons (.cmp .Lt (.var 4) (.cst (.int 0))) .nil)) (.blt .int (.cons (.cmp .Lt (.var 5) (.cst (.int 0))) .nil)))))) .nil) (I (i + 1)) (I (i + 1)) (Kf Γ .sh (.seq (.ret (.var 2)) .nil) No No No fun z => z = .int ((rowsL m cs rs).sum - cs.sum)) (fun z => z = .int ((rowsL m cs rs).sum - cs.sum))
          [.sh m.d, .sh (.list (rs.map rowD)), .sh (.int s), .sh (rowD r), .sh (.int (giv m r)), .sh (.int (tak m r)), .sh (.int (buc m r)), u7, u8] := fun u7 u8 => by
        by_cases c1 : giv m r = -1
        · have c2 : ¬ tak m r < 0 := by omega
          have c1' : giv m r < 0 := by omega
          rw [if_pos c1, if_neg (by omega)] at ss
          simp (disch := omega) [-List.map_map, c1', c2, mul_ok_l, Kf_eq]
          exact (hI _ _).mpr ⟨s + buc m r, _, _, _, _, _, _, _, rfl, e1, by omega, by rw [shL_len]; exact e3⟩
        · have c1' : ¬ giv m r < 0 := by omega
          by_cases c2 : tak m r = -1
          · have c2' : tak m r < 0 := by omega
            rw [if_neg c1, if_pos c2] at ss
            simp (disch := omega) [-List.map_map, c1', c2', mul_ok_l, Kf_eq]
            exact (hI _ _).mpr ⟨s + -buc m r, _, _, _, _, _, _, _, rfl, e1, by omega, by rw [shL_len]; exact e3⟩
          · have c2' : ¬ tak m r < 0 := by omega
            rw [if_neg c1, if_neg c2] at ss
            simp (disch := omega) [-List.map_map, c1', c2', mul_ok_l, Kf_eq]
            exact (hI _ _).mpr ⟨s, _, _, _, _, _, _, _, rfl, e1, by omega, by rw [shL_len]; exact e3⟩
      cases r with
      | gate g a b2 c =>
        have cd : cutD [.str "gate", .int g, .int a, .int b2, .int c] (some 2) none = [.int a, .int b2, .int c] := by
          rw [show (2 : Int) = ((2 : Nat) : Int) from rfl, cut_drop]; rfl
        simp [-List.map_map, rowD, cd]
        exact tail _ _
      | wheel w =>
        have hw : w < m.wheels.length := rk.in_
        have ix := idxAT (g := wheelD) (l := m.wheels) (q := (w : Int)) (by omega) (by omega)
        rw [Int.toNat_natCast] at ix
        have ne : ¬ (("wheel" : Str) = "gate") := by decide
        simp [-List.map_map, rowD, ne, mill_wheels, ix, wheelD]
        exact tail _ _
  · intro ρ hq
    obtain ⟨s, u3, u4, u5, u6, u7, u8, now, rfl, e1, e2, e3⟩ := (hI _ _).mp hq
    rw [List.length_map, List.drop_length] at e1
    have e1 : now = _ := e1
    simp [-List.map_map, Kf_eq, ← e1]
    omega
end Rf

/-! Rf: reflection. Part ZM: the mills of laws k04 and k06. -/
namespace Rf
open PySem L2
def bNameM : S :=
  (.seq (.ifs (.cmp .Eq (.call false 0 (.cons (.var 0) (.cons (.cst (.int 90)) (.cons (.cst (.int 4)) .nil)))) (.cst (.int 0))) (.seq (.ret (.idx (.lst (.cons (.cst (.str "tide")) (.cons (.cst (.str "ring")) (.cons (.cst (.str "pond")) (.cons (.cst (.str "gate")) (.cons (.cst (.str "wheel")) (.cons (.cst (.str "o")) (.cons (.cst (.str "s")) (.cons (.cst (.str "seas")) .nil))))))))) (.bin .Mod (.bin .Add (.call false 0 (.cons (.var 0) (.cons (.cst (.int 91)) (.cons (.cst (.int 8)) .nil)))) (.bin .Mult (.cst (.int 3)) (.var 1))) (.cst (.int 8))))) .nil) .nil) (.seq (.asg 2 (.cst (.str "abcdefghijklmnopqrstuvwxyz"))) (.seq (.asg 3 (.idx (.lst (.cons (.cst (.int 1)) (.cons (.cst (.int 2)) (.cons (.cst (.int 5)) (.cons (.cst (.int 8)) .nil))))) (.call false 0 (.cons (.var 0) (.cons (.cst (.int 92)) (.cons (.cst (.int 4)) .nil)))))) (.seq (.asg 4 (.mth .join (.cst (.str "")) (.comp (.idx (.var 2) (.call false 0 (.cons (.var 0) (.cons (.bin .Add (.cst (.int 93)) (.var 6)) (.cons (.cst (.int 26)) .nil))))) (.one 6) (.irng (.cons (.cst (.int 8)) .nil)) [6]))) (.seq (.ifs (.cmp .Eq (.call false 0 (.cons (.var 0) (.cons (.cst (.int 103)) (.cons (.cst (.int 4)) .nil)))) (.cst (.int 0))) (.seq (.ret (.sl false (.var 4) .non (.bin .Add (.cst (.int 4)) (.var 1)))) .nil) .nil) (.seq (.asg 4 (.sl false (.var 4) .non (.var 3))) (.seq (.asg 5 (.call false 0 (.cons (.var 0) (.cons (.cst (.int 101)) (.cons (.var 3) .nil))))) (.seq (.ret (.bin .Add (.bin .Add (.sl false (.var 4) .non (.var 5)) (.idx (.var 2) (.bin .Mod (.bin .Add (.call false 0 (.cons (.var 0) (.cons (.cst (.int 102)) (.cons (.cst (.int 26)) .nil)))) (.bin .Mult (.cst (.int 7)) (.var 1))) (.cst (.int 26))))) (.sl false (.var 4) (.bin .Add (.var 5) (.cst (.int 1))) .non))) .nil))))))))
def bPondsM : S :=
  (.seq (.asg 1 (.lst .nil)) (.seq (.fr (.one 2) (.irng (.cons (.bin .Add (.cst (.int 1)) (.call false 0 (.cons (.var 0) (.cons (.cst (.int 110)) (.cons (.cst (.int 3)) .nil))))) .nil)) (.seq (.asg 3 (.lst (.cons (.cst (.int 1)) (.cons (.cst (.int 100)) (.cons (.bin .Add (.cst (.int 1)) (.call false 0 (.cons (.var 0) (.cons (.bin .Add (.cst (.int 111)) (.var 2)) (.cons (.cst (.int 100)) .nil))))) (.cons (.bin .Add (.cst (.int 1)) (.call false 0 (.cons (.var 0) (.cons (.bin .Add (.cst (.int 111)) (.var 2)) (.cons (.cst (.int 5)) .nil))))) .nil)))))) (.seq (.asg 4 (.idx (.var 3) (.call false 0 (.cons (.var 0) (.cons (.bin .Add (.cst (.int 114)) (.var 2)) (.cons (.cst (.int 4)) .nil)))))) (.seq (.asg 3 (.lst (.cons (.neg (.cst (.int 1000))) (.cons (.cst (.int 999)) (.cons (.bin .Sub (.call false 0 (.cons (.var 0) (.cons (.bin .Add (.cst (.int 117)) (.var 2)) (.cons (.cst (.int 1999)) .nil)))) (.cst (.int 1000))) (.cons (.bin .Sub (.cst (.int 0)) (.call false 0 (.cons (.var 0) (.cons (.bin .Add (.cst (.int 117)) (.var 2)) (.cons (.cst (.int 5)) .nil))))) .nil)))))) (.seq (.asg 5 (.idx (.var 3) (.call false 0 (.cons (.var 0) (.cons (.bin .Add (.cst (.int 120)) (.var 2)) (.cons (.cst (.int 4)) .nil)))))) (.seq (.asg 3 (.lst (.cons (.cst (.int 1000)) (.cons (.bin .Add (.var 5) (.cst (.int 1))) (.cons (.bin .Add (.bin .Add (.var 5) (.cst (.int 1))) (.call false 0 (.cons (.var 0) (.cons (.bin .Add (.cst (.int 123)) (.var 2)) (.cons (.bin .Sub (.cst (.int 1000)) (.var 5)) .nil))))) .nil))))) (.seq (.app 1 (.tup (.cons (.call false 1 (.cons (.var 0) (.cons (.var 2) .nil))) (.cons (.var 4) (.cons (.var 5) (.cons (.idx (.var 3) (.call false 0 (.cons (.var 0) (.cons (.bin .Add (.cst (.int 126)) (.var 2)) (.cons (.cst (.int 3)) .nil))))) .nil)))))) .nil))))))) (.seq (.ret (.blt .tuple (.cons (.var 1) .nil))) .nil)))
def bGatesM : S :=
  (.seq (.asg 2 (.lst .nil)) (.seq (.fr (.one 3) (.irng (.cons (.call false 0 (.cons (.var 0) (.cons (.cst (.int 130)) (.cons (.cst (.int 4)) .nil)))) .nil)) (.seq (.asg 4 (.lst (.cons (.neg (.cst (.int 1000))) (.cons (.cst (.int 1000)) (.cons (.bin .Sub (.call false 0 (.cons (.var 0) (.cons (.bin .Add (.cst (.int 131)) (.var 3)) (.cons (.cst (.int 2001)) .nil)))) (.cst (.int 1000))) (.cons (.cst (.int 0)) .nil)))))) (.seq (.asg 5 (.idx (.var 4) (.call false 0 (.cons (.var 0) (.cons (.bin .Add (.cst (.int 134)) (.var 3)) (.cons (.cst (.int 4)) .nil)))))) (.seq (.asg 4 (.lst (.cons (.cst (.int 1)) (.cons (.cst (.int 1000)) (.cons (.bin .Add (.cst (.int 1)) (.call false 0 (.cons (.var 0) (.cons (.bin .Add (.cst (.int 137)) (.var 3)) (.cons (.cst (.int 1000)) .nil))))) (.cons (.bin .Add (.cst (.int 1)) (.call false 0 (.cons (.var 0) (.cons (.bin .Add (.cst (.int 137)) (.var 3)) (.cons (.cst (.int 9)) .nil))))) .nil)))))) (.seq (.app 2 (.bin .Add (.call false 1 (.cons (.var 0) (.cons (.bin .Add (.cst (.int 143)) (.bin .Mult (.cst (.int 2)) (.var 3))) (.cons (.var 1) .nil)))) (.tup (.cons (.var 5) (.cons (.idx (.var 4) (.call false 0 (.cons (.var 0) (.cons (.bin .Add (.cst (.int 140)) (.var 3)) (.cons (.cst (.int 4)) .nil))))) .nil))))) .nil))))) (.seq (.ret (.blt .tuple (.cons (.var 2) .nil))) .nil)))
def bWheelsM : S :=
  (.seq (.asg 2 (.lst .nil)) (.seq (.fr (.one 3) (.irng (.cons (.call false 0 (.cons (.var 0) (.cons (.cst (.int 150)) (.cons (.cst (.int 4)) .nil)))) .nil)) (.seq (.unp [4, 5] (.call false 1 (.cons (.var 0) (.cons (.bin .Add (.cst (.int 151)) (.bin .Mult (.cst (.int 2)) (.var 3))) (.cons (.var 1) .nil))))) (.seq (.ifs (.cmp .Lt (.var 4) (.cst (.int 0))) (.seq (.par 4 5 (.var 5) (.var 4)) .nil) .nil) (.seq (.asg 6 (.idx (.lst (.cons (.cst (.int 1)) (.cons (.cst (.int 2000)) (.cons (.bin .Add (.cst (.int 1)) (.call false 0 (.cons (.var 0) (.cons (.bin .Add (.cst (.int 157)) (.var 3)) (.cons (.cst (.int 2000)) .nil))))) .nil)))) (.call false 0 (.cons (.var 0) (.cons (.bin .Add (.cst (.int 160)) (.var 3)) (.cons (.cst (.int 3)) .nil)))))) (.seq (.asg 7 (.idx (.lst (.cons (.cst (.int 1)) (.cons (.cst (.int 1000)) (.cons (.bin .Add (.cst (.int 1)) (.call false 0 (.cons (.var 0) (.cons (.bin .Add (.cst (.int 163)) (.var 3)) (.cons (.cst (.int 1000)) .nil))))) .nil)))) (.call false 0 (.cons (.var 0) (.cons (.bin .Add (.cst (.int 166)) (.var 3)) (.cons (.cst (.int 3)) .nil)))))) (.seq (.asg 8 (.idx (.lst (.cons (.cst (.int 1)) (.cons (.cst (.int 1000)) (.cons (.bin .Add (.cst (.int 1)) (.call false 0 (.cons (.var 0) (.cons (.bin .Add (.cst (.int 169)) (.var 3)) (.cons (.cst (.int 1000)) .nil))))) .nil)))) (.call false 0 (.cons (.var 0) (.cons (.bin .Add (.cst (.int 172)) (.var 3)) (.cons (.cst (.int 3)) .nil)))))) (.seq (.app 2 (.tup (.cons (.var 4) (.cons (.var 5) (.cons (.var 6) (.cons (.var 7) (.cons (.var 8) .nil))))))) .nil))))))) (.seq (.ret (.blt .tuple (.cons (.var 2) .nil))) .nil)))
def bMillM : S :=
  (.seq (.asg 1 (.call false 0 (.cons (.comp (.call false 1 (.cons (.var 0) (.cons (.var 4) .nil))) (.one 4) (.irng (.cons (.cst (.int 4)) .nil)) [4]) .nil))) (.seq (.asg 2 (.call false 2 (.cons (.call false 1 (.cons (.var 0) (.cons (.cst (.int 4)) .nil))) .nil))) (.seq (.asg 3 (.call false 3 (.cons (.call false 1 (.cons (.var 0) (.cons (.cst (.int 5)) .nil))) (.cons (.blt .len (.cons (.var 2) .nil)) .nil)))) (.seq (.ret (.tup (.cons (.var 1) (.cons (.var 2) (.cons (.var 3) (.cons (.call false 4 (.cons (.call false 1 (.cons (.var 0) (.cons (.cst (.int 6)) .nil))) (.cons (.blt .len (.cons (.var 2) .nil)) .nil))) .nil)))))) .nil))))

theorem idx_bd {l : List Int} {q lo hi : Int} (h : ∀ x ∈ l, lo ≤ x ∧ x ≤ hi) (h0 : 0 ≤ q) (h1 : q < l.length) : ∃ v : Int, idxD (.list (l.map .int)) (.int q) = .ok (.int v) ∧ lo ≤ v ∧ v ≤ hi :=
  ⟨_, idx_ints h0 h1, h _ (nth_mem (by omega))⟩
theorem add_strs {a b : Str} (h : a.length + b.length ≤ 16777216) : binD .Add (.str a) (.str b) = .ok (.str (a ++ b)) := by
  show guard' (decide (a.length + b.length ≤ lim)) _ = _
  rw [show decide (a.length + b.length ≤ lim) = true from decide_eq_true h]; rfl
theorem name_specM (Γ : Rf.Ctx) (pk : PkAt Γ 0) (x : Int) (k : Nat) (hk : k ≤ 3) : ∃ s : Str, run Γ .sh 7 bNameM [.int x, .int k] = .ok (.str s) := by
  obtain ⟨P, hP⟩ : ∃ P : D → Prop, ∀ d, P d ↔ (∃ s : Str, d = .str s) := ⟨_, fun _ => Iff.rfl⟩
  obtain ⟨d, e, hd⟩ := run_wp (Γ := Γ) (fr := .sh) (s := bNameM) (kk := 7) (ds := [.int x, .int k]) (P := P) (by
    unfold bNameM
    obtain ⟨v90, e90, v900, v901⟩ := pk x 90 4 (by decide) (by decide) (by decide)
    by_cases c0 : v90 = 0
    · obtain ⟨v91, e91, v910, v911⟩ := pk x 91 8 (by decide) (by decide) (by decide)
      obtain ⟨d0, q0, s, rfl⟩ := idx_all (l := [.str "tide", .str "ring", .str "pond", .str "gate", .str "wheel", .str "o", .str "s", .str "seas"]) (q := (v91 + 3 * (k : Int)) % 8) (fun d => ∃ s : Str, d = .str s) (by
        intro d hd
        simp at hd
        rcases hd with rfl | rfl | rfl | rfl | rfl | rfl | rfl | rfl <;> exact ⟨_, rfl⟩) (by omega) (by simp; omega)
      simp (disch := omega) [-List.map_map, List.replicate, e90, c0, e91, mul_ok_l, mod_ok, q0]
      exact (hP _).mpr ⟨s, rfl⟩
    · obtain ⟨v92, e92, v920, v921⟩ := pk x 92 4 (by decide) (by decide) (by decide)
      obtain ⟨sz, q1, s0, s1⟩ := idx_bd (l := [1, 2, 5, 8]) (q := v92) (lo := 1) (hi := 8) (by
        intro y hy
        simp at hy
        rcases hy with rfl | rfl | rfl | rfl <;> omega) v920 (by simpa using v921)
      have q1 : idxD (.list [.int 1, .int 2, .int 5, .int 8]) (.int v92) = .ok (.int sz) := q1
      obtain ⟨v103, e103, v1030, v1031⟩ := pk x 103 4 (by decide) (by decide) (by decide)
      obtain ⟨v101, e101, v1010, v1011⟩ := pk x 101 sz (by decide) (by decide) (by omega)
      obtain ⟨v102, e102, v1020, v1021⟩ := pk x 102 26 (by decide) (by decide) (by decide)
      have lt : ∀ i : Int, 0 ≤ i → i < 26 → ∃ c : Nat, idxD (.str "abcdefghijklmnopqrstuvwxyz") (.int i) = .ok (.str ⟨#[c]⟩) := fun i h0 h1 => idx_str (by decide +kernel) h0 (by
        rw [show ("abcdefghijklmnopqrstuvwxyz" : Str).cps.toList.length = 26 by decide +kernel]; exact h1)
      simp (disch := omega) [-List.map_map, List.replicate, e90, c0, Kf_eq, e92, q1]
      rw [rng1 (sm62_of (by omega) (by omega))]
      simp only [bind_ok, seqOf_list, optL_some]
      generalize hc : compD _ (PyData.list (rngL 0 8)) = r
      obtain ⟨ys, rfl, hyl, hq⟩ : ∃ ys, r = .ok (.list ys) ∧ ys.length = (rngL 0 8).length ∧ ∀ y ∈ ys, ∃ c : Nat, y = .str ⟨#[c]⟩ := by
        rw [← hc]
        refine compD_ex (by rw [rngL_len]; omega) fun d hd => ?_
        obtain ⟨i, hi0, hi1, rfl⟩ := rngL_mem hd
        obtain ⟨v8, e8, v80, v81⟩ := pk x (93 + i) 26 (by omega) (by omega) (by decide)
        obtain ⟨c, ec⟩ := lt v8 v80 v81
        simp (disch := omega) [e8, ec]
      obtain ⟨w, ew, wl⟩ := join_one hq (by rw [hyl, rngL_len]; decide)
      have wl : w.length = 8 := by rw [wl, hyl, rngL_len]; rfl
      have rj : ∀ (a : Str) (r : Res D), guard' (rcv .join (.str a)) r = r := fun _ _ => rfl
      have cw : ∀ lo hi : Option Int, slD false (.str w) lo hi = .ok (.str (cutS w lo hi)) := fun lo hi => cut_str (by omega)
      simp (disch := omega) [-List.map_map, ew, rj, e103]
      by_cases c1 : v103 = 0
      · simp (disch := omega) [-List.map_map, c1, cw]
        exact (hP _).mpr ⟨_, rfl⟩
      · have l1 : (cutS w none (some sz)).length ≤ 8 := by have := cutS_le (z := w) (lo := none) (hi := some sz); omega
        obtain ⟨c, ec⟩ := lt ((v102 + 7 * (k : Int)) % 26) (by omega) (by omega)
        simp (disch := omega) [-List.map_map, c1, cw, Kf_eq, e101, e102, mul_ok_l, mod_ok, ec]
        generalize cutS w none (some sz) = w2 at *
        have cw2 : ∀ lo hi : Option Int, slD false (.str w2) lo hi = .ok (.str (cutS w2 lo hi)) := fun lo hi => cut_str (by omega)
        have l2 := cutS_le (z := w2) (lo := none) (hi := some v101)
        have l3 := cutS_le (z := w2) (lo := some (v101 + 1)) (hi := none)
        simp (disch := omega) [-List.map_map, cw2]
        generalize cutS w2 none (some v101) = a at *
        generalize cutS w2 (some (v101 + 1)) none = b at *
        have lc : (⟨#[c]⟩ : Str).length = 1 := rfl
        have a1 : binD .Add (.str a) (.str ⟨#[c]⟩) = .ok (.str (a ++ ⟨#[c]⟩)) := add_strs (by rw [lc]; omega)
        have a2 : binD .Add (.str (a ++ ⟨#[c]⟩)) (.str b) = .ok (.str (a ++ ⟨#[c]⟩ ++ b)) := add_strs (by rw [app_len, lc]; omega)
        simp [a1, a2]
        exact (hP _).mpr ⟨_, rfl⟩)
  obtain ⟨s, rfl⟩ := (hP d).mp hd
  exact ⟨s, e⟩
structure PondB (p : MPond) : Prop where
  ok : PondOk p
  area : p.area ≤ 100
  lo : -1000 ≤ p.bottom
  hi : p.rim ≤ 1000
theorem ponds_specM (Γ Γn : Rf.Ctx) (pk : PkAt Γ 0) (k1 : ∀ ds, callD Γ 1 ds = run Γn .sh 7 bNameM (ds ++ [])) (pkn : PkAt Γn 0) (x : Int) : ∃ ps : List MPond, run Γ .sh 6 bPondsM [.int x] = .ok (.tuple (ps.map pondD)) ∧ (1 ≤ ps.length ∧ ps.length ≤ 3) ∧ ∀ p ∈ ps, PondB p := by
  obtain ⟨P, hP⟩ : ∃ P : D → Prop, ∀ d, P d ↔ (∃ ps : List MPond, d = .tuple (ps.map pondD) ∧ (1 ≤ ps.length ∧ ps.length ≤ 3) ∧ ∀ p ∈ ps, PondB p) := ⟨_, fun _ => Iff.rfl⟩
  obtain ⟨d, e, hd⟩ := run_wp (Γ := Γ) (fr := .sh) (s := bPondsM) (kk := 6) (ds := [.int x]) (P := P) (by
    unfold bPondsM
    obtain ⟨v0, e0, v00, v01⟩ := pk x 110 3 (by decide) (by decide) (by decide)
    simp [-List.map_map, List.replicate, exec_for, e0]
    rw [rng1 (sm62_of (by omega) (by omega))]
    simp only [bind_ok, toFl_ok, listF_l]
    obtain ⟨I, hI⟩ : ∃ I : Nat → Sl → Prop, ∀ j ρ, I j ρ ↔ (∃ (ps : List MPond) (u2 u3 u4 u5 : Slot), ρ = [.sh (.int x), .own (ps.map pondD), u2, u3, u4, u5] ∧ ps.length = j ∧ ∀ p ∈ ps, PondB p) := ⟨_, fun _ _ => Iff.rfl⟩
    refine wp_rngL I ((hI _ _).mpr ⟨[], _, _, _, _, rfl, rfl, fun _ h => absurd h List.not_mem_nil⟩) ?_ ?_
    · intro j ρ hj hr
      obtain ⟨ps, u2, u3, u4, u5, rfl, hl, hps⟩ := (hI _ _).mp hr
      obtain ⟨v1, e1, v10, v11⟩ := pk x (111 + (j : Int)) 100 (by omega) (by omega) (by decide)
      obtain ⟨v2, e2, v20, v21⟩ := pk x (111 + (j : Int)) 5 (by omega) (by omega) (by decide)
      obtain ⟨v3, e3, v30, v31⟩ := pk x (114 + (j : Int)) 4 (by omega) (by omega) (by decide)
      obtain ⟨v4, e4, v40, v41⟩ := pk x (117 + (j : Int)) 1999 (by omega) (by omega) (by decide)
      obtain ⟨v5, e5, v50, v51⟩ := pk x (117 + (j : Int)) 5 (by omega) (by omega) (by decide)
      obtain ⟨v6, e6, v60, v61⟩ := pk x (120 + (j : Int)) 4 (by omega) (by omega) (by decide)
      obtain ⟨A, qA, A0, A1⟩ := idx_bd (l := [1, 100, 1 + v1, 1 + v2]) (q := v3) (lo := 1) (hi := 100) (by
        intro y hy
        simp at hy
        rcases hy with rfl | rfl | rfl | rfl <;> omega) v30 (by simpa using v31)
      have qA : idxD (.list [.int 1, .int 100, .int (1 + v1), .int (1 + v2)]) (.int v3) = .ok (.int A) := qA
      obtain ⟨B, qB, B0, B1⟩ := idx_bd (l := [-1000, 999, v4 - 1000, 0 - v5]) (q := v6) (lo := -1000) (hi := 999) (by
        intro y hy
        simp at hy
        rcases hy with rfl | rfl | rfl | rfl <;> omega) v60 (by simpa using v61)
      have qB : idxD (.list [.int (-1000), .int 999, .int (v4 - 1000), .int (0 - v5)]) (.int v6) = .ok (.int B) := qB
      have qB' : idxD (.list [.int (-1000), .int 999, .int (v4 - 1000), .int (-v5)]) (.int v6) = .ok (.int B) := by rw [← qB]; simp
      obtain ⟨v7, e7, v70, v71⟩ := pk x (123 + (j : Int)) (1000 - B) (by omega) (by omega) (by omega)
      obtain ⟨v8, e8, v80, v81⟩ := pk x (126 + (j : Int)) 3 (by omega) (by omega) (by decide)
      obtain ⟨R, qR, R0, R1⟩ := idx_bd (l := [1000, B + 1, B + 1 + v7]) (q := v8) (lo := B + 1) (hi := 1000) (by
        intro y hy
        simp at hy
        rcases hy with rfl | rfl | rfl <;> omega) v80 (by simpa using v81)
      have qR : idxD (.list [.int 1000, .int (B + 1), .int (B + 1 + v7)]) (.int v8) = .ok (.int R) := qR
      obtain ⟨nm, en⟩ := name_specM Γn pkn x j (by omega)
      have en : callD Γ 1 [.int x, .int j] = _ := (k1 _).trans en
      simp [-List.map_map, e1, e2, e3, qA, e4, e5, e6, qB, qB', e7, en, e8, qR, guardF_lt (show ps.length < 16777216 by omega), Kf_eq]
      have pb : PondB ⟨nm, A, B, R⟩ := ⟨⟨A0, by show B < R; omega, by show A ≤ _; omega, by show _ ≤ B; omega, by show R ≤ _; omega⟩, A1, B0, R1⟩
      refine (hI _ _).mpr ⟨ps ++ [⟨nm, A, B, R⟩], _, _, _, _, by rw [List.map_append]; rfl, by simp [hl], fun p hp => ?_⟩
      rcases List.mem_append.mp hp with hp | hp
      · exact hps p hp
      · rcases List.mem_singleton.mp hp with rfl
        exact pb
    · intro ρ hr
      obtain ⟨ps, u2, u3, u4, u5, rfl, hl, hps⟩ := (hI _ _).mp hr
      simp [-List.map_map, Kf_eq]
      exact (hP _).mpr ⟨ps, rfl, by omega, hps⟩)
  obtain ⟨ps, rfl, h⟩ := (hP d).mp hd
  exact ⟨ps, e, h⟩
theorem gates_specM (Γ Γs : Rf.Ctx) (pk : PkAt Γ 0) (k1 : ∀ ds, callD Γ 1 ds = run Γs .sh 4 bTwoSides (ds ++ [])) (pks : PkAt Γs 0) (x : Int) (n : Nat) (hn : 1 ≤ n ∧ n ≤ 3) :
    ∃ gs : List MGate, run Γ .sh 6 bGatesM [.int x, .int n] = .ok (.tuple (gs.map gateD)) ∧ gs.length ≤ 3 ∧ ∀ g ∈ gs, GateOk n g ∧ (-1000 ≤ g.sill ∧ g.sill ≤ 1000) ∧ g.rate ≤ 1000 := by
  obtain ⟨P, hP⟩ : ∃ P : D → Prop, ∀ d, P d ↔ (∃ gs : List MGate, d = .tuple (gs.map gateD) ∧ gs.length ≤ 3 ∧ ∀ g ∈ gs, GateOk n g ∧ (-1000 ≤ g.sill ∧ g.sill ≤ 1000) ∧ g.rate ≤ 1000) := ⟨_, fun _ => Iff.rfl⟩
  obtain ⟨d, e, hd⟩ := run_wp (Γ := Γ) (fr := .sh) (s := bGatesM) (kk := 6) (ds := [.int x, .int n]) (P := P) (by
    unfold bGatesM
    obtain ⟨v0, e0, v00, v01⟩ := pk x 130 4 (by decide) (by decide) (by decide)
    simp [-List.map_map, List.replicate, exec_for, e0]
    rw [rng1 (sm62_of (by omega) (by omega))]
    simp only [bind_ok, toFl_ok, listF_l]
    obtain ⟨I, hI⟩ : ∃ I : Nat → Sl → Prop, ∀ j ρ, I j ρ ↔ (∃ (gs : List MGate) (u3 u4 u5 : Slot), ρ = [.sh (.int x), .sh (.int n), .own (gs.map gateD), u3, u4, u5] ∧ gs.length = j ∧ ∀ g ∈ gs, GateOk n g ∧ (-1000 ≤ g.sill ∧ g.sill ≤ 1000) ∧ g.rate ≤ 1000) := ⟨_, fun _ _ => Iff.rfl⟩
    refine wp_rngL I ((hI _ _).mpr ⟨[], _, _, _, rfl, rfl, fun _ h => absurd h List.not_mem_nil⟩) ?_ ?_
    · intro j ρ hj hr
      obtain ⟨gs, u3, u4, u5, rfl, hl, hgs⟩ := (hI _ _).mp hr
      obtain ⟨v1, e1, v10, v11⟩ := pk x (131 + (j : Int)) 2001 (by omega) (by omega) (by decide)
      obtain ⟨v2, e2, v20, v21⟩ := pk x (134 + (j : Int)) 4 (by omega) (by omega) (by decide)
      obtain ⟨v3, e3, v30, v31⟩ := pk x (137 + (j : Int)) 1000 (by omega) (by omega) (by decide)
      obtain ⟨v4, e4, v40, v41⟩ := pk x (137 + (j : Int)) 9 (by omega) (by omega) (by decide)
      obtain ⟨v5, e5, v50, v51⟩ := pk x (140 + (j : Int)) 4 (by omega) (by omega) (by decide)
      obtain ⟨S, qS, S0, S1⟩ := idx_bd (l := [-1000, 1000, v1 - 1000, 0]) (q := v2) (lo := -1000) (hi := 1000) (by
        intro y hy
        simp at hy
        rcases hy with rfl | rfl | rfl | rfl <;> omega) v20 (by simpa using v21)
      have qS : idxD (.list [.int (-1000), .int 1000, .int (v1 - 1000), .int 0]) (.int v2) = .ok (.int S) := qS
      obtain ⟨R, qR, R0, R1⟩ := idx_bd (l := [1, 1000, 1 + v3, 1 + v4]) (q := v5) (lo := 1) (hi := 1000) (by
        intro y hy
        simp at hy
        rcases hy with rfl | rfl | rfl | rfl <;> omega) v50 (by simpa using v51)
      have qR : idxD (.list [.int 1, .int 1000, .int (1 + v3), .int (1 + v4)]) (.int v5) = .ok (.int R) := qR
      obtain ⟨a, b, e6, a0, b0, ne⟩ := two_sides_spec Γs pks x (143 + 2 * (j : Int)) n (by omega) hn
      have e6 : callD Γ 1 [.int x, .int (143 + 2 * (j : Int)), .int n] = _ := (k1 _).trans e6
      have ad : binD .Add (.tuple [.int a, .int b]) (.tuple [.int S, .int R]) = .ok (gateD ⟨a, b, S, R⟩) := add_tup (by show 4 ≤ _; decide)
      simp (disch := omega) [-List.map_map, e1, e2, qS, e3, e4, mul_ok_l, e6, e5, qR, ad, guardF_lt (show gs.length < 16777216 by omega), Kf_eq]
      have gok : GateOk n ⟨a, b, S, R⟩ := ⟨⟨a0.1, a0.2⟩, ⟨b0.1, b0.2⟩, ne, R0, by show R ≤ _; omega, by show _ ≤ S; omega, by show S ≤ _; omega⟩
      refine (hI _ _).mpr ⟨gs ++ [⟨a, b, S, R⟩], _, _, _, by rw [List.map_append]; rfl, by simp [hl], fun g hg => ?_⟩
      rcases List.mem_append.mp hg with hg | hg
      · exact hgs g hg
      · rcases List.mem_singleton.mp hg with rfl
        exact ⟨gok, ⟨S0, S1⟩, R1⟩
    · intro ρ hr
      obtain ⟨gs, u3, u4, u5, rfl, hl, hgs⟩ := (hI _ _).mp hr
      simp [-List.map_map, Kf_eq]
      exact (hP _).mpr ⟨gs, rfl, by omega, hgs⟩)
  obtain ⟨gs, rfl, h⟩ := (hP d).mp hd
  exact ⟨gs, e, h⟩
theorem wheels_specM (Γ Γs : Rf.Ctx) (pk : PkAt Γ 0) (k1 : ∀ ds, callD Γ 1 ds = run Γs .sh 4 bTwoSides (ds ++ [])) (pks : PkAt Γs 0) (x : Int) (n : Nat) (hn : 1 ≤ n ∧ n ≤ 3) :
    ∃ ws : List MWheel, run Γ .sh 9 bWheelsM [.int x, .int n] = .ok (.tuple (ws.map wheelD)) ∧ ws.length ≤ 3 ∧ ∀ w ∈ ws, WheelOk n w ∧ w.fall ≤ 2000 ∧ w.drink ≤ 1000 ∧ w.grind ≤ 1000 := by
  obtain ⟨P, hP⟩ : ∃ P : D → Prop, ∀ d, P d ↔ (∃ ws : List MWheel, d = .tuple (ws.map wheelD) ∧ ws.length ≤ 3 ∧ ∀ w ∈ ws, WheelOk n w ∧ w.fall ≤ 2000 ∧ w.drink ≤ 1000 ∧ w.grind ≤ 1000) := ⟨_, fun _ => Iff.rfl⟩
  obtain ⟨d, e, hd⟩ := run_wp (Γ := Γ) (fr := .sh) (s := bWheelsM) (kk := 9) (ds := [.int x, .int n]) (P := P) (by
    unfold bWheelsM
    obtain ⟨v0, e0, v00, v01⟩ := pk x 150 4 (by decide) (by decide) (by decide)
    simp [-List.map_map, List.replicate, exec_for, e0]
    rw [rng1 (sm62_of (by omega) (by omega))]
    simp only [bind_ok, toFl_ok, listF_l]
    obtain ⟨I, hI⟩ : ∃ I : Nat → Sl → Prop, ∀ j ρ, I j ρ ↔ (∃ (ws : List MWheel) (u3 u4 u5 u6 u7 u8 : Slot), ρ = [.sh (.int x), .sh (.int n), .own (ws.map wheelD), u3, u4, u5, u6, u7, u8] ∧ ws.length = j ∧ ∀ w ∈ ws, WheelOk n w ∧ w.fall ≤ 2000 ∧ w.drink ≤ 1000 ∧ w.grind ≤ 1000) := ⟨_, fun _ _ => Iff.rfl⟩
    refine wp_rngL I ((hI _ _).mpr ⟨[], _, _, _, _, _, _, rfl, rfl, fun _ h => absurd h List.not_mem_nil⟩) ?_ ?_
    · intro j ρ hj hr
      obtain ⟨ws, u3, u4, u5, u6, u7, u8, rfl, hl, hws⟩ := (hI _ _).mp hr
      obtain ⟨v1, e1, v10, v11⟩ := pk x (157 + (j : Int)) 2000 (by omega) (by omega) (by decide)
      obtain ⟨v2, e2, v20, v21⟩ := pk x (160 + (j : Int)) 3 (by omega) (by omega) (by decide)
      obtain ⟨v3, e3, v30, v31⟩ := pk x (163 + (j : Int)) 1000 (by omega) (by omega) (by decide)
      obtain ⟨v4, e4, v40, v41⟩ := pk x (166 + (j : Int)) 3 (by omega) (by omega) (by decide)
      obtain ⟨v5, e5, v50, v51⟩ := pk x (169 + (j : Int)) 1000 (by omega) (by omega) (by decide)
      obtain ⟨v6, e6, v60, v61⟩ := pk x (172 + (j : Int)) 3 (by omega) (by omega) (by decide)
      obtain ⟨F, qF, F0, F1⟩ := idx_bd (l := [1, 2000, 1 + v1]) (q := v2) (lo := 1) (hi := 2000) (by
        intro y hy
        simp at hy
        rcases hy with rfl | rfl | rfl <;> omega) v20 (by simpa using v21)
      have qF : idxD (.list [.int 1, .int 2000, .int (1 + v1)]) (.int v2) = .ok (.int F) := qF
      obtain ⟨Q, qQ, Q0, Q1⟩ := idx_bd (l := [1, 1000, 1 + v3]) (q := v4) (lo := 1) (hi := 1000) (by
        intro y hy
        simp at hy
        rcases hy with rfl | rfl | rfl <;> omega) v40 (by simpa using v41)
      have qQ : idxD (.list [.int 1, .int 1000, .int (1 + v3)]) (.int v4) = .ok (.int Q) := qQ
      obtain ⟨R, qR, R0, R1⟩ := idx_bd (l := [1, 1000, 1 + v5]) (q := v6) (lo := 1) (hi := 1000) (by
        intro y hy
        simp at hy
        rcases hy with rfl | rfl | rfl <;> omega) v60 (by simpa using v61)
      have qR : idxD (.list [.int 1, .int 1000, .int (1 + v5)]) (.int v6) = .ok (.int R) := qR
      obtain ⟨a, b, e7, a0, b0, ne⟩ := two_sides_spec Γs pks x (151 + 2 * (j : Int)) n (by omega) hn
      have e7 : callD Γ 1 [.int x, .int (151 + 2 * (j : Int)), .int n] = _ := (k1 _).trans e7
      have fin : ∀ a b : Int, 0 ≤ a → a < n → -1 ≤ b → b < n → a ≠ b → ∀ u4 u5 u6 u7 u8 : Slot, I (j + 1) [.sh (.int x), .sh (.int n), .own (ws.map wheelD ++ [.tuple [.int a, .int b, .int F, .int Q, .int R]]), .sh (.int j), u4, u5, u6, u7, u8] := fun a b h1 h2 h3 h4 h5 u4 u5 u6 u7 u8 => by
        have wok : WheelOk n ⟨a, b, F, Q, R⟩ := ⟨⟨h1, h2⟩, ⟨h3, h4⟩, h5, F0, Q0, R0, by show F ≤ _; omega, by show Q ≤ _; omega, by show R ≤ _; omega⟩
        refine (hI _ _).mpr ⟨ws ++ [⟨a, b, F, Q, R⟩], _, _, _, _, _, _, by rw [List.map_append]; rfl, by simp [hl], fun w hw => ?_⟩
        rcases List.mem_append.mp hw with hw | hw
        · exact hws w hw
        · rcases List.mem_singleton.mp hw with rfl
          exact ⟨wok, F1, Q1, R1⟩
      simp (disch := omega) [-List.map_map, mul_ok_l, e7]
      by_cases c : a < 0
      · simp (disch := omega) [-List.map_map, c, e1, e2, qF, e3, e4, qQ, e5, e6, qR, guardF_lt (show ws.length < 16777216 by omega), Kf_eq]
        exact fin b a (by omega) b0.2 a0.1 a0.2 (Ne.symm ne) _ _ _ _ _
      · simp (disch := omega) [-List.map_map, c, e1, e2, qF, e3, e4, qQ, e5, e6, qR, guardF_lt (show ws.length < 16777216 by omega), Kf_eq]
        exact fin a b (by omega) a0.2 b0.1 b0.2 ne _ _ _ _ _
    · intro ρ hr
      obtain ⟨ws, u3, u4, u5, u6, u7, u8, rfl, hl, hws⟩ := (hI _ _).mp hr
      simp [-List.map_map, Kf_eq]
      exact (hP _).mpr ⟨ws, rfl, by omega, hws⟩)
  obtain ⟨ws, rfl, h⟩ := (hP d).mp hd
  exact ⟨ws, e, h⟩
/-- a mill within all bounds -/
structure Mill.B (m : Mill) : Prop where
  ok : m.Ok
  sea : SeaOk m.base m.rings
  ponds : ∀ p ∈ m.ponds, PondB p
  gates : ∀ g ∈ m.gates, (-1000 ≤ g.sill ∧ g.sill ≤ 1000) ∧ g.rate ≤ 1000
  wheels : ∀ w ∈ m.wheels, w.fall ≤ 2000 ∧ w.drink ≤ 1000 ∧ w.grind ≤ 1000
theorem mill_specM (Γ : Rf.Ctx) (ns : List Int) (ec : ∀ k : Int, 0 ≤ k → callD Γ 1 [.list (ns.map .int), .int k] = .ok (.int (nth ns k.toNat)))
    (es : ∀ cs : List Int, cs.length ≤ 4 → ∃ b rs, callD Γ 0 [.list (cs.map .int)] = .ok (seaD b rs) ∧ SeaOk b rs)
    (ep : ∀ x : Int, ∃ ps : List MPond, callD Γ 2 [.int x] = .ok (.tuple (ps.map pondD)) ∧ (1 ≤ ps.length ∧ ps.length ≤ 3) ∧ ∀ p ∈ ps, PondB p)
    (eg : ∀ (x : Int) (n : Nat), 1 ≤ n ∧ n ≤ 3 → ∃ gs : List MGate, callD Γ 3 [.int x, .int n] = .ok (.tuple (gs.map gateD)) ∧ gs.length ≤ 3 ∧ ∀ g ∈ gs, GateOk n g ∧ (-1000 ≤ g.sill ∧ g.sill ≤ 1000) ∧ g.rate ≤ 1000)
    (ew : ∀ (x : Int) (n : Nat), 1 ≤ n ∧ n ≤ 3 → ∃ ws : List MWheel, callD Γ 4 [.int x, .int n] = .ok (.tuple (ws.map wheelD)) ∧ ws.length ≤ 3 ∧ ∀ w ∈ ws, WheelOk n w ∧ w.fall ≤ 2000 ∧ w.drink ≤ 1000 ∧ w.grind ≤ 1000) :
    ∃ m : Mill, run Γ .sh 5 bMillM [.list (ns.map .int)] = .ok m.d ∧ m.B := by
  obtain ⟨P, hP⟩ : ∃ P : D → Prop, ∀ d, P d ↔ (∃ m : Mill, d = m.d ∧ m.B) := ⟨_, fun _ => Iff.rfl⟩
  obtain ⟨d, e, hd⟩ := run_wp (Γ := Γ) (fr := .sh) (s := bMillM) (kk := 5) (ds := [.list (ns.map .int)]) (P := P) (by
    unfold bMillM
    simp [-List.map_map, List.replicate]
    rw [rng1 (sm62_of (by decide) (by decide))]
    simp only [bind_ok, seqOf_list, optL_some]
    generalize hc : compD _ (PyData.list (rngL 0 4)) = r
    obtain ⟨cs, rfl, hcs⟩ := cells4' hc (fun k => nth ns k.toNat) (fun i hi => by simp [ec i hi])
    obtain ⟨b, rs, hsea, so⟩ := es cs (by omega)
    obtain ⟨ps, e2, pl, pb⟩ := ep (nth ns 4)
    obtain ⟨gs, e3, gl, gb⟩ := eg (nth ns 5) ps.length pl
    obtain ⟨ws, e4, wl, wb⟩ := ew (nth ns 6) ps.length pl
    simp [-List.map_map, hsea, ec, e2, e3, e4]
    refine (hP _).mpr ⟨⟨b, rs, ps, gs, ws⟩, rfl, ⟨fun r hr => ⟨(so.rok r hr).sh.1, fun z => by have := (so.rok r hr).len; rw [z] at this; simp at this⟩, pl.1, ⟨pl.2, gl, wl⟩, fun p hp => (pb p hp).ok, fun g hg => (gb g hg).1, fun w hw => (wb w hw).1, ⟨so.len, so.base, fun r hr => (so.rok r hr).hs⟩⟩, so, pb, fun g hg => (gb g hg).2, fun w hw => (wb w hw).2⟩)
  obtain ⟨m, rfl, h⟩ := (hP d).mp hd
  exact ⟨m, e, h⟩
end Rf

/-! Rf: reflection. Part ZN: the small mills of k60 .. k73. -/
namespace Rf
open PySem L2
def bPickS : S :=
  (.seq (.asg 3 (.bin .Mod (.bin .RShift (.bin .FloorDiv (.var 0) (.cst (.int 1000003))) (.bin .Mult (.cst (.int 20)) (.var 1))) (.cst (.int 1048576)))) (.seq (.asg 4 (.bin .Mod (.bin .Mult (.bin .Add (.bin .Add (.bin .Mod (.var 0) (.cst (.int 1000003))) (.bin .Mult (.bin .Mult (.cst (.int 31)) (.var 1)) (.var 1))) (.cst (.int 1))) (.bin .Add (.cst (.int 48271)) (.bin .Mult (.cst (.int 40)) (.var 1)))) (.cst (.int 2147483629)))) (.seq (.ret (.bin .Mod (.bin .Add (.bin .FloorDiv (.bin .Mod (.bin .Mult (.var 4) (.cst (.int 16807))) (.cst (.int 2147483399))) (.cst (.int 11))) (.var 3)) (.var 2))) .nil)))
def bUnlikeS : S :=
  (.seq (.asg 4 (.bin .Sub (.call false 0 (.cons (.var 0) (.cons (.var 1) (.cons (.var 2) .nil)))) (.cst (.int 1)))) (.seq (.ifs (.cmp .GtE (.var 4) (.var 3)) (.seq (.asg 4 (.bin .Add (.var 4) (.cst (.int 1)))) .nil) .nil) (.seq (.ret (.var 4)) .nil)))
def bPondsS : S :=
  (.seq (.asg 2 (.lst (.cons (.cst (.str "pond")) (.cons (.cst (.str "tide")) (.cons (.cst (.str "gate")) (.cons (.cst (.str "wheel")) (.cons (.cst (.str "ring")) (.cons (.cst (.str "o")) (.cons (.cst (.str "s")) (.cons (.cst (.str "r")) (.cons (.cst (.str "a")) (.cons (.cst (.str "ab")) (.cons (.cst (.str "aba")) .nil))))))))))))) (.seq (.asg 3 (.call false 0 (.cons (.var 0) (.cons (.cst (.int 5)) (.cons (.cst (.int 11)) .nil))))) (.seq (.asg 4 (.lst .nil)) (.seq (.fr (.one 5) (.irng (.cons (.var 1) .nil)) (.seq (.asg 6 (.blt .min2 (.cons (.bin .Add (.cst (.int 1)) (.call false 0 (.cons (.var 0) (.cons (.bin .Add (.cst (.int 10)) (.var 5)) (.cons (.cst (.int 3)) .nil))))) (.cons (.bin .Sub (.cst (.int 4)) (.var 1)) .nil)))) (.seq (.asg 7 (.bin .Sub (.call false 0 (.cons (.var 0) (.cons (.bin .Add (.cst (.int 20)) (.var 5)) (.cons (.cst (.int 4)) .nil)))) (.cst (.int 2)))) (.seq (.asg 8 (.blt .min2 (.cons (.bin .Add (.cst (.int 1)) (.call false 0 (.cons (.var 0) (.cons (.bin .Add (.cst (.int 30)) (.var 5)) (.cons (.cst (.int 3)) .nil))))) (.cons (.bin .Sub (.cst (.int 4)) (.var 1)) .nil)))) (.seq (.app 4 (.tup (.cons (.idx (.var 2) (.bin .Mod (.bin .Add (.var 3) (.bin .Mult (.cst (.int 4)) (.var 5))) (.cst (.int 11)))) (.cons (.var 6) (.cons (.var 7) (.cons (.bin .Add (.var 7) (.var 8)) .nil)))))) .nil))))) (.seq (.ret (.blt .tuple (.cons (.var 4) .nil))) .nil)))))
def bMillS : S :=
  (.seq (.asg 3 (.idx (.lst (.cons (.cst (.int 1)) (.cons (.cst (.int 1)) (.cons (.cst (.int 1)) (.cons (.cst (.int 2)) (.cons (.cst (.int 2)) (.cons (.cst (.int 3)) .nil))))))) (.call false 0 (.cons (.var 0) (.cons (.cst (.int 1)) (.cons (.cst (.int 6)) .nil)))))) (.seq (.asg 4 (.lst .nil)) (.seq (.fr (.one 5) (.irng (.cons (.call false 0 (.cons (.var 0) (.cons (.cst (.int 2)) (.cons (.cst (.int 3)) .nil)))) .nil)) (.seq (.asg 11 (.comp (.bin .Sub (.call false 0 (.cons (.var 0) (.cons (.bin .Add (.bin .Add (.cst (.int 120)) (.bin .Mult (.cst (.int 7)) (.var 5))) (.var 18)) (.cons (.cst (.int 6)) .nil)))) (.cst (.int 2))) (.one 18) (.irng (.cons (.bin .Add (.cst (.int 1)) (.call false 0 (.cons (.var 0) (.cons (.bin .Add (.cst (.int 110)) (.var 5)) (.cons (.cst (.int 5)) .nil))))) .nil)) [18])) (.seq (.app 4 (.tup (.cons (.call false 0 (.cons (.var 0) (.cons (.bin .Add (.cst (.int 115)) (.var 5)) (.cons (.cst (.int 10)) .nil)))) (.cons (.blt .tuple (.cons (.var 11) .nil)) .nil)))) .nil))) (.seq (.asg 6 (.lst .nil)) (.seq (.fr (.one 7) (.irng (.cons (.call false 0 (.cons (.var 0) (.cons (.cst (.int 3)) (.cons (.bin .Add (.var 1) (.cst (.int 1))) .nil)))) .nil)) (.seq (.asg 12 (.bin .Sub (.call false 0 (.cons (.var 0) (.cons (.bin .Add (.cst (.int 40)) (.var 7)) (.cons (.bin .Add (.var 3) (.cst (.int 1))) .nil)))) (.cst (.int 1)))) (.seq (.asg 13 (.call false 1 (.cons (.var 0) (.cons (.bin .Add (.cst (.int 50)) (.var 7)) (.cons (.var 3) (.cons (.var 12) .nil)))))) (.seq (.asg 14 (.idx (.lst (.cons (.cst (.int 1)) (.cons (.cst (.int 2)) (.cons (.cst (.int 3)) (.cons (.cst (.int 1000)) .nil))))) (.call false 0 (.cons (.var 0) (.cons (.bin .Add (.cst (.int 65)) (.var 7)) (.cons (.cst (.int 4)) .nil)))))) (.seq (.app 6 (.tup (.cons (.var 12) (.cons (.var 13) (.cons (.bin .Sub (.call false 0 (.cons (.var 0) (.cons (.bin .Add (.cst (.int 60)) (.var 7)) (.cons (.cst (.int 5)) .nil)))) (.cst (.int 2))) (.cons (.var 14) .nil)))))) .nil))))) (.seq (.asg 8 (.lst .nil)) (.seq (.fr (.one 9) (.irng (.cons (.call false 0 (.cons (.var 0) (.cons (.cst (.int 4)) (.cons (.bin .Add (.var 2) (.cst (.int 1))) .nil)))) .nil)) (.seq (.asg 15 (.call false 0 (.cons (.var 0) (.cons (.bin .Add (.cst (.int 70)) (.var 9)) (.cons (.var 3) .nil))))) (.seq (.asg 16 (.call false 1 (.cons (.var 0) (.cons (.bin .Add (.cst (.int 75)) (.var 9)) (.cons (.var 3) (.cons (.var 15) .nil)))))) (.seq (.asg 17 (.idx (.lst (.cons (.cst (.int 1)) (.cons (.cst (.int 2)) (.cons (.cst (.int 5)) (.cons (.cst (.int 1000)) .nil))))) (.call false 0 (.cons (.var 0) (.cons (.bin .Add (.cst (.int 95)) (.var 9)) (.cons (.cst (.int 4)) .nil)))))) (.seq (.app 8 (.tup (.cons (.var 15) (.cons (.var 16) (.cons (.bin .Add (.cst (.int 1)) (.call false 0 (.cons (.var 0) (.cons (.bin .Add (.cst (.int 80)) (.var 9)) (.cons (.cst (.int 2)) .nil))))) (.cons (.bin .Add (.cst (.int 1)) (.call false 0 (.cons (.var 0) (.cons (.bin .Add (.cst (.int 85)) (.var 9)) (.cons (.cst (.int 2)) .nil))))) (.cons (.var 17) .nil))))))) .nil))))) (.seq (.asg 10 (.tup (.cons (.bin .Sub (.call false 0 (.cons (.var 0) (.cons (.cst (.int 6)) (.cons (.cst (.int 4)) .nil)))) (.cst (.int 1))) (.cons (.blt .tuple (.cons (.var 4) .nil)) .nil)))) (.seq (.ret (.tup (.cons (.var 10) (.cons (.call false 2 (.cons (.var 0) (.cons (.var 3) .nil))) (.cons (.blt .tuple (.cons (.var 6) .nil)) (.cons (.blt .tuple (.cons (.var 8) .nil)) .nil)))))) .nil)))))))))
def bContS : S :=
  (.seq (.asg 2 (.comp (.bin .Mult (.idx (.var 3) (.cst (.int 1))) (.bin .Sub (.idx (.var 3) (.cst (.int 3))) (.idx (.var 3) (.cst (.int 2))))) (.one 3) (.iseq (.idx (.var 0) (.cst (.int 1)))) [3])) (.seq (.ret (.blt .tuple (.cons (.comp (.call false 0 (.cons (.var 1) (.cons (.bin .Add (.cst (.int 100)) (.var 4)) (.cons (.bin .Add (.idx (.var 2) (.var 4)) (.cst (.int 1))) .nil)))) (.one 4) (.irng (.cons (.blt .len (.cons (.var 2) .nil)) .nil)) [4]) .nil))) .nil))
def bTruthsS : S :=
  (.seq (.ret (.blt .tuple (.cons (.comp (.cmp .Eq (.call false 0 (.cons (.var 1) (.cons (.bin .Add (.var 2) (.var 3)) (.cons (.cst (.int 2)) .nil)))) (.cst (.int 0))) (.one 3) (.irng (.cons (.var 0) .nil)) [3]) .nil))) .nil)

@[simp] theorem bin_shr {n q : Int} : binD .RShift (.int n) (.int q) = shrD n q := id rfl
theorem shr_ok {n q : Int} (h : 0 ≤ q) : shrD n q = .ok (.int (n / 2 ^ q.toNat)) := by
  unfold shrD
  rw [decide_eq_true h]; rfl
theorem pickS_spec (Γ : Rf.Ctx) (x t many : Int) (h0 : 0 ≤ t) (h1 : t ≤ 1000) (hm : 0 < many) : ∃ v : Int, run Γ .sh 5 bPickS [.int x, .int t, .int many] = .ok (.int v) ∧ 0 ≤ v ∧ v < many := by
  refine ⟨(((x % 1000003 + 31 * t * t + 1) * (48271 + 40 * t)) % 2147483629 * 16807 % 2147483399 / 11 + x / 1000003 / 2 ^ (20 * t).toNat % 1048576) % many, run_eq ?_, Int.emod_nonneg _ (by omega), Int.emod_lt_of_pos _ hm⟩
  unfold bPickS
  simp (disch := omega) [-List.map_map, List.replicate, fdiv_ok, mul_ok_l, mul_ok_r, shr_ok, mod_ok]
theorem pkS (Γ Γp : Rf.Ctx) (j : Nat) (k0 : ∀ ds, callD Γ j ds = run Γp .sh 5 bPickS (ds ++ [])) : PkAt Γ j := fun x t many h0 h1 hm => by
  obtain ⟨v, e, h⟩ := pickS_spec Γp x t many h0 h1 hm
  exact ⟨v, (k0 _).trans e, h⟩
theorem unlike_spec (Γ : Rf.Ctx) (pk : PkAt Γ 0) (x k : Int) (n : Nat) (one : Int) (hk : 0 ≤ k ∧ k ≤ 900) (hn : 1 ≤ n) (ho : -1 ≤ one ∧ one < n) : ∃ b : Int, run Γ .sh 5 bUnlikeS [.int x, .int k, .int n, .int one] = .ok (.int b) ∧ (-1 ≤ b ∧ b < n) ∧ b ≠ one := by
  obtain ⟨v, e, v0, v1⟩ := pk x k n (by omega) (by omega) (by omega)
  by_cases c : one ≤ v - 1
  · refine ⟨v, run_eq ?_, by omega, by omega⟩
    unfold bUnlikeS
    simp (disch := omega) [-List.map_map, List.replicate, e, c, Kf_eq]
  · refine ⟨v - 1, run_eq ?_, by omega, by omega⟩
    unfold bUnlikeS
    simp (disch := omega) [-List.map_map, List.replicate, e, c, Kf_eq]
theorem ponds_specS (Γ : Rf.Ctx) (pk : PkAt Γ 0) (x : Int) (n : Nat) (hn : 1 ≤ n ∧ n ≤ 3) :
    ∃ ps : List MPond, run Γ .sh 9 bPondsS [.int x, .int n] = .ok (.tuple (ps.map pondD)) ∧ ps.length = n ∧ ∀ p ∈ ps, PondOk p ∧ p.area ≤ 4 - n ∧ p.rim ≤ p.bottom + (4 - n) := by
  obtain ⟨Q, hQ⟩ : ∃ Q : D → Prop, ∀ d, Q d ↔ (∃ ps : List MPond, d = .tuple (ps.map pondD) ∧ ps.length = n ∧ ∀ p ∈ ps, PondOk p ∧ p.area ≤ 4 - n ∧ p.rim ≤ p.bottom + (4 - n)) := ⟨_, fun _ => Iff.rfl⟩
  obtain ⟨d, e, hd⟩ := run_wp (Γ := Γ) (fr := .sh) (s := bPondsS) (kk := 9) (ds := [.int x, .int n]) (P := Q) (by
    unfold bPondsS
    obtain ⟨v5, e5, v50, v51⟩ := pk x 5 11 (by decide) (by decide) (by decide)
    obtain ⟨ws, hws⟩ : ∃ ws : List D, ws = [.str "pond", .str "tide", .str "gate", .str "wheel", .str "ring", .str "o", .str "s", .str "r", .str "a", .str "ab", .str "aba"] := ⟨_, rfl⟩
    simp [-List.map_map, List.replicate, exec_for, e5]
    rw [← hws, rng1 (sm62_of (by omega) (by omega))]
    simp only [bind_ok, toFl_ok, listF_l]
    obtain ⟨I, hI⟩ : ∃ I : Nat → Sl → Prop, ∀ j ρ, I j ρ ↔ (∃ (ps : List MPond) (u5 u6 u7 u8 : Slot), ρ = [.sh (.int x), .sh (.int n), .own ws, .sh (.int v5), .own (ps.map pondD), u5, u6, u7, u8] ∧ ps.length = j ∧ ∀ p ∈ ps, PondOk p ∧ p.area ≤ 4 - n ∧ p.rim ≤ p.bottom + (4 - n)) := ⟨_, fun _ _ => Iff.rfl⟩
    refine wp_rngL I ((hI _ _).mpr ⟨[], _, _, _, _, rfl, rfl, fun _ h => absurd h List.not_mem_nil⟩) ?_ ?_
    · intro j ρ hj hr
      obtain ⟨ps, u5, u6, u7, u8, rfl, hl, hps⟩ := (hI _ _).mp hr
      obtain ⟨v1, e1, v10, v11⟩ := pk x (10 + (j : Int)) 3 (by omega) (by omega) (by decide)
      obtain ⟨v2, e2, v20, v21⟩ := pk x (20 + (j : Int)) 4 (by omega) (by omega) (by omega)
      obtain ⟨v3, e3, v30, v31⟩ := pk x (30 + (j : Int)) 3 (by omega) (by omega) (by omega)
      obtain ⟨d0, q0, s, rfl⟩ := idx_all (l := ws) (q := (v5 + 4 * (j : Int)) % 11) (fun d => ∃ s : Str, d = .str s) (by
        intro d hd
        rw [hws] at hd
        simp at hd
        rcases hd with rfl | rfl | rfl | rfl | rfl | rfl | rfl | rfl | rfl | rfl | rfl <;> exact ⟨_, rfl⟩) (by omega) (by rw [hws]; simp; omega)
      simp (disch := omega) [-List.map_map, e1, e2, e3, q0, mul_ok_l, mod_ok, guardF_lt (show ps.length < 16777216 by omega), Kf_eq]
      refine (hI _ _).mpr ⟨ps ++ [⟨s, min (1 + v1) (4 - n), v2 - 2, v2 - 2 + min (1 + v3) (4 - n)⟩], _, _, _, _, by rw [List.map_append]; rfl, by simp [hl], fun p hp => ?_⟩
      rcases List.mem_append.mp hp with hp | hp
      · exact hps p hp
      · rcases List.mem_singleton.mp hp with rfl
        exact ⟨⟨by show 1 ≤ min (1 + v1) (4 - (n : Int)); omega, by show v2 - 2 < v2 - 2 + min (1 + v3) (4 - (n : Int)); omega, by show min (1 + v1) (4 - (n : Int)) ≤ _; omega, by show _ ≤ v2 - 2; omega, by show v2 - 2 + min (1 + v3) (4 - (n : Int)) ≤ _; omega⟩, by show min (1 + v1) (4 - (n : Int)) ≤ _; omega, by show v2 - 2 + min (1 + v3) (4 - (n : Int)) ≤ v2 - 2 + _; omega⟩
    · intro ρ hr
      obtain ⟨ps, u5, u6, u7, u8, rfl, hl, hps⟩ := (hI _ _).mp hr
      simp [-List.map_map, Kf_eq]
      exact (hQ _).mpr ⟨ps, rfl, by omega, hps⟩)
  obtain ⟨ps, rfl, h⟩ := (hQ d).mp hd
  exact ⟨ps, e, h⟩
theorem cont_specS (Γ : Rf.Ctx) (pk : PkAt Γ 0) {m : Mill} (h : m.Ok) (x : Int) : ∃ cs : List Int, run Γ .sh 5 bContS [m.d, .int x] = .ok (.tuple (cs.map .int)) ∧ COk m cs := by
  have few := h.few.1
  have key : ∀ i : Nat, i < m.ponds.length → ∃ v : Int, callD Γ 0 [.int x, .int (100 + (i : Int)), .int (holdP (nthA m.ponds i) + 1)] = .ok (.int v) ∧ 0 ≤ v ∧ v ≤ holdP (nthA m.ponds i) := fun i hi => by
    have hb := hold_bd (h.ponds _ (nthA_mem hi))
    obtain ⟨v, e, v0, v1⟩ := pk x (100 + (i : Int)) (holdP (nthA m.ponds i) + 1) (by omega) (by omega) (by omega)
    exact ⟨v, e, v0, by omega⟩
  obtain ⟨f, hf⟩ : ∃ f : Nat → Int, ∀ i, i < m.ponds.length → callD Γ 0 [.int x, .int (100 + (i : Int)), .int (holdP (nthA m.ponds i) + 1)] = .ok (.int (f i)) ∧ 0 ≤ f i ∧ f i ≤ holdP (nthA m.ponds i) :=
    ⟨fun i => if hi : i < m.ponds.length then (key i hi).choose else 0, fun i hi => by simp only [dif_pos hi]; exact (key i hi).choose_spec⟩
  refine ⟨(List.range m.ponds.length).map f, run_eq ?_, ⟨by simp, fun i hi => ?_⟩⟩
  · unfold bContS
    simp [-List.map_map, List.replicate, mill_ponds]
    rw [compD_ints (g := pondD) (l := m.ponds) (fun p => holdP p) (by omega) fun p hp => by
      have pb := (h.ponds p hp).bd
      have pa := (h.ponds p hp).area
      simp (disch := omega) [pondD, mul_ok_l, holdP]]
    simp [-List.map_map]
    rw [rng1 (sm62_of (by omega) (by omega))]
    simp only [bind_ok, seqOf_list, optL_some]
    rw [compD_rng (fun i => .int (f i)) (by omega) fun i hi => by
      have hi : i < m.ponds.length := by omega
      have ix := idxA (g := PyData.int) (l := m.ponds.map fun p => holdP p) (q := (i : Int)) (by omega) (by rw [List.length_map]; omega)
      rw [Int.toNat_natCast, nthA_map hi] at ix
      simp [-List.map_map, ix, (hf i hi).1]]
    simp
  · have : nth ((List.range m.ponds.length).map f) i = f i := nth_rng hi
    rw [this]
    exact (hf i hi).2
theorem truths_specS (Γ : Rf.Ctx) (pk : PkAt Γ 0) (x k : Int) (n : Nat) (hk : 0 ≤ k ∧ k ≤ 900) (hn : n ≤ 3) : ∃ bs : List Bool, run Γ .sh 4 bTruthsS [.int n, .int x, .int k] = .ok (.tuple (bs.map .bool)) ∧ bs.length = n := by
  have key : ∀ i : Nat, i < n → ∃ v : Int, callD Γ 0 [.int x, .int (k + (i : Int)), .int 2] = .ok (.int v) := fun i hi => by
    obtain ⟨v, e, v0, v1⟩ := pk x (k + (i : Int)) 2 (by omega) (by omega) (by omega)
    exact ⟨v, e⟩
  obtain ⟨f, hf⟩ : ∃ f : Nat → Int, ∀ i, i < n → callD Γ 0 [.int x, .int (k + (i : Int)), .int 2] = .ok (.int (f i)) :=
    ⟨fun i => if hi : i < n then (key i hi).choose else 0, fun i hi => by simp only [dif_pos hi]; exact (key i hi).choose_spec⟩
  refine ⟨(List.range n).map fun i => decide (f i = 0), run_eq ?_, by simp⟩
  unfold bTruthsS
  simp [-List.map_map, List.replicate]
  rw [rng1 (sm62_of (by omega) (by omega))]
  simp only [bind_ok, seqOf_list, optL_some]
  rw [compD_rng (fun i => .bool (decide (f i = 0))) (by omega) fun i hi => by
    simp [-List.map_map, hf i (by omega)]]
  simp
structure MillS (m : Mill) : Prop where
  ok : m.Ok
  small : ∀ p ∈ m.ponds, p.area ≤ 4 - m.ponds.length ∧ p.rim ≤ p.bottom + (4 - m.ponds.length)
  rate : ∀ g ∈ m.gates, g.rate ≤ 1000
theorem mill_specS (Γ Γu Γd : Rf.Ctx) (pk : PkAt Γ 0) (k1 : ∀ ds, callD Γ 1 ds = run Γu .sh 5 bUnlikeS (ds ++ [])) (pku : PkAt Γu 0) (k2 : ∀ ds, callD Γ 2 ds = run Γd .sh 9 bPondsS (ds ++ [])) (pkd : PkAt Γd 0) (x : Int) (g w : Nat) (hg : g ≤ 3) (hw : w ≤ 3) :
    ∃ m : Mill, run Γ .sh 19 bMillS [.int x, .int g, .int w] = .ok m.d ∧ MillS m := by
  obtain ⟨Q, hQ⟩ : ∃ Q : D → Prop, ∀ d, Q d ↔ (∃ m : Mill, d = m.d ∧ MillS m) := ⟨_, fun _ => Iff.rfl⟩
  obtain ⟨d, e, hd⟩ := run_wp (Γ := Γ) (fr := .sh) (s := bMillS) (kk := 19) (ds := [.int x, .int g, .int w]) (P := Q) (by
    unfold bMillS
    obtain ⟨v0, e0, v00, v01⟩ := pk x 1 6 (by decide) (by decide) (by decide)
    obtain ⟨v2, e2, v20, v21⟩ := pk x 2 3 (by decide) (by decide) (by decide)
    obtain ⟨v3, e3, v30, v31⟩ := pk x 3 (g + 1) (by decide) (by decide) (by omega)
    obtain ⟨v4, e4, v40, v41⟩ := pk x 4 (w + 1) (by decide) (by decide) (by omega)
    obtain ⟨v6, e6, v60, v61⟩ := pk x 6 4 (by decide) (by decide) (by decide)
    obtain ⟨d0, q0, n, rfl, n0, n1⟩ := idx_all (l := [.int 1, .int 1, .int 1, .int 2, .int 2, .int 3]) (q := v0) (fun d => ∃ n : Nat, d = .int n ∧ 1 ≤ n ∧ n ≤ 3) (by
      intro d hd
      simp at hd
      rcases hd with rfl | rfl | rfl
      · exact ⟨1, rfl, by omega, by omega⟩
      · exact ⟨2, rfl, by omega, by omega⟩
      · exact ⟨3, rfl, by omega, by omega⟩) v00 (by simpa using v01)
    obtain ⟨ps, ep, hpl, hps⟩ := ponds_specS Γd pkd x n ⟨n0, n1⟩
    have ep : callD Γ 2 [.int x, .int n] = _ := (k2 _).trans ep
    simp [-List.map_map, List.replicate, exec_for, e0, q0, e2]
    rw [rng1 (sm62_of (by omega) (by omega))]
    simp only [bind_ok, toFl_ok, listF_l]
    obtain ⟨I, hI⟩ : ∃ I : Nat → Sl → Prop, ∀ j ρ, I j ρ ↔ (∃ (rs : List (Int × List Int)) (u5 u11 u18 : Slot), ρ = [.sh (.int x), .sh (.int g), .sh (.int w), .sh (.int n), .own (rs.map ringD), u5, .un, .un, .un, .un, .un, u11, .un, .un, .un, .un, .un, .un, u18] ∧ rs.length = j ∧ ∀ r ∈ rs, ROk r) := ⟨_, fun _ _ => Iff.rfl⟩
    refine wp_rngL I ((hI _ _).mpr ⟨[], _, _, _, rfl, rfl, fun _ h => absurd h List.not_mem_nil⟩) ?_ ?_
    · intro j ρ hj hr
      obtain ⟨rs, u5, u11, u18, rfl, hl, hro⟩ := (hI _ _).mp hr
      obtain ⟨v7, e7, v70, v71⟩ := pk x (110 + (j : Int)) 5 (by omega) (by omega) (by decide)
      obtain ⟨v9, e9, v90, v91⟩ := pk x (115 + (j : Int)) 10 (by omega) (by omega) (by decide)
      simp [-List.map_map, e7]
      rw [rng1 (sm62_of (by omega) (by omega))]
      simp only [bind_ok, seqOf_list, optL_some]
      generalize hc : compD _ (PyData.list (rngL 0 (1 + v7))) = r
      obtain ⟨ys, rfl, hyl, hq⟩ : ∃ ys, r = .ok (.list ys) ∧ ys.length = (rngL 0 (1 + v7)).length ∧ ∀ y ∈ ys, ∃ c : Int, y = .int c ∧ -1001 ≤ c ∧ c ≤ 1001 := by
        rw [← hc]
        refine compD_ex (by rw [rngL_len]; omega) fun d hd => ?_
        obtain ⟨i, hi0, hi1, rfl⟩ := rngL_mem hd
        obtain ⟨v8, e8, v80, v81⟩ := pk x (120 + 7 * (j : Int) + i) 6 (by omega) (by omega) (by decide)
        simp (disch := omega) [e8, mul_ok_l]
        omega
      obtain ⟨hs, rfl, hhs⟩ := lift_map hq
      rw [rngL_len, List.length_map] at hyl
      simp [-List.map_map, e9, guardF_lt (show rs.length < 16777216 by omega), Kf_eq]
      have rk : ROk (v9, hs) := ⟨⟨by show 1 ≤ hs.length; omega, by show hs.length ≤ 60; omega⟩, ⟨v90, by show v9 ≤ 1000; omega⟩, hhs⟩
      refine (hI _ _).mpr ⟨rs ++ [(v9, hs)], _, _, _, by rw [List.map_append]; rfl, by simp [hl], fun r hr => ?_⟩
      rcases List.mem_append.mp hr with hr | hr
      · exact hro r hr
      · rcases List.mem_singleton.mp hr with rfl
        exact rk
    · intro ρ hr
      obtain ⟨rs, u5, u11, u18, rfl, hrl, hro⟩ := (hI _ _).mp hr
      simp [-List.map_map, exec_for, Kf_eq, e3]
      rw [rng1 (sm62_of (by omega) (by omega))]
      simp only [bind_ok, toFl_ok, listF_l]
      obtain ⟨J, hJ⟩ : ∃ J : Nat → Sl → Prop, ∀ j ρ, J j ρ ↔ (∃ (gs : List MGate) (u7 u12 u13 u14 : Slot), ρ = [.sh (.int x), .sh (.int g), .sh (.int w), .sh (.int n), .own (rs.map ringD), u5, .own (gs.map gateD), u7, .un, .un, .un, u11, u12, u13, u14, .un, .un, .un, u18] ∧ gs.length = j ∧ ∀ q ∈ gs, GateOk n q ∧ q.rate ≤ 1000) := ⟨_, fun _ _ => Iff.rfl⟩
      refine wp_rngL J ((hJ _ _).mpr ⟨[], _, _, _, _, rfl, rfl, fun _ h => absurd h List.not_mem_nil⟩) ?_ ?_
      · intro j ρ hj hr
        obtain ⟨gs, u7, u12, u13, u14, rfl, hgl, hgs⟩ := (hJ _ _).mp hr
        obtain ⟨v1, e1, v10, v11⟩ := pk x (40 + (j : Int)) (n + 1) (by omega) (by omega) (by omega)
        obtain ⟨b, eb, b0, ne⟩ := unlike_spec Γu pku x (50 + (j : Int)) n (v1 - 1) (by omega) n0 (by omega)
        have eb : callD Γ 1 [.int x, .int (50 + (j : Int)), .int n, .int (v1 - 1)] = _ := (k1 _).trans eb
        obtain ⟨v5, e5, v50, v51⟩ := pk x (65 + (j : Int)) 4 (by omega) (by omega) (by omega)
        obtain ⟨d1, q1, r, rfl, r0, r1⟩ := idx_all (l := [.int 1, .int 2, .int 3, .int 1000]) (q := v5) (fun d => ∃ r : Int, d = .int r ∧ 1 ≤ r ∧ r ≤ 1000) (by
          intro d hd
          simp at hd
          rcases hd with rfl | rfl | rfl | rfl <;> exact ⟨_, rfl, by decide, by decide⟩) v50 (by simpa using v51)
        obtain ⟨v8, e8, v80, v81⟩ := pk x (60 + (j : Int)) 5 (by omega) (by omega) (by omega)
        simp (disch := omega) [-List.map_map, e1, eb, e5, q1, e8, guardF_lt (show gs.length < 16777216 by omega), Kf_eq]
        have gok : GateOk n ⟨v1 - 1, b, v8 - 2, r⟩ := ⟨⟨by show -1 ≤ v1 - 1; omega, by show v1 - 1 < _; omega⟩, b0, Ne.symm ne, r0, by show r ≤ _; omega, by show _ ≤ v8 - 2; omega, by show v8 - 2 ≤ _; omega⟩
        refine (hJ _ _).mpr ⟨gs ++ [⟨v1 - 1, b, v8 - 2, r⟩], _, _, _, _, by rw [List.map_append]; rfl, by simp [hgl], fun q hq => ?_⟩
        rcases List.mem_append.mp hq with hq | hq
        · exact hgs q hq
        · rcases List.mem_singleton.mp hq with rfl
          exact ⟨gok, r1⟩
      · intro ρ hr
        obtain ⟨gs, u7, u12, u13, u14, rfl, hgl, hgs⟩ := (hJ _ _).mp hr
        simp [-List.map_map, exec_for, Kf_eq, e4]
        rw [rng1 (sm62_of (by omega) (by omega))]
        simp only [bind_ok, toFl_ok, listF_l]
        obtain ⟨L, hL⟩ : ∃ L : Nat → Sl → Prop, ∀ j ρ, L j ρ ↔ (∃ (ws : List MWheel) (u9 u15 u16 u17 : Slot), ρ = [.sh (.int x), .sh (.int g), .sh (.int w), .sh (.int n), .own (rs.map ringD), u5, .own (gs.map gateD), u7, .own (ws.map wheelD), u9, .un, u11, u12, u13, u14, u15, u16, u17, u18] ∧ ws.length = j ∧ ∀ q ∈ ws, WheelOk n q) := ⟨_, fun _ _ => Iff.rfl⟩
        refine wp_rngL L ((hL _ _).mpr ⟨[], _, _, _, _, rfl, rfl, fun _ h => absurd h List.not_mem_nil⟩) ?_ ?_
        · intro j ρ hj hr
          obtain ⟨ws, u9, u15, u16, u17, rfl, hwl, hws⟩ := (hL _ _).mp hr
          obtain ⟨v1, e1, v10, v11⟩ := pk x (70 + (j : Int)) n (by omega) (by omega) (by omega)
          obtain ⟨b, eb, b0, ne⟩ := unlike_spec Γu pku x (75 + (j : Int)) n v1 (by omega) n0 (by omega)
          have eb : callD Γ 1 [.int x, .int (75 + (j : Int)), .int n, .int v1] = _ := (k1 _).trans eb
          obtain ⟨v5, e5, v50, v51⟩ := pk x (95 + (j : Int)) 4 (by omega) (by omega) (by omega)
          obtain ⟨d1, q1, r, rfl, r0, r1⟩ := idx_all (l := [.int 1, .int 2, .int 5, .int 1000]) (q := v5) (fun d => ∃ r : Int, d = .int r ∧ 1 ≤ r ∧ r ≤ 1000) (by
            intro d hd
            simp at hd
            rcases hd with rfl | rfl | rfl | rfl <;> exact ⟨_, rfl, by decide, by decide⟩) v50 (by simpa using v51)
          obtain ⟨v8, e8, v80, v81⟩ := pk x (80 + (j : Int)) 2 (by omega) (by omega) (by omega)
          obtain ⟨v9, e9, v90, v91⟩ := pk x (85 + (j : Int)) 2 (by omega) (by omega) (by omega)
          simp (disch := omega) [-List.map_map, e1, eb, e5, q1, e8, e9, guardF_lt (show ws.length < 16777216 by omega), Kf_eq]
          have wok : WheelOk n ⟨v1, b, 1 + v8, 1 + v9, r⟩ := ⟨⟨v10, v11⟩, b0, Ne.symm ne, by show 1 ≤ 1 + v8; omega, by show 1 ≤ 1 + v9; omega, r0, by show 1 + v8 ≤ _; omega, by show 1 + v9 ≤ _; omega, by show r ≤ _; omega⟩
          refine (hL _ _).mpr ⟨ws ++ [⟨v1, b, 1 + v8, 1 + v9, r⟩], _, _, _, _, by rw [List.map_append]; rfl, by simp [hwl], fun q hq => ?_⟩
          rcases List.mem_append.mp hq with hq | hq
          · exact hws q hq
          · rcases List.mem_singleton.mp hq with rfl
            exact wok
        · intro ρ hr
          obtain ⟨ws, u9, u15, u16, u17, rfl, hwl, hws⟩ := (hL _ _).mp hr
          simp [-List.map_map, Kf_eq, e6, ep]
          refine (hQ _).mpr ⟨⟨v6 - 1, rs, ps, gs, ws⟩, rfl, ⟨fun r hr => ?_, ?_, ⟨?_, ?_, ?_⟩, fun p hp => (hps p hp).1, fun q hq => ?_, fun q hq => ?_, ?_, ?_, fun r hr => ?_⟩, fun p hp => ?_, fun q hq => (hgs q hq).2⟩
          · have := hro r hr
            exact ⟨this.sh.1, fun z => by have := this.len.1; rw [z] at this; exact absurd this (by decide)⟩
          · show 1 ≤ ps.length; omega
          · show ps.length ≤ 3; omega
          · show gs.length ≤ 3; omega
          · show ws.length ≤ 3; omega
          · show GateOk ps.length q
            rw [hpl]; exact (hgs q hq).1
          · show WheelOk ps.length q
            rw [hpl]; exact hws q hq
          · show rs.length ≤ 4; omega
          · show -1000 ≤ v6 - 1 ∧ v6 - 1 ≤ 1000; omega
          · exact (hro r hr).hs
          · show p.area ≤ 4 - (ps.length : Int) ∧ p.rim ≤ p.bottom + (4 - (ps.length : Int))
            rw [hpl]; exact (hps p hp).2)
  obtain ⟨m, rfl, h⟩ := (hQ d).mp hd
  exact ⟨m, e, h⟩
end Rf

/-! Rf: reflection. Part ZO: a turn as the laws of the small mills walk it. -/
namespace Rf
open PySem L2
def bTopS : S :=
  (.seq (.ifs (.cmp .GtE (.var 2) (.cst (.int 0))) (.seq (.asg 7 (.idx (.idx (.var 0) (.cst (.int 1))) (.var 2))) (.seq (.ret (.tup (.cons (.bin .Add (.bin .Mult (.idx (.var 7) (.cst (.int 2))) (.idx (.var 7) (.cst (.int 1)))) (.idx (.var 1) (.var 2))) (.cons (.idx (.var 7) (.cst (.int 1))) .nil)))) .nil)) .nil) (.seq (.asg 4 (.idx (.idx (.var 0) (.cst (.int 0))) (.cst (.int 0)))) (.seq (.fr (.tup [5, 6]) (.iseq (.idx (.idx (.var 0) (.cst (.int 0))) (.cst (.int 1)))) (.seq (.asg 4 (.bin .Add (.var 4) (.idx (.var 6) (.bin .Mod (.bin .Add (.var 3) (.var 5)) (.blt .len (.cons (.var 6) .nil)))))) .nil)) (.seq (.ret (.tup (.cons (.var 4) (.cons (.cst (.int 1)) .nil)))) .nil))))
def bFitsS : S :=
  (.seq (.ifs (.and (.cmp .GtE (.var 3) (.cst (.int 0))) (.cmp .Lt (.idx (.var 1) (.var 3)) (.cst (.int 0)))) (.seq (.ret (.cst (.bool false))) .nil) .nil) (.seq (.ifs (.cmp .Lt (.var 4) (.cst (.int 0))) (.seq (.ret (.cst (.bool true))) .nil) .nil) (.seq (.asg 5 (.idx (.idx (.var 0) (.cst (.int 1))) (.var 4))) (.seq (.ret (.cmp .LtE (.idx (.var 1) (.var 4)) (.bin .Mult (.idx (.var 5) (.cst (.int 1))) (.bin .Sub (.idx (.var 5) (.cst (.int 3))) (.idx (.var 5) (.cst (.int 2))))))) .nil))))
def bPassedS : S :=
  (.seq (.unp [4, 5, 6, 7] (.var 3)) (.seq (.unp [8, 9] (.comp (.call false 0 (.cons (.var 0) (.cons (.var 1) (.cons (.var 12) (.cons (.var 2) .nil))))) (.one 12) (.iseq (.tup (.cons (.var 5) (.cons (.var 4) .nil)))) [12])) (.seq (.ifs (.call false 1 (.cons (.var 8) (.cons (.var 9) .nil))) (.seq (.par 4 5 (.var 5) (.var 4)) (.seq (.par 8 9 (.var 9) (.var 8)) .nil)) .nil) (.seq (.ifs (.or (.call false 1 (.cons (.var 8) (.cons (.var 9) .nil))) (.call false 1 (.cons (.tup (.cons (.var 6) (.cons (.cst (.int 1)) .nil))) (.cons (.var 9) .nil)))) (.seq (.ret (.cst .none)) .nil) .nil) (.seq (.asg 10 (.cst (.int 0))) (.seq (.asg 11 (.call false 2 (.cons (.var 1) (.cons (.var 4) (.cons (.var 5) (.cons (.cst (.int 1)) .nil)))))) (.seq (.asg 9 (.call false 0 (.cons (.var 0) (.cons (.var 11) (.cons (.var 4) (.cons (.var 2) .nil)))))) (.seq (.whl (.and (.cmp .Lt (.var 10) (.var 7)) (.call false 3 (.cons (.var 0) (.cons (.var 11) (.cons (.var 2) (.cons (.var 4) (.cons (.var 5) .nil))))))) (.seq (.asg 8 (.call false 0 (.cons (.var 0) (.cons (.var 11) (.cons (.var 5) (.cons (.var 2) .nil)))))) (.seq (.ifs (.or (.not (.call false 1 (.cons (.var 9) (.cons (.var 8) .nil)))) (.not (.call false 1 (.cons (.var 9) (.cons (.tup (.cons (.var 6) (.cons (.cst (.int 1)) .nil))) .nil))))) (.seq .brk .nil) .nil) (.seq (.asg 10 (.bin .Add (.var 10) (.cst (.int 1)))) (.seq (.asg 11 (.call false 2 (.cons (.var 1) (.cons (.var 4) (.cons (.var 5) (.cons (.bin .Add (.var 10) (.cst (.int 1))) .nil)))))) (.seq (.asg 9 (.call false 0 (.cons (.var 0) (.cons (.var 11) (.cons (.var 4) (.cons (.var 2) .nil)))))) .nil)))))) (.seq (.ret (.ite (.cmp .Eq (.var 10) (.cst (.int 0))) (.cst .none) (.tup (.cons (.var 4) (.cons (.var 5) (.cons (.var 10) .nil)))))) .nil)))))))))
def bCanS : S :=
  (.seq (.unp [4, 5, 6, 7] (.sl false (.var 3) .non (.cst (.int 4)))) (.seq (.asg 8 (.call false 0 (.cons (.var 0) (.cons (.var 1) (.cons (.var 4) (.cons (.var 2) .nil)))))) (.seq (.asg 9 (.call false 0 (.cons (.var 0) (.cons (.var 1) (.cons (.var 5) (.cons (.var 2) .nil)))))) (.seq (.ifs (.not (.call false 1 (.cons (.tup (.cons (.bin .Sub (.idx (.var 8) (.cst (.int 0))) (.bin .Mult (.var 6) (.idx (.var 8) (.cst (.int 1))))) (.cons (.idx (.var 8) (.cst (.int 1))) .nil))) (.cons (.var 9) .nil)))) (.seq (.ret (.cst (.bool false))) .nil) .nil) (.seq (.ret (.call false 2 (.cons (.var 0) (.cons (.call false 3 (.cons (.var 1) (.cons (.var 4) (.cons (.var 5) (.cons (.var 7) .nil))))) (.cons (.var 2) (.cons (.var 4) (.cons (.var 5) .nil))))))) .nil)))))
def bTurnedS : S :=
  (.seq (.asg 5 (.lst .nil)) (.seq (.asg 6 (.cst (.int 0))) (.seq (.fr (.one 7) (.irng (.cons (.blt .len (.cons (.idx (.var 0) (.cst (.int 2))) .nil)) .nil)) (.seq (.asg 9 (.ite (.idx (.var 3) (.var 7)) (.call false 0 (.cons (.var 0) (.cons (.var 1) (.cons (.var 2) (.cons (.idx (.idx (.var 0) (.cst (.int 2))) (.var 7)) .nil))))) (.cst .none))) (.seq (.ifs (.cmp .IsNot (.var 9) (.cst .none)) (.seq (.asg 1 (.call false 1 (.cons (.var 1) (.cons (.idx (.var 9) (.cst (.int 0))) (.cons (.idx (.var 9) (.cst (.int 1))) (.cons (.idx (.var 9) (.cst (.int 2))) .nil)))))) (.seq (.app 5 (.bin .Add (.tup (.cons (.cst (.str "gate")) (.cons (.var 7) .nil))) (.var 9))) .nil)) .nil) .nil))) (.seq (.fr (.one 8) (.irng (.cons (.blt .len (.cons (.idx (.var 0) (.cst (.int 3))) .nil)) .nil)) (.seq (.ifs (.and (.idx (.var 4) (.var 8)) (.call false 2 (.cons (.var 0) (.cons (.var 1) (.cons (.var 2) (.cons (.idx (.idx (.var 0) (.cst (.int 3))) (.var 8)) .nil)))))) (.seq (.asg 1 (.call false 1 (.cons (.var 1) (.cons (.idx (.idx (.idx (.var 0) (.cst (.int 3))) (.var 8)) (.cst (.int 0))) (.cons (.idx (.idx (.idx (.var 0) (.cst (.int 3))) (.var 8)) (.cst (.int 1))) (.cons (.idx (.idx (.idx (.var 0) (.cst (.int 3))) (.var 8)) (.cst (.int 3))) .nil)))))) (.seq (.app 5 (.tup (.cons (.cst (.str "wheel")) (.cons (.var 8) .nil)))) (.seq (.asg 6 (.bin .Add (.var 6) (.idx (.idx (.idx (.var 0) (.cst (.int 3))) (.var 8)) (.cst (.int 4))))) .nil))) .nil) .nil)) (.seq (.frz 5) (.seq (.ret (.tup (.cons (.var 1) (.cons (.var 5) (.cons (.var 6) .nil))))) .nil))))))

theorem top_specS (Γ : Rf.Ctx) {m : Mill} {cs : List Int} {t s : Int} (h : m.Ok) (hc : CW m cs) (hs : Side m s) : run Γ .sh 8 bTopS [m.d, .tuple (cs.map .int), .int s, .int t] = .ok (lvD (lv m cs t s)) := by
  refine run_eq ?_
  unfold bTopS
  have lo := hs.lo
  by_cases c : 0 ≤ s
  · have hi : s.toNat < m.ponds.length := by have := hs.hi; omega
    have ix := idxAT (g := pondD) (l := m.ponds) (q := s) c hs.hi
    have iy := idx_intsT (l := cs) (q := s) c (by rw [hc.len]; exact hs.hi)
    have pk := pond_at h hi
    have h1 := pk.area
    have h3 := pk.bd
    rw [lv_pond c]
    generalize nthA m.ponds s.toNat = p at *
    simp [-List.map_map, List.replicate, c, Kf_eq, mill_ponds, ix, iy, lvD]
    simp [-List.map_map, pondD, iy, mul_ok_r (n := p.bottom) (q := p.area) (by omega) (by omega)]
  · have c2 : s = -1 := by omega
    subst c2
    rw [lv_sea]
    have s0 : idxD (seaD m.base m.rings) (.int 0) = .ok (.int m.base) := by simp [seaD]
    have s1 : idxD (seaD m.base m.rings) (.int 1) = .ok (.tuple (m.rings.map ringD)) := by simp [seaD]
    simp [-List.map_map, List.replicate, Kf_eq, exec_for, mill_sea, s0, s1]
    obtain ⟨I, hI⟩ : ∃ I : Nat → Sl → Prop, ∀ j ρ, I j ρ ↔ (∃ (v : Int) (u5 u6 : Slot), ρ = [.sh m.d, .sh (.tuple (cs.map .int)), .sh (.int (-1)), .sh (.int t), .sh (.int v), u5, u6, .un] ∧ v = m.base + ((m.rings.take j).map (rAt t)).sum) := ⟨_, fun _ _ => Iff.rfl⟩
    refine wp_forL I ((hI _ _).mpr ⟨_, _, _, rfl, by simp⟩) ?_ ?_
    · intro j d ρ hd hr
      obtain ⟨v, u5, u6, rfl, hv⟩ := (hI _ _).mp hr
      rw [List.getElem?_map] at hd
      cases q1 : m.rings[j]? with
      | none => rw [q1] at hd; cases hd
      | some r =>
        rw [q1] at hd
        cases hd
        refine ⟨_, rfl, ?_⟩
        have ht : m.rings.take (j + 1) = m.rings.take j ++ [r] := by rw [List.take_add_one, q1]; rfl
        have hl : 0 < r.2.length := List.length_pos_iff.mpr (ring_ne h r (List.mem_of_getElem? q1))
        have h1 := Int.emod_nonneg (t + r.1) (show (r.2.length : Int) ≠ 0 by omega)
        have h2 := Int.emod_lt_of_pos (t + r.1) (show (0 : Int) < r.2.length by omega)
        simp [-List.map_map, mod_ok (show (0 : Int) < r.2.length by omega), idx_intsT h1 h2]
        refine (hI _ _).mpr ⟨_, _, _, rfl, ?_⟩
        rw [ht, List.map_append, List.sum_append, hv]
        simp [rAt, Int.add_assoc]
    · intro ρ hr
      obtain ⟨v, u5, u6, rfl, hv⟩ := (hI _ _).mp hr
      rw [List.length_map, List.take_length] at hv
      simp [Kf_eq, hv, seaAt, lvD]
def fitB (m : Mill) (b : List Int) (g k : Int) : Bool := decide ((0 ≤ g → 0 ≤ nth b g.toNat) ∧ (0 ≤ k → nth b k.toNat ≤ holdP (nthA m.ponds k.toNat)))
theorem fits_specS (Γ : Rf.Ctx) {m : Mill} {b : List Int} {t g k : Int} (h : m.Ok) (hl : b.length = m.ponds.length) (hg : Side m g) (hk : Side m k) : run Γ .sh 6 bFitsS [m.d, .tuple (b.map .int), .int t, .int g, .int k] = .ok (.bool (fitB m b g k)) := by
  refine run_eq ?_
  unfold bFitsS fitB
  have lo := hk.lo
  by_cases c1 : 0 ≤ g
  · have ig := idx_intsT (l := b) (q := g) c1 (by rw [hl]; exact hg.hi)
    by_cases c2 : nth b g.toNat < 0
    · simp [-List.map_map, List.replicate, c1, ig, c2]
      omega
    · by_cases c : 0 ≤ k
      · have hi : k.toNat < m.ponds.length := by have := hk.hi; omega
        have ix := idxAT (g := pondD) (l := m.ponds) (q := k) c hk.hi
        have iy := idx_intsT (l := b) (q := k) c (by rw [hl]; exact hk.hi)
        have pk := pond_at h hi
        have h1 := pk.area
        have h3 := pk.bd
        unfold holdP
        generalize nthA m.ponds k.toNat = p at *
        simp (disch := omega) [-List.map_map, List.replicate, c1, ig, c2, show ¬ k < 0 by omega, c, Kf_eq, mill_ponds, ix, iy, pondD, mul_ok_l, show 0 ≤ nth b g.toNat by omega]
      · simp [-List.map_map, List.replicate, c1, ig, c2, show k < 0 by omega, Kf_eq, c, show 0 ≤ nth b g.toNat by omega]
  · by_cases c : 0 ≤ k
    · have hi : k.toNat < m.ponds.length := by have := hk.hi; omega
      have ix := idxAT (g := pondD) (l := m.ponds) (q := k) c hk.hi
      have iy := idx_intsT (l := b) (q := k) c (by rw [hl]; exact hk.hi)
      have pk := pond_at h hi
      have h1 := pk.area
      have h3 := pk.bd
      unfold holdP
      generalize nthA m.ponds k.toNat = p at *
      simp (disch := omega) [-List.map_map, List.replicate, c1, show ¬ k < 0 by omega, c, Kf_eq, mill_ponds, ix, iy, pondD, mul_ok_l]
    · simp [-List.map_map, List.replicate, c1, show k < 0 by omega, Kf_eq, c]
theorem passed_specS (Γ : Rf.Ctx) {m : Mill} {cs : List Int} {t : Int} (h : m.Ok) (hc : COk m cs) {gt : MGate} (gk : GateOk m.ponds.length gt)
    (e0 : ∀ cs s, CW m cs → Side m s → callD Γ 0 [m.d, .tuple (cs.map .int), .int s, .int t] = .ok (lvD (lv m cs t s)))
    (e1 : ∀ x y, LvW x → LvW y → callD Γ 1 [lvD x, lvD y] = .ok (.bool (decide (geq x y))))
    (e2 : ∀ g k B, Side m g → Side m k → g ≠ k → callD Γ 2 [.tuple (cs.map .int), .int g, .int k, .int B] = .ok (.tuple ((shL cs g k B).map .int)))
    (e3 : ∀ b g k, b.length = m.ponds.length → Side m g → Side m k → callD Γ 3 [m.d, .tuple (b.map .int), .int t, .int g, .int k] = .ok (.bool (fitB m b g k))) :
    run Γ .sh 13 bPassedS [m.d, .tuple (cs.map .int), .int t, gateD gt] = .ok (passD (passO m cs t gt)) := by
  refine run_eq ?_
  unfold bPassedS
  have ps := pass_sides h hc gk (t := t)
  have s1 : Side m gt.one := ⟨gk.one.1, gk.one.2⟩
  have s2 : Side m gt.other := ⟨gk.other.1, gk.other.2⟩
  have hw := COk.w h hc
  have sw := sillW (x := gt.sill) gk.bd.2
  have rb := gk.bd
  have r0 := gk.rate
  have tp1 := e0 cs gt.one hw s1
  have tp2 := e0 cs gt.other hw s2
  have nl1 := e1 _ _ (lvw_ok h hw s2 (t := t)) (lvw_ok h hw s1 (t := t))
  have nl2 := e1 _ _ (lvw_ok h hw s1 (t := t)) (lvw_ok h hw s2 (t := t))
  have ns1 := e1 _ _ sw (lvw_ok h hw s1 (t := t))
  have ns2 := e1 _ _ sw (lvw_ok h hw s2 (t := t))
  have hcomp : ∀ f : D → Res (Option D), (∀ s, s = gt.one ∨ s = gt.other → f (.int s) = .ok (some (lvD (lv m cs t s)))) → compD f (.list [.int gt.other, .int gt.one]) = .ok (.list [lvD (lv m cs t gt.other), lvD (lv m cs t gt.one)]) := fun f hf => by
    have := compD_map (f := f) (g := PyData.int) (l := [gt.other, gt.one]) (fun s => lvD (lv m cs t s)) (by simp) (fun s hs => hf s (by simp at hs; omega))
    exact this
  /- the loop -/
  have loop : ∀ (g k : Int) (u12 : Slot), Side m g → Side m k → g ≠ k → ¬ geq (gt.sill, 1) (lv m cs t g) →
      Wp (exec Γ .sh (dropS 4 bPassedS) [.sh m.d, .sh (.tuple (cs.map .int)), .sh (.int t), .sh (gateD gt), .sh (.int g), .sh (.int k), .sh (.int gt.sill), .sh (.int gt.rate), .sh (lvD (lv m cs t k)), .sh (lvD (lv m cs t g)), .un, .un, u12]) No No No
        (fun z => z = passD (if passB m cs t g k gt.sill gt.rate ≤ 0 then none else some (g, k, passB m cs t g k gt.sill gt.rate))) := by
    intro g k u12 hg hk hne hs
    unfold bPassedS dropS dropS dropS dropS dropS
    have fit := fun B => fits_iff h hc hg hk hne hs (rate := gt.rate) (B := B)
    have pb := (passB_le (m := m) (cs := cs) (t := t) (g := g) (k := k) (sill := gt.sill) (rate := gt.rate)).1
    have cw := fun B (h1 : -10000000 ≤ B) (h2 : B ≤ 10000000) => shL_cw (m := m) (g := g) (k := k) (B := B) h hc hne ⟨h1, h2⟩
    have sh := fun B => e2 g k B hg hk hne
    have sh1 := sh 1
    have tpg1 := e0 _ g (cw 1 (by decide) (by decide)) hg
    unfold fitsP at fit
    generalize passB m cs t g k gt.sill gt.rate = b at *
    simp [-List.map_map, sh1, tpg1, exec_whl]
    obtain ⟨I, hI⟩ : ∃ I : Nat → Sl → Prop, ∀ n ρ, I n ρ ↔ (∃ (j : Int) (u8 u12 : Slot), ρ = [.sh m.d, .sh (.tuple (cs.map .int)), .sh (.int t), .sh (gateD gt), .sh (.int g), .sh (.int k), .sh (.int gt.sill), .sh (.int gt.rate), u8, .sh (lvD (lv m (shL cs g k (j + 1)) t g)), .sh (.int j), .sh (.tuple ((shL cs g k (j + 1)).map .int)), u12] ∧ 0 ≤ j ∧ j ≤ gt.rate ∧ (j = 0 ∨ j ≤ b) ∧ n = (gt.rate - j).toNat) := ⟨_, fun _ _ => Iff.rfl⟩
    have fin : ∀ (j : Int) (u8 u9 u11 u12 : Slot), 0 ≤ j → (j = 0 ∨ j ≤ b) → b < j + 1 → Wp (exec Γ .sh (dropS 8 bPassedS) [.sh m.d, .sh (.tuple (cs.map .int)), .sh (.int t), .sh (gateD gt), .sh (.int g), .sh (.int k), .sh (.int gt.sill), .sh (.int gt.rate), u8, u9, .sh (.int j), u11, u12]) No No No (fun z => z = passD (if b ≤ 0 then none else some (g, k, b))) := by
      intro j u8 u9 u11 u12 j0 j1 j2
      unfold bPassedS dropS dropS dropS dropS dropS dropS dropS dropS dropS
      by_cases c : j = 0
      · subst c
        rw [if_pos (by omega)]
        simp [-List.map_map, passD]
      · have e : j = b := by omega
        subst e
        rw [if_neg (by omega)]
        simp [-List.map_map, c, passD]
    refine wp_whl I (gt.rate - 0).toNat (by unfold fuel; omega) ((hI _ _).mpr ⟨0, _, _, rfl, by omega, by omega, .inl rfl, rfl⟩) ?_
    intro n ρ hr
    obtain ⟨j, u8, u12, rfl, j0, jr, jb, hn⟩ := (hI _ _).mp hr
    have cwj := cw (j + 1) (by omega) (by omega)
    have fb := e3 (shL cs g k (j + 1)) g k cwj.len hg hk
    have ft := fit (j + 1)
    by_cases c1 : j < gt.rate
    · by_cases c2 : fitB m (shL cs g k (j + 1)) g k = true
      · refine ⟨true, by simp [-List.map_map, c1, fb, c2], ?_⟩
        have c2' := of_decide_eq_true c2
        have tk := e0 _ k cwj hk
        have n1 := e1 _ _ (lvw_ok h cwj hg (t := t)) (lvw_ok h cwj hk (t := t))
        have n2 := e1 _ _ (lvw_ok h cwj hg (t := t)) sw
        have n2' : callD Γ 1 [lvD (lv m (shL cs g k (j + 1)) t g), .tuple [.int gt.sill, .int 1]] = _ := n2
        have sj := sh (j + 1 + 1)
        have cw2 := cw (j + 1 + 1) (by omega) (by omega)
        have tg2 := e0 _ g cw2 hg
        by_cases d1 : geq (lv m (shL cs g k (j + 1)) t g) (lv m (shL cs g k (j + 1)) t k)
        · by_cases d2 : geq (lv m (shL cs g k (j + 1)) t g) (gt.sill, 1)
          · have hb : j + 1 ≤ b := ft.mp ⟨by omega, d2, c2'.1, c2'.2, d1⟩
            simp [-List.map_map, tk, n1, n2', d1, d2, Kf_eq, sj, tg2]
            exact ⟨_, by omega, (hI _ _).mpr ⟨j + 1, _, _, rfl, by omega, by omega, by omega, rfl⟩⟩
          · have hb : ¬ j + 1 ≤ b := fun z => d2 (ft.mpr z).2.1
            simp [-List.map_map, tk, n1, n2', d1, d2]
            have := fin j
            unfold bPassedS dropS dropS dropS dropS dropS dropS dropS dropS dropS at this
            rw [Kf_eq]
            exact this _ _ _ _ j0 jb (by omega)
        · have hb : ¬ j + 1 ≤ b := fun z => d1 (ft.mpr z).2.2.2.2
          simp [-List.map_map, tk, n1, n2', d1]
          have := fin j
          unfold bPassedS dropS dropS dropS dropS dropS dropS dropS dropS dropS at this
          rw [Kf_eq]
          exact this _ _ _ _ j0 jb (by omega)
      · have c2 : fitB m (shL cs g k (j + 1)) g k = false := by simpa using c2
        refine ⟨false, by simp [-List.map_map, c1, fb, c2], ?_⟩
        have hb : ¬ j + 1 ≤ b := fun z => by
          have q := ft.mpr z
          have := of_decide_eq_false c2
          exact this ⟨q.2.2.1, q.2.2.2.1⟩
        have := fin j
        unfold bPassedS dropS dropS dropS dropS dropS dropS dropS dropS dropS at this
        simp only [Bool.false_eq_true, if_false]
        rw [Kf_eq]
        exact this _ _ _ _ j0 jb (by omega)
    · refine ⟨false, by simp [-List.map_map, c1], ?_⟩
      have := fin j
      unfold bPassedS dropS dropS dropS dropS dropS dropS dropS dropS dropS at this
      simp only [Bool.false_eq_true, if_false]
      rw [Kf_eq]
      exact this _ _ _ _ j0 jb (by omega)
  unfold sidesO at ps
  have hu : ∀ is ρ, unpD is (gateD gt) ρ = optF (setAll is [.int gt.one, .int gt.other, .int gt.sill, .int gt.rate] ρ) := fun _ _ => rfl
  simp [-List.map_map, List.replicate, hu]
  rw [hcomp _ (fun s hs => by
    rcases hs with rfl | rfl
    · simp [-List.map_map, tp1]
    · simp [-List.map_map, tp2])]
  have ns1' : callD Γ 1 [.tuple [.int gt.sill, .int 1], lvD (lv m cs t gt.one)] = _ := ns1
  have ns2' : callD Γ 1 [.tuple [.int gt.sill, .int 1], lvD (lv m cs t gt.other)] = _ := ns2
  simp [-List.map_map, nl1]
  by_cases c : geq (lv m cs t gt.other) (lv m cs t gt.one)
  · rw [if_pos c] at ps
    rw [if_pos c]
    unfold sidesT at ps
    have lp := loop gt.other gt.one
    unfold bPassedS dropS dropS dropS dropS dropS at lp
    by_cases d1 : geq (lv m cs t gt.one) (lv m cs t gt.other)
    · rw [if_pos (.inl d1)] at ps
      simp only at ps
      rw [ps]
      simp [-List.map_map, Kf_eq, nl2, d1, passD]
    · by_cases d2 : geq (gt.sill, 1) (lv m cs t gt.other)
      · rw [if_pos (.inr d2)] at ps
        simp only at ps
        rw [ps]
        simp [-List.map_map, Kf_eq, nl2, d1, ns2', d2, passD]
      · rw [if_neg (by rintro (z | z); exact d1 z; exact d2 z)] at ps
        obtain ⟨ps, hg, hk, hne, hs, _⟩ := ps
        rw [ps]
        simp only [Kf_eq]
        simp [-List.map_map, nl2, d1, ns2', d2]
        rw [Kf_eq]
        exact lp _ hg hk hne hs
  · rw [if_neg c] at ps
    rw [if_neg c]
    unfold sidesT at ps
    have lp := loop gt.one gt.other
    unfold bPassedS dropS dropS dropS dropS dropS at lp
    by_cases d2 : geq (gt.sill, 1) (lv m cs t gt.one)
    · rw [if_pos (.inr d2)] at ps
      simp only at ps
      rw [ps]
      simp [-List.map_map, Kf_eq, nl1, c, ns1', d2, passD]
    · rw [if_neg (by rintro (z | z); exact c z; exact d2 z)] at ps
      obtain ⟨ps, hg, hk, hne, hs, _⟩ := ps
      rw [ps]
      simp only [Kf_eq]
      simp [-List.map_map, nl1, c, ns1', d2]
      rw [Kf_eq]
      exact lp _ hg hk hne hs
theorem can_specS (Γ : Rf.Ctx) {m : Mill} {cs : List Int} {t : Int} (h : m.Ok) (hc : COk m cs) {w : MWheel} (wk : WheelOk m.ponds.length w)
    (e0 : ∀ cs s, CW m cs → Side m s → callD Γ 0 [m.d, .tuple (cs.map .int), .int s, .int t] = .ok (lvD (lv m cs t s)))
    (e1 : ∀ x y, LvW x → LvW y → callD Γ 1 [lvD x, lvD y] = .ok (.bool (decide (geq x y))))
    (e2 : ∀ b g k, b.length = m.ponds.length → Side m g → Side m k → callD Γ 2 [m.d, .tuple (b.map .int), .int t, .int g, .int k] = .ok (.bool (fitB m b g k)))
    (e3 : ∀ g k B, Side m g → Side m k → g ≠ k → callD Γ 3 [.tuple (cs.map .int), .int g, .int k, .int B] = .ok (.tuple ((shL cs g k B).map .int))) :
    run Γ .sh 10 bCanS [m.d, .tuple (cs.map .int), .int t, wheelD w] = .ok (.bool (canO m cs t w)) := by
  refine run_eq ?_
  unfold bCanS
  have s1 : Side m w.pond := ⟨by have := wk.pond; omega, wk.pond.2⟩
  have s2 : Side m w.tail := ⟨wk.tail.1, wk.tail.2⟩
  have hw := COk.w h hc
  have st1 := e0 cs w.pond hw s1
  have st2 := e0 cs w.tail hw s2
  have A := lv_ok h hc s1 (t := t)
  have B := lvw_ok h hw s2 (t := t)
  have wf := wk.fall
  have wb := wk.bd
  have q := mul_bd (a := w.fall) (b := (lv m cs t w.pond).2) (A := 1000000) (B := 1000000) (by omega) ⟨by have := A.u0; omega, A.u1⟩ (by decide)
  have C : LvW ((lv m cs t w.pond).1 - w.fall * (lv m cs t w.pond).2, (lv m cs t w.pond).2) := ⟨A.u0, A.u1, by have := A.t0; show _ ≤ _ - _; omega, by have := A.t1; show _ - _ ≤ _; omega⟩
  have nl := e1 _ _ C B
  have ci := can_iff h hc s1 s2 (t := t) (fall := w.fall)
  have cj : geq ((lv m cs t w.pond).1 - w.fall * (lv m cs t w.pond).2, (lv m cs t w.pond).2) (lv m cs t w.tail) ↔ geq (lv m cs t w.pond) ((lv m cs t w.tail).1 + w.fall * (lv m cs t w.tail).2, (lv m cs t w.tail).2) := by
    show (lv m cs t w.tail).1 * (lv m cs t w.pond).2 ≤ ((lv m cs t w.pond).1 - w.fall * (lv m cs t w.pond).2) * (lv m cs t w.tail).2 ↔ ((lv m cs t w.tail).1 + w.fall * (lv m cs t w.tail).2) * (lv m cs t w.pond).2 ≤ (lv m cs t w.pond).1 * (lv m cs t w.tail).2
    rw [Int.sub_mul, Int.add_mul, Int.mul_assoc w.fall, Int.mul_assoc w.fall, Int.mul_comm (lv m cs t w.tail).2 (lv m cs t w.pond).2]
    omega
  have hsl : slD false (wheelD w) none (some 4) = .ok (.tuple [.int w.pond, .int w.tail, .int w.fall, .int w.drink]) := by
    show slD false (.tuple [.int w.pond, .int w.tail, .int w.fall, .int w.drink, .int w.grind]) none (some 4) = _
    rw [slD_t, show (4 : Int) = ((4 : Nat) : Int) from rfl, cut_take]; rfl
  have l0 : ∀ x : Int × Int, idxD (lvD x) (.int 0) = .ok (.int x.1) := fun x => by simp [lvD]
  have l1 : ∀ x : Int × Int, idxD (lvD x) (.int 1) = .ok (.int x.2) := fun x => by simp [lvD]
  have sh := e3 w.pond w.tail w.drink s1 s2 wk.ne
  have fb := e2 (shL cs w.pond w.tail w.drink) w.pond w.tail (by rw [shL_len, hc.len]) s1 s2
  have hf : fitB m (shL cs w.pond w.tail w.drink) w.pond w.tail = (decide (w.drink ≤ nth cs w.pond.toNat) && (decide (w.tail = -1) || decide (nth cs w.tail.toNat + w.drink ≤ holdP (nthA m.ponds w.tail.toNat)))) := by
    unfold fitB
    rw [← Bool.decide_or, ← Bool.decide_and]
    refine decide_eq_decide.mpr ?_
    rw [shL_g hc.len s1 wk.pond.1 wk.ne]
    have hp := wk.pond.1
    have ht := wk.tail.1
    by_cases c : 0 ≤ w.tail
    · rw [shL_k hc.len s2 c wk.ne]
      constructor
      · rintro ⟨x, y⟩
        have := x hp
        exact ⟨by omega, .inr (y c)⟩
      · rintro ⟨x, y⟩
        exact ⟨fun _ => by omega, fun _ => by rcases y with y | y; omega; exact y⟩
    · constructor
      · rintro ⟨x, y⟩
        have := x hp
        exact ⟨by omega, .inl (by omega)⟩
      · rintro ⟨x, y⟩
        exact ⟨fun _ => by omega, fun z => absurd z c⟩
  have nl2 : callD Γ 1 [.tuple [.int ((lv m cs t w.pond).1 - w.fall * (lv m cs t w.pond).2), .int (lv m cs t w.pond).2], lvD (lv m cs t w.tail)] = .ok (.bool (decide (w.fall * (fo m cs t w.pond w.tail).2 ≤ (fo m cs t w.pond w.tail).1))) := by
    have e := nl
    rw [decide_eq_decide.mpr (cj.trans ci.symm)] at e
    exact e
  clear nl ci cj
  unfold canO
  have A0 := A.u0
  have A1 := A.u1
  rw [hf] at fb
  generalize decide (w.fall * (fo m cs t w.pond w.tail).2 ≤ (fo m cs t w.pond w.tail).1) = z at nl2 ⊢
  generalize (decide (w.drink ≤ nth cs w.pond.toNat)) = z1 at fb ⊢
  generalize (decide (w.tail = -1) || decide (nth cs w.tail.toNat + w.drink ≤ holdP (nthA m.ponds w.tail.toNat))) = z2 at fb ⊢
  generalize lv m cs t w.tail = Y at *
  generalize lv m cs t w.pond = X at *
  simp [-List.map_map, List.replicate, hsl, st1, st2, l0, l1, mul_ok_l (n := w.fall) (q := X.2) (by omega) (by omega), nl2]
  cases z with
  | false => simp [-List.map_map, Kf_eq]
  | true => simp [-List.map_map, Kf_eq, sh, fb]
theorem turned_specS (Γ : Rf.Ctx) {m : Mill} {cs : List Int} {t : Int} {st rn : List Bool} (h : m.Ok) (hc : COk m cs) (hst : st.length = m.gates.length) (hrn : rn.length = m.wheels.length)
    (e0 : ∀ cs, COk m cs → ∀ i, i < m.gates.length → callD Γ 0 [m.d, .tuple (cs.map .int), .int t, gateD (nthA m.gates i)] = .ok (passD (passO m cs t (nthA m.gates i))))
    (e1 : ∀ cs a b n, COk m cs → Side m a → Side m b → a ≠ b → callD Γ 1 [.tuple (cs.map .int), .int a, .int b, .int n] = .ok (.tuple ((shL cs a b n).map .int)))
    (e2 : ∀ cs, COk m cs → ∀ i, i < m.wheels.length → callD Γ 2 [m.d, .tuple (cs.map .int), .int t, wheelD (nthA m.wheels i)] = .ok (.bool (canO m cs t (nthA m.wheels i)))) :
    run Γ .sh 10 bTurnedS [m.d, .tuple (cs.map .int), .int t, .tuple (st.map .bool), .tuple (rn.map .bool)] = .ok (doneD (turnO m cs t st rn)) := by
  refine run_eq ?_
  unfold bTurnedS
  have few := h.few
  simp (disch := omega) [-List.map_map, List.replicate, mill_gates, exec_for]
  rw [rng1 (sm62_of (by omega) (by omega))]
  simp only [bind_ok, toFl_ok, listF_l]
  obtain ⟨I, hI⟩ : ∃ I : Nat → Sl → Prop, ∀ j ρ, I j ρ ↔ (∃ (p : List Int × List Row) (u7 u9 : Slot), ρ = [.sh m.d, .sh (.tuple (p.1.map .int)), .sh (.int t), .sh (.tuple (st.map .bool)), .sh (.tuple (rn.map .bool)), .own (p.2.map rowD), .sh (.int 0), u7, .un, u9] ∧ p = gatesO m t st (cs, []) j) := ⟨_, fun _ _ => Iff.rfl⟩
  refine wp_rngL I ((hI _ _).mpr ⟨(cs, []), _, _, rfl, rfl⟩) ?_ ?_
  · intro j ρ hj hr
    obtain ⟨p, u7, u9, rfl, hp⟩ := (hI _ _).mp hr
    have hj : j < m.gates.length := by omega
    have hpc : COk m p.1 := by rw [hp]; exact gatesO_ok h hc j (by omega)
    have hpl : p.2.length < 16777216 := by
      have := gatesO_len (m := m) (t := t) (st := st) (p := (cs, [])) j
      rw [← hp] at this
      have : p.2.length ≤ 0 + j := this
      omega
    have ib := idx_boolsT (l := st) (q := j) (by omega)
    have ig := idxAT (g := gateD) (l := m.gates) (q := (j : Int)) (by omega) (by omega)
    rw [Int.toNat_natCast] at ig
    have e := e0 p.1 hpc j hj
    have hs : gatesO m t st (cs, []) (j + 1) = gateStep m t st j p := by rw [hp]; rfl
    unfold gateStep at hs
    by_cases c : nthA st j = true
    · rw [if_pos c] at hs
      cases q : passO m p.1 t (nthA m.gates j) with
      | none =>
        rw [q] at e hs
        have e : callD Γ 0 [m.d, .tuple (p.1.map .int), .int t, gateD (nthA m.gates j)] = .ok .none := e
        have h2 : cmpB .IsNot .none .none = .ok false := rfl
        simp [-List.map_map, ib, mill_gates, ig, c, e, h2, Kf_eq]
        exact (hI _ _).mpr ⟨p, _, _, rfl, hs.symm⟩
      | some x =>
        obtain ⟨a, b, n⟩ := x
        obtain ⟨_, sa, sb, hne, _, _⟩ := pass_ok h hpc hj q
        rw [q] at e hs
        have e : callD Γ 0 [m.d, .tuple (p.1.map .int), .int t, gateD (nthA m.gates j)] = .ok (.tuple [.int a, .int b, .int n]) := e
        have h2 : cmpB .IsNot (.tuple [.int a, .int b, .int n]) .none = .ok true := rfl
        have es := e1 p.1 a b n hpc sa sb hne
        have ad : binD .Add (.tuple [.str "gate", .int j]) (.tuple [.int a, .int b, .int n]) = .ok (rowD (.gate j a b n)) := add_tup (by show 5 ≤ _; decide)
        simp [-List.map_map, ib, mill_gates, ig, c, e, h2, es, ad, Kf_eq, guardF_lt hpl]
        exact (hI _ _).mpr ⟨(shL p.1 a b n, p.2 ++ [.gate j a b n]), _, _, by rw [List.map_append]; rfl, hs.symm⟩
    · rw [if_neg c] at hs
      have c : nthA st j = false := by simpa using c
      have h2 : cmpB .IsNot .none .none = .ok false := rfl
      simp [-List.map_map, ib, c, h2, Kf_eq]
      exact (hI _ _).mpr ⟨p, _, _, rfl, hs.symm⟩
  · intro ρ hr
    obtain ⟨q0, u7, u9, rfl, hp⟩ := (hI _ _).mp hr
    rw [show ((m.gates.length : Int) - 0).toNat = m.gates.length by omega] at hp
    have ok0 := gatesO_ok (t := t) (st := st) (p := (cs, [])) h hc _ (Nat.le_refl _)
    have len0 : (gatesO m t st (cs, []) m.gates.length).2.length ≤ 0 + m.gates.length := gatesO_len (p := (cs, [])) m.gates.length
    unfold turnO
    rw [← hp] at ok0 len0 ⊢
    simp (disch := omega) [-List.map_map, Kf_eq, mill_wheels, exec_for]
    rw [rng1 (sm62_of (by omega) (by omega))]
    simp only [bind_ok, toFl_ok, listF_l]
    obtain ⟨J, hJ⟩ : ∃ J : Nat → Sl → Prop, ∀ j ρ, J j ρ ↔ (∃ (p : Done) (u8 : Slot), ρ = [.sh m.d, .sh (.tuple (p.1.map .int)), .sh (.int t), .sh (.tuple (st.map .bool)), .sh (.tuple (rn.map .bool)), .own (p.2.1.map rowD), .sh (.int p.2.2), u7, u8, u9] ∧ p = wheelsO m t rn (q0.1, q0.2, 0) j) := ⟨_, fun _ _ => Iff.rfl⟩
    refine wp_rngL J ((hJ _ _).mpr ⟨(q0.1, q0.2, 0), _, rfl, rfl⟩) ?_ ?_
    · intro j ρ hj hr
      obtain ⟨p, u8, rfl, hp⟩ := (hJ _ _).mp hr
      have hj : j < m.wheels.length := by omega
      have hpc : COk m p.1 := by rw [hp]; exact wheelsO_ok (p := (q0.1, q0.2, 0)) h ok0 j (by omega)
      have hpl : p.2.1.length < 16777216 := by
        have := wheelsO_len (m := m) (t := t) (rn := rn) (p := (q0.1, q0.2, 0)) j
        rw [← hp] at this
        have : p.2.1.length ≤ q0.2.length + j := this
        omega
      have ib := idx_boolsT (l := rn) (q := j) (by omega)
      have e := e2 p.1 hpc j hj
      have hs : wheelsO m t rn (q0.1, q0.2, 0) (j + 1) = wheelStep m t rn j p := by rw [hp]; rfl
      have iw := idxAT (g := wheelD) (l := m.wheels) (q := (j : Int)) (by omega) (by omega)
      rw [Int.toNat_natCast] at iw
      have wk := h.wheels _ (nthA_mem hj)
      obtain ⟨sa, sb⟩ := shL_side wk
      have es := e1 p.1 _ _ (nthA m.wheels j).drink hpc sa sb wk.ne
      unfold wheelStep at hs
      generalize nthA m.wheels j = w at *
      have w0 : idxD (wheelD w) (.int 0) = .ok (.int w.pond) := by simp [wheelD]
      have w1 : idxD (wheelD w) (.int 1) = .ok (.int w.tail) := by simp [wheelD]
      have w3 : idxD (wheelD w) (.int 3) = .ok (.int w.drink) := by simp [wheelD]
      have w4 : idxD (wheelD w) (.int 4) = .ok (.int w.grind) := by simp [wheelD]
      by_cases c : nthA rn j = true
      · rw [if_pos c] at hs
        by_cases c2 : canO m p.1 t w = true
        · rw [if_pos c2] at hs
          rw [c2] at e
          simp [-List.map_map, ib, c, e, mill_wheels, iw, w0, w1, w3, w4, es, guardF_lt hpl]
          simp [-List.map_map, Kf_eq]
          exact (hJ _ _).mpr ⟨(shL p.1 w.pond w.tail w.drink, p.2.1 ++ [.wheel j], p.2.2 + w.grind), _, by rw [List.map_append]; rfl, hs.symm⟩
        · rw [if_neg c2] at hs
          have c2 : canO m p.1 t w = false := by simpa using c2
          rw [c2] at e
          simp [-List.map_map, ib, c, mill_wheels, iw, e, Kf_eq]
          exact (hJ _ _).mpr ⟨p, _, rfl, hs.symm⟩
      · rw [if_neg c] at hs
        have c : nthA rn j = false := by simpa using c
        simp [-List.map_map, ib, c, Kf_eq]
        exact (hJ _ _).mpr ⟨p, _, rfl, hs.symm⟩
    · intro ρ hr
      obtain ⟨p, u8, rfl, hp⟩ := (hJ _ _).mp hr
      rw [show ((m.wheels.length : Int) - 0).toNat = m.wheels.length by omega] at hp
      simp [-List.map_map, Kf_eq, ← hp, doneD, logD]
end Rf

/-! Rf: reflection. Part ZP: tables of states, layers. -/
namespace Rf
open PySem L2
open PySem.W (alike alikeAll dataLt dataLe)
def bWays : S :=
  (.seq (.asg 1 (.lst (.cons (.tup .nil) .nil))) (.seq (.fr (.one 2) (.irng (.cons (.var 0) .nil)) (.seq (.asg 3 (.lst .nil)) (.seq (.frz 1) (.seq (.fr (.one 4) (.iseq (.var 1)) (.seq (.ext 3 (.lst (.cons (.bin .Add (.var 4) (.tup (.cons (.cst (.bool false)) .nil))) (.cons (.bin .Add (.var 4) (.tup (.cons (.cst (.bool true)) .nil))) .nil)))) .nil)) (.seq (.frz 3) (.seq (.asg 1 (.var 3)) .nil)))))) (.seq (.frz 1) (.seq (.ret (.var 1)) .nil))))
def bUnlikeN : S :=
  (.seq (.ret (.blt .len (.cons (.compC (.var 2) (.one 2) (.irng (.cons (.blt .len (.cons (.var 0) .nil)) .nil)) (.cmp .NotEq (.idx (.var 0) (.var 2)) (.idx (.var 1) (.var 2))) [2]) .nil))) .nil)
def bNext : S :=
  (.seq (.asg 3 (.call false 0 (.cons (.blt .len (.cons (.idx (.var 0) (.cst (.int 2))) .nil)) .nil))) (.seq (.asg 4 (.call false 0 (.cons (.blt .len (.cons (.idx (.var 0) (.cst (.int 3))) .nil)) .nil))) (.seq (.dnew 5) (.seq (.fr (.tup [6, 7, 8, 9]) (.iseq (.var 2)) (.seq (.fr (.one 10) (.iseq (.var 3)) (.seq (.fr (.one 11) (.iseq (.var 4)) (.seq (.unp [12, 13, 14] (.call false 1 (.cons (.var 0) (.cons (.var 6) (.cons (.var 1) (.cons (.var 10) (.cons (.var 11) .nil))))))) (.seq (.asg 15 (.tup (.cons (.bin .Add (.var 8) (.var 14)) (.cons (.neg (.bin .Add (.var 9) (.call false 2 (.cons (.var 7) (.cons (.var 10) .nil))))) .nil)))) (.seq (.ifs (.or (.din true 5 (.tup (.cons (.var 12) (.cons (.var 10) .nil)))) (.cmp .Gt (.var 15) (.dget 5 (.tup (.cons (.var 12) (.cons (.var 10) .nil)))))) (.seq (.dput 5 (.tup (.cons (.var 12) (.cons (.var 10) .nil))) (.var 15)) .nil) .nil) .nil)))) .nil)) .nil)) (.seq (.ret (.comp (.tup (.cons (.idx (.var 16) (.cst (.int 0))) (.cons (.idx (.var 16) (.cst (.int 1))) (.cons (.idx (.dget 5 (.var 16)) (.cst (.int 0))) (.cons (.neg (.idx (.dget 5 (.var 16)) (.cst (.int 1)))) .nil))))) (.one 16) (.iseq (.blt .sorted (.cons (.dkeys 5) .nil))) [16])) .nil)))))
def bLayer : S :=
  (.seq (.dnew 3) (.seq (.fr (.tup [4, 5, 6, 7]) (.iseq (.var 2)) (.seq (.fr (.one 8) (.iseq (.call false 0 (.cons (.blt .len (.cons (.idx (.var 0) (.cst (.int 2))) .nil)) .nil))) (.seq (.fr (.one 9) (.iseq (.call false 0 (.cons (.blt .len (.cons (.idx (.var 0) (.cst (.int 3))) .nil)) .nil))) (.seq (.unp [10, 11, 12] (.call false 1 (.cons (.var 0) (.cons (.var 4) (.cons (.var 1) (.cons (.var 8) (.cons (.var 9) .nil))))))) (.seq (.asg 13 (.tup (.cons (.bin .Add (.var 6) (.var 12)) (.cons (.bin .Sub (.bin .Sub (.cst (.int 0)) (.var 7)) (.call false 2 (.cons (.var 5) (.cons (.var 8) .nil)))) .nil)))) (.seq (.dput 3 (.tup (.cons (.var 10) (.cons (.var 8) .nil))) (.blt .maxT2 (.cons (.var 13) (.cons (.dgetO 3 (.tup (.cons (.var 10) (.cons (.var 8) .nil))) (.var 13)) .nil)))) .nil)))) .nil)) .nil)) (.seq (.ret (.comp (.tup (.cons (.idx (.var 14) (.cst (.int 0))) (.cons (.idx (.var 14) (.cst (.int 1))) (.cons (.idx (.dget 3 (.var 14)) (.cst (.int 0))) (.cons (.bin .Sub (.cst (.int 0)) (.idx (.dget 3 (.var 14)) (.cst (.int 1)))) .nil))))) (.one 14) (.iseq (.blt .sorted (.cons (.dkeys 3) .nil))) [14])) .nil)))

abbrev LKey := List Int × List Bool
abbrev LSt := LKey × (Int × Int)
def lkD (k : LKey) : D := .tuple [.tuple (k.1.map .int), .tuple (k.2.map .bool)]
def kvD (x : LSt) : D × D := (lkD x.1, lvD x.2)
def stD (x : LSt) : D := .tuple [.tuple (x.1.1.map .int), .tuple (x.1.2.map .bool), .int x.2.1, .int x.2.2]
def lyGet (l : List LSt) (k : LKey) : Option (Int × Int) := (l.find? fun x => decide (x.1 = k)).map (·.2)
def lyPut (l : List LSt) (k : LKey) (w : Int × Int) : List LSt := if (lyGet l k).isSome = true then l.map (fun x => if x.1 = k then (x.1, w) else x) else l ++ [(k, w)]
/-! ### keys -/
def bnum (b : Bool) : NestedKey := .num (if b = true then 1 else 0)
theorem nk_ints : ∀ l : List Int, nkAll (l.map .int) = some (l.map NestedKey.num)
  | [] => rfl
  | a :: l => by
    show (match nkD (.int a) with
      | some k => (nkAll (l.map .int)).map (k :: ·)
      | none => none) = _
    rw [nk_ints l]; rfl
theorem nk_bools : ∀ l : List Bool, nkAll (l.map .bool) = some (l.map bnum)
  | [] => rfl
  | a :: l => by
    show (match nkD (.bool a) with
      | some k => (nkAll (l.map .bool)).map (k :: ·)
      | none => none) = _
    rw [nk_bools l]; rfl
def lkN (k : LKey) : NestedKey := .tup [.tup (k.1.map .num), .tup (k.2.map bnum)]
theorem nk_lk (k : LKey) : nkD (lkD k) = some (lkN k) := by
  show (nkAll [.tuple (k.1.map .int), .tuple (k.2.map .bool)]).map NestedKey.tup = _
  show (match nkD (.tuple (k.1.map .int)) with
      | some q => (nkAll [.tuple (k.2.map .bool)]).map (q :: ·)
      | none => none).map NestedKey.tup = _
  have e1 : nkD (.tuple (k.1.map .int)) = some (.tup (k.1.map .num)) := by
    show (nkAll (k.1.map .int)).map NestedKey.tup = _
    rw [nk_ints]; rfl
  have e2 : nkAll [.tuple (k.2.map .bool)] = some [.tup (k.2.map bnum)] := by
    show (match nkD (.tuple (k.2.map .bool)) with
      | some q => (nkAll []).map (q :: ·)
      | none => none) = _
    have e3 : nkD (.tuple (k.2.map .bool)) = some (.tup (k.2.map bnum)) := by
      show (nkAll (k.2.map .bool)).map NestedKey.tup = _
      rw [nk_bools]; rfl
    rw [e3]; rfl
  rw [e1, e2]; rfl
theorem lkN_inj {a b : LKey} (h : lkN a = lkN b) : a = b := by
  have h := NestedKey.tup.inj h
  have h1 := NestedKey.tup.inj (List.cons.inj h).1
  have h2 := NestedKey.tup.inj (List.cons.inj (List.cons.inj h).2).1
  have i1 : a.1 = b.1 := (List.map_inj_right fun x y e => NestedKey.num.inj e).mp h1
  have i2 : a.2 = b.2 := (List.map_inj_right fun x y e => by
    have e := NestedKey.num.inj e
    cases x <;> cases y <;> first | rfl | cases e).mp h2
  exact Prod.ext i1 i2
theorem depth_nums {f : α → NestedKey} (h : ∀ a, (f a).depth = 0) : ∀ l : List α, NestedKey.depthAll (l.map f) = 0
  | [] => rfl
  | a :: l => by
    show max (f a).depth (NestedKey.depthAll (l.map f)) = 0
    rw [h a, depth_nums h l]; rfl
theorem key_ok (k : LKey) : keyOk (lkD k) = true := by
  show (match nkD (lkD k) with
      | some n => decide (n.depth ≤ 8)
      | none => false) = true
  rw [nk_lk]
  refine decide_eq_true ?_
  have e1 : NestedKey.depthAll (k.1.map .num) = 0 := depth_nums (fun _ => rfl) _
  have e2 : NestedKey.depthAll (k.2.map bnum) = 0 := depth_nums (fun _ => rfl) _
  show max (NestedKey.depthAll (k.1.map .num) + 1) (max (NestedKey.depthAll (k.2.map bnum) + 1) 0) + 1 ≤ 8
  rw [e1, e2]; decide
theorem same_lk (a : LKey) (x : LSt) : sameK (lkD a) (kvD x) = decide (x.1 = a) := by
  show decide (nkD (lkD x.1) = nkD (lkD a)) = _
  rw [nk_lk, nk_lk]
  exact decide_eq_decide.mpr ⟨fun e => lkN_inj (Option.some.inj e), fun e => by rw [e]⟩
theorem dcGet_kv (k : LKey) : ∀ l : List LSt, dcGet (l.map kvD) (lkD k) = (lyGet l k).map lvD
  | [] => rfl
  | x :: l => by
    have ih := dcGet_kv k l
    unfold dcGet lyGet at ih ⊢
    rw [List.map_cons, List.find?_cons, List.find?_cons, same_lk]
    by_cases c : x.1 = k
    · rw [decide_eq_true c]; rfl
    · rw [decide_eq_false c]; exact ih
theorem dcPut_kv (k : LKey) (w : Int × Int) (l : List LSt) : dcPut (l.map kvD) (lkD k) (lvD w) = (lyPut l k w).map kvD := by
  unfold dcPut lyPut
  rw [dcGet_kv]
  have e : ((lyGet l k).map lvD).isSome = (lyGet l k).isSome := by cases lyGet l k <;> rfl
  rw [e]
  by_cases c : (lyGet l k).isSome = true
  · rw [if_pos c, if_pos c, List.map_map, List.map_map]
    refine List.map_congr_left fun x hx => ?_
    show (if sameK (lkD k) (kvD x) = true then ((kvD x).1, lvD w) else kvD x) = kvD (if x.1 = k then (x.1, w) else x)
    rw [same_lk]
    by_cases d : x.1 = k
    · rw [decide_eq_true d, if_pos rfl, if_pos d]; rfl
    · rw [decide_eq_false d, if_neg Bool.false_ne_true, if_neg d]
  · rw [if_neg c, if_neg c, List.map_append]; rfl
/-! ### worths -/
def wlt (a b : Int × Int) : Bool := decide (a.1 < b.1 ∨ (a.1 = b.1 ∧ a.2 < b.2))
theorem dataLt_lv (a b : Int × Int) : dataLt (lvD a) (lvD b) = wlt a b := PySem.W.dataLt_ii a.1 a.2 b.1 b.2
theorem ord_lv (a b : Int × Int) : ordOk (lvD a) (lvD b) = true := by
  unfold ordOk lvD
  simp [alike, alikeAll, PyData.depth, PyData.depthAll]
theorem max_lv (a b : Int × Int) : bltD .maxT2 [lvD a, lvD b] = .ok (lvD (if wlt a b = true then b else a)) := by
  show guard' (ordOk (lvD a) (lvD b)) (.ok (if dataLt (lvD a) (lvD b) = true then lvD b else lvD a)) = _
  rw [ord_lv, dataLt_lv]
  by_cases c : wlt a b = true
  · rw [if_pos c, if_pos c]; rfl
  · rw [if_neg c, if_neg c]; rfl
theorem gt_lv (a b : Int × Int) : cmpB .Gt (lvD a) (lvD b) = .ok (wlt b a) := by
  show guard' (ordOk (lvD b) (lvD a)) (.ok (dataLt (lvD b) (lvD a))) = _
  rw [ord_lv, dataLt_lv]; rfl
/-! ### a table takes a worth -/
def lyStep (l : List LSt) (k : LKey) (w : Int × Int) : List LSt := match lyGet l k with
  | none => l ++ [(k, w)]
  | some o => if wlt o w = true then lyPut l k w else l
def NdK (l : List LSt) : Prop := (l.map (·.1)).Nodup
theorem getK_none {l : List LSt} {k : LKey} (h : lyGet l k = none) : ∀ x ∈ l, x.1 ≠ k := by
  unfold lyGet at h
  have h := Option.map_eq_none_iff.mp h
  rw [List.find?_eq_none] at h
  intro x hx e
  exact h x hx (decide_eq_true e)
theorem getK_some {l : List LSt} {k : LKey} {o : Int × Int} (h : lyGet l k = some o) : (k, o) ∈ l := by
  unfold lyGet at h
  obtain ⟨x, h1, h2⟩ := Option.map_eq_some_iff.mp h
  have e := List.find?_some h1
  have m := List.mem_of_find?_eq_some h1
  have e : x.1 = k := of_decide_eq_true e
  have : x = (k, o) := Prod.ext e h2
  rw [← this]; exact m
theorem nd_one {l : List LSt} (h : NdK l) {x y : LSt} (hx : x ∈ l) (hy : y ∈ l) (e : x.1 = y.1) : x = y := by
  induction l with
  | nil => cases hx
  | cons z l ih =>
    have h' := List.nodup_cons.mp h
    rcases List.mem_cons.mp hx with rfl | hx2
    · rcases List.mem_cons.mp hy with rfl | hy2
      · rfl
      · exact absurd (List.mem_map.mpr ⟨y, hy2, e.symm⟩ : x.1 ∈ l.map (·.1)) h'.1
    · rcases List.mem_cons.mp hy with rfl | hy2
      · exact absurd (List.mem_map.mpr ⟨x, hx2, e⟩ : y.1 ∈ l.map (·.1)) h'.1
      · exact ih h'.2 hx2 hy2
theorem getK_of {l : List LSt} (h : NdK l) {k : LKey} {o : Int × Int} (m : (k, o) ∈ l) : lyGet l k = some o := by
  cases q : lyGet l k with
  | none => exact absurd rfl (getK_none q _ m)
  | some o' =>
    have := nd_one h (getK_some q) m rfl
    exact congrArg some (Prod.ext_iff.mp this).2
theorem putK_keys {l : List LSt} {k : LKey} {w : Int × Int} (h : (lyGet l k).isSome = true) : (lyPut l k w).map (·.1) = l.map (·.1) := by
  unfold lyPut
  rw [if_pos h, List.map_map]
  refine List.map_congr_left fun x _ => ?_
  show (if x.1 = k then (x.1, w) else x).1 = x.1
  split <;> rfl
theorem putK_self {l : List LSt} (h : NdK l) {k : LKey} {o : Int × Int} (e : lyGet l k = some o) : lyPut l k o = l := by
  unfold lyPut
  rw [if_pos (by rw [e]; rfl)]
  conv => rhs; rw [← List.map_id l]
  refine List.map_congr_left fun x hx => ?_
  show (if x.1 = k then (x.1, o) else x) = x
  split
  · rename_i c
    have := nd_one h hx (getK_some e) c
    rw [this]
  · rfl
theorem stepK_nd {l : List LSt} (h : NdK l) (k : LKey) (w : Int × Int) : NdK (lyStep l k w) := by
  unfold lyStep
  split
  · rename_i q
    unfold NdK
    rw [List.map_append]
    refine List.nodup_append.mpr ⟨h, List.nodup_cons.mpr ⟨List.not_mem_nil, List.nodup_nil⟩, ?_⟩
    intro a ha b hb e
    have hb := List.mem_singleton.mp hb
    obtain ⟨x, hx, rfl⟩ := List.mem_map.mp ha
    exact getK_none q x hx (e.trans hb)
  · rename_i o q
    split
    · unfold NdK
      rw [putK_keys (by rw [q]; rfl)]
      exact h
    · exact h
theorem stepK_mem {l : List LSt} {k : LKey} {w : Int × Int} {x : LSt} (h : x ∈ lyStep l k w) : x ∈ l ∨ x = (k, w) := by
  unfold lyStep at h
  split at h
  · rcases List.mem_append.mp h with h | h
    · exact .inl h
    · exact .inr (List.mem_singleton.mp h)
  · split at h
    · unfold lyPut at h
      split at h
      · obtain ⟨y, hy, rfl⟩ := List.mem_map.mp h
        show (if y.1 = k then (y.1, w) else y) ∈ l ∨ _
        split
        · rename_i c; rw [c]; exact .inr rfl
        · exact .inl hy
      · rcases List.mem_append.mp h with h | h
        · exact .inl h
        · exact .inr (List.mem_singleton.mp h)
    · exact .inl h
theorem stepK_len {l : List LSt} {k : LKey} {w : Int × Int} : (lyStep l k w).length ≤ l.length + 1 := by
  unfold lyStep
  split
  · simp
  · split
    · unfold lyPut
      split
      · rw [List.length_map]; omega
      · simp
    · omega
theorem wlt_asym {a b : Int × Int} (h : wlt a b = true) : wlt b a = false := by
  have h := of_decide_eq_true h
  exact decide_eq_false (by omega)
theorem wlt_eq {a b : Int × Int} (h1 : wlt a b = false) (h2 : wlt b a = false) : a = b := by
  have h1 := of_decide_eq_false h1
  have h2 := of_decide_eq_false h2
  exact Prod.ext (by omega) (by omega)
/-- the same by max -/
theorem stepK_max {l : List LSt} (h : NdK l) (k : LKey) (w : Int × Int) : lyPut l k (if wlt w ((lyGet l k).getD w) = true then (lyGet l k).getD w else w) = lyStep l k w := by
  unfold lyStep
  cases q : lyGet l k with
  | none =>
    simp only [Option.getD_none, ite_self]
    unfold lyPut
    rw [q]; rfl
  | some o =>
    simp only [Option.getD_some]
    by_cases c : wlt w o = true
    · rw [if_pos c, wlt_asym c, if_neg Bool.false_ne_true, putK_self h q]
    · have c : wlt w o = false := by simpa using c
      rw [c, if_neg Bool.false_ne_true]
      by_cases d : wlt o w = true
      · rw [if_pos d]
      · rw [if_neg d]
        have d : wlt o w = false := by simpa using d
        rw [wlt_eq c d, putK_self h q]
/-! ### settings, and how they differ -/
def ways : Nat → List (List Bool)
  | 0 => [[]]
  | n + 1 => (ways n).flatMap fun w => [w ++ [false], w ++ [true]]
theorem ways_len : ∀ {n : Nat}, ∀ w ∈ ways n, w.length = n
  | 0, w, h => by rw [List.mem_singleton.mp h]; rfl
  | n + 1, w, h => by
    obtain ⟨v, hv, hw⟩ := List.mem_flatMap.mp h
    have := ways_len v hv
    simp at hw
    rcases hw with rfl | rfl <;> simp [this]
theorem flat2_len : ∀ l : List (List Bool), (l.flatMap fun w => [w ++ [false], w ++ [true]]).length = 2 * l.length
  | [] => rfl
  | w :: l => by
    rw [List.flatMap_cons, List.length_append, flat2_len l, List.length_cons, List.length_cons, List.length_cons, List.length_nil]
    omega
theorem ways_many : ∀ n : Nat, (ways n).length = 2 ^ n
  | 0 => rfl
  | n + 1 => by
    show ((ways n).flatMap fun w => [w ++ [false], w ++ [true]]).length = _
    rw [flat2_len, Nat.pow_succ, ways_many n]
    omega
def boolsT (w : List Bool) : D := .tuple (w.map .bool)
theorem ways_spec (Γ : Rf.Ctx) (n : Nat) (hn : n ≤ 3) : run Γ .sh 5 bWays [.int n] = .ok (.list ((ways n).map boolsT)) := by
  refine run_eq ?_
  unfold bWays
  simp [-List.map_map, List.replicate, exec_for]
  rw [rng1 (sm62_of (by omega) (by omega))]
  simp only [bind_ok, toFl_ok, listF_l]
  obtain ⟨I, hI⟩ : ∃ I : Nat → Sl → Prop, ∀ j ρ, I j ρ ↔ (∃ (u1 u2 u3 u4 : Slot), ρ = [.sh (.int n), u1, u2, u3, u4] ∧ (u1 = .own ((ways j).map boolsT) ∨ u1 = .sh (.list ((ways j).map boolsT)))) := ⟨_, fun _ _ => Iff.rfl⟩
  refine wp_rngL I ((hI _ _).mpr ⟨_, _, _, _, rfl, .inl rfl⟩) ?_ ?_
  · intro j ρ hj hr
    obtain ⟨u1, u2, u3, u4, rfl, hu⟩ := (hI _ _).mp hr
    have few : (ways j).length ≤ 8 := by
      rw [ways_many]
      have : 2 ^ j ≤ 2 ^ 3 := Nat.pow_le_pow_right (by decide) (by omega)
      omega
    have key : ∀ bk : Sl → Prop, Wp (exec Γ .sh (dropS 2 (match bWays with | .seq _ (.seq (.fr _ _ b) _) => b | _ => .nil)) [.sh (.int n), .sh (.list ((ways j).map boolsT)), .sh (.int j), .own [], u4]) (I (j + 1)) (I (j + 1)) bk (fun z => z = .list ((ways n).map boolsT)) := by
      intro bk
      unfold bWays
      simp only [dropS]
      simp [-List.map_map, exec_for]
      obtain ⟨J, hJ⟩ : ∃ J : Nat → Sl → Prop, ∀ i ρ, J i ρ ↔ (∃ (u4 : Slot), ρ = [.sh (.int n), .sh (.list ((ways j).map boolsT)), .sh (.int j), .own ((((ways j).take i).flatMap fun w => [w ++ [false], w ++ [true]]).map boolsT), u4]) := ⟨_, fun _ _ => Iff.rfl⟩
      refine wp_forL J ((hJ _ _).mpr ⟨_, rfl⟩) ?_ ?_
      · intro i d ρ hd hr
        obtain ⟨u4, rfl⟩ := (hJ _ _).mp hr
        rw [List.getElem?_map] at hd
        cases q1 : (ways j)[i]? with
        | none => rw [q1] at hd; cases hd
        | some w =>
          rw [q1] at hd
          cases hd
          refine ⟨_, rfl, ?_⟩
          have ht : (ways j).take (i + 1) = (ways j).take i ++ [w] := by rw [List.take_add_one, q1]; rfl
          have hw := ways_len w (List.mem_of_getElem? q1)
          have a1 : binD .Add (boolsT w) (.tuple [.bool false]) = .ok (boolsT (w ++ [false])) := by
            unfold boolsT
            rw [List.map_append]
            exact add_tup (by simp; omega)
          have a2 : binD .Add (boolsT w) (.tuple [.bool true]) = .ok (boolsT (w ++ [true])) := by
            unfold boolsT
            rw [List.map_append]
            exact add_tup (by simp; omega)
          have ll : ((((ways j).take i).flatMap fun w => [w ++ [false], w ++ [true]]).map boolsT).length ≤ 100 := by
            rw [List.length_map, flat2_len, List.length_take]
            omega
          simp [-List.map_map, -List.map_take, -List.length_flatMap, a1, a2]
          rw [guardF_le (by rw [List.length_map] at ll; omega)]
          simp [-List.map_map, -List.map_take]
          refine (hJ _ _).mpr ⟨.sh (boolsT w), ?_⟩
          rw [ht, List.flatMap_append, List.map_append]
          rfl
      · intro ρ hr
        obtain ⟨u4, rfl⟩ := (hJ _ _).mp hr
        rw [List.length_map, List.take_length]
        simp [-List.map_map, Kf_eq]
        exact (hI _ _).mpr ⟨_, _, _, _, rfl, .inr rfl⟩
    unfold bWays at key
    simp only [dropS] at key
    rcases hu with rfl | rfl
    · simp [-List.map_map, exec_for] at key ⊢
      exact key _
    · simp [-List.map_map, exec_for] at key ⊢
      exact key _
  · intro ρ hr
    obtain ⟨u1, u2, u3, u4, rfl, hu⟩ := (hI _ _).mp hr
    rw [show ((n : Int) - 0).toNat = n by omega] at hu
    rcases hu with rfl | rfl
    · simp [-List.map_map, Kf_eq]
    · simp [-List.map_map, Kf_eq]
def unlikeN (a b : List Bool) : Nat := ((List.range a.length).filter fun i => nthA a i != nthA b i).length
theorem unlike_specN (Γ : Rf.Ctx) {a b : List Bool} (h : a.length = b.length) (hl : a.length ≤ 1000) : run Γ .sh 3 bUnlikeN [boolsT a, boolsT b] = .ok (.int (unlikeN a b)) := by
  refine run_eq ?_
  unfold bUnlikeN boolsT
  simp [-List.map_map, List.replicate]
  rw [rng1 (sm62_of (by omega) (by omega))]
  simp only [bind_ok, seqOf_list, optL_some]
  have e : rngL 0 (a.length : Int) = (List.range a.length).map fun i => PyData.int (i : Nat) := by
    unfold rngL
    rw [show ((a.length : Int) - 0).toNat = a.length by omega]
    refine List.map_congr_left fun i _ => ?_
    rw [Int.zero_add]
  rw [e, compD_filter (h := fun i => PyData.int (i : Nat)) (p := fun i => nthA a i != nthA b i) (by simp; omega) fun i hi => by
    have hi := List.mem_range.mp hi
    have i1 := idx_boolsT (l := a) (q := i) hi
    have i2 := idx_boolsT (l := b) (q := i) (by omega)
    simp [-List.map_map, i1, i2]
    cases nthA a i <;> cases nthA b i <;> simp]
  simp [unlikeN]
/-! ### layers -/
def inK (m : Mill) (t : Int) (x : LSt) (st : List Bool) (rns : List (List Bool)) (l : List LSt) : List LSt :=
  rns.foldl (fun l rn => lyStep l ((turnO m x.1.1 t st rn).1, st) (x.2.1 + (turnO m x.1.1 t st rn).2.2, -(x.2.2 + (unlikeN x.1.2 st : Nat)))) l
def midK (m : Mill) (t : Int) (x : LSt) (sts rns : List (List Bool)) (l : List LSt) : List LSt := sts.foldl (fun l st => inK m t x st rns l) l
def tabK (m : Mill) (t : Int) (L : List LSt) : List LSt := L.foldl (fun l x => midK m t x (ways m.gates.length) (ways m.wheels.length) l) []
def sortK (ks : List LKey) : List LKey := ks.mergeSort (dataLe false lkD)
def atK (l : List LSt) (k : LKey) : Int × Int := (lyGet l k).getD (0, 0)
def layO (m : Mill) (t : Int) (L : List LSt) : List LSt := (sortK ((tabK m t L).map (·.1))).map fun k => (k, (atK (tabK m t L) k).1, -(atK (tabK m t L) k).2)
def StOk (m : Mill) (x : LSt) : Prop := COk m x.1.1 ∧ x.1.2.length = m.gates.length
structure TabOk (m : Mill) (l : List LSt) : Prop where
  nd : NdK l
  ok : ∀ x ∈ l, StOk m x
theorem foldl_take {α β : Type} {f : β → α → β} {xs : List α} {i : Nat} {a : α} {b : β} (h : xs[i]? = some a) : (xs.take (i + 1)).foldl f b = f ((xs.take i).foldl f b) a := by
  rw [List.take_add_one, h, List.foldl_append]; rfl
theorem foldl_len {α : Type} {f : List LSt → α → List LSt} {c : Nat} (h : ∀ l a, (f l a).length ≤ l.length + c) : ∀ {as : List α} {l : List LSt}, (as.foldl f l).length ≤ l.length + c * as.length
  | [], l => by simp
  | a :: as, l => by
    rw [List.foldl_cons, List.length_cons, Nat.mul_add]
    have h1 := foldl_len h (as := as) (l := f l a)
    have h2 := h l a
    omega
theorem foldl_tab {α : Type} {m : Mill} {f : List LSt → α → List LSt} : ∀ {as : List α} {l : List LSt}, (∀ l a, a ∈ as → TabOk m l → TabOk m (f l a)) → TabOk m l → TabOk m (as.foldl f l)
  | [], l, _, hl => hl
  | a :: as, l, h, hl => foldl_tab (as := as) (fun l b hb => h l b (List.mem_cons_of_mem _ hb)) (h l a List.mem_cons_self hl)
section
variable {m : Mill} {t : Int}
theorem stepK_tab {l : List LSt} {k : LKey} {w : Int × Int} (hl : TabOk m l) (hk : COk m k.1 ∧ k.2.length = m.gates.length) : TabOk m (lyStep l k w) := ⟨stepK_nd hl.nd k w, fun x hx => by
  rcases stepK_mem hx with h | h
  · exact hl.ok x h
  · rw [h]; exact hk⟩
theorem inK_len {x : LSt} {st : List Bool} {rns : List (List Bool)} {l : List LSt} : (inK m t x st rns l).length ≤ l.length + rns.length := by
  have := foldl_len (f := fun l rn => lyStep l ((turnO m x.1.1 t st rn).1, st) (x.2.1 + (turnO m x.1.1 t st rn).2.2, -(x.2.2 + (unlikeN x.1.2 st : Nat)))) (c := 1) (fun l a => stepK_len) (as := rns) (l := l)
  unfold inK
  omega
theorem midK_len {x : LSt} {sts rns : List (List Bool)} {l : List LSt} : (midK m t x sts rns l).length ≤ l.length + rns.length * sts.length :=
  foldl_len fun l a => inK_len
theorem tabK_len {L : List LSt} (h : m.Ok) : (tabK m t L).length ≤ 64 * L.length := by
  have few := h.few
  have e1 : (ways m.gates.length).length ≤ 8 := by
    rw [ways_many]
    have : 2 ^ m.gates.length ≤ 2 ^ 3 := Nat.pow_le_pow_right (by decide) few.2.1
    omega
  have e2 : (ways m.wheels.length).length ≤ 8 := by
    rw [ways_many]
    have : 2 ^ m.wheels.length ≤ 2 ^ 3 := Nat.pow_le_pow_right (by decide) few.2.2
    omega
  have e3 : (ways m.wheels.length).length * (ways m.gates.length).length ≤ 8 * 8 := Nat.mul_le_mul e2 e1
  have := foldl_len (f := fun l x => midK m t x (ways m.gates.length) (ways m.wheels.length) l) (c := 64) (fun l a => by have := midK_len (m := m) (t := t) (x := a) (sts := ways m.gates.length) (rns := ways m.wheels.length) (l := l); omega) (as := L) (l := [])
  unfold tabK
  simpa using this
theorem inK_tab (h : m.Ok) {x : LSt} {st : List Bool} {rns : List (List Bool)} {l : List LSt} (hx : COk m x.1.1) (hs : st.length = m.gates.length) (hl : TabOk m l) : TabOk m (inK m t x st rns l) :=
  foldl_tab (fun l rn _ hl => stepK_tab hl ⟨turnO_ok h hx, hs⟩) hl
theorem midK_tab (h : m.Ok) {x : LSt} {sts rns : List (List Bool)} {l : List LSt} (hx : COk m x.1.1) (hs : ∀ st ∈ sts, st.length = m.gates.length) (hl : TabOk m l) : TabOk m (midK m t x sts rns l) :=
  foldl_tab (fun l st hm hl => inK_tab h hx (hs st hm) hl) hl
theorem nil_tab : TabOk m [] := ⟨List.nodup_nil, fun _ h => nomatch h⟩
theorem tabK_tab (h : m.Ok) {L : List LSt} (hL : ∀ x ∈ L, StOk m x) : TabOk m (tabK m t L) :=
  foldl_tab (fun l x hm hl => midK_tab h (hL x hm).1 (fun st hs => ways_len st hs) hl) nil_tab
theorem layO_ok (h : m.Ok) {L : List LSt} (hL : ∀ x ∈ L, StOk m x) : ∀ x ∈ layO m t L, StOk m x := fun x hx => by
  obtain ⟨k, hk, rfl⟩ := List.mem_map.mp hx
  have hk := List.mem_mergeSort.mp hk
  obtain ⟨y, hy, rfl⟩ := List.mem_map.mp hk
  exact (tabK_tab h hL).ok y hy
theorem layO_len (h : m.Ok) {L : List LSt} : (layO m t L).length ≤ 64 * L.length := by
  unfold layO sortK
  rw [List.length_map, List.length_mergeSort, List.length_map]
  exact tabK_len h
end
theorem alike_ints : ∀ {a b : List Int}, alikeAll (a.map .int) (b.map .int) = true
  | [], b => by cases b <;> simp [alikeAll]
  | _ :: _, [] => by simp [alikeAll]
  | x :: a, y :: b => by
    have := alike_ints (a := a) (b := b)
    simp [alikeAll, alike, this]
theorem alike_bools : ∀ {a b : List Bool}, alikeAll (a.map .bool) (b.map .bool) = true
  | [], b => by cases b <;> simp [alikeAll]
  | _ :: _, [] => by simp [alikeAll]
  | x :: a, y :: b => by
    have := alike_bools (a := a) (b := b)
    simp [alikeAll, alike, this]
theorem alike_lk {a b : LKey} : alike (lkD a) (lkD b) = true := by
  unfold lkD
  simp [alike, alikeAll, alike_ints, alike_bools]
theorem shp_lk (k : LKey) : Shp 2 (lkD k) := Shp.tup fun d hd => by
  simp only [List.mem_cons, List.not_mem_nil, or_false] at hd
  rcases hd with rfl | rfl
  · exact Shp.intsT
  · exact Shp.boolsT
theorem sorted_lk {ks : List LKey} (hl : ks.length ≤ 16777216) : bltD .sorted [.list (ks.map lkD)] = .ok (.list ((sortK ks).map lkD)) := by
  show guard' (allOrd (ks.map lkD) && decide ((ks.map lkD).length ≤ lim)) (.ok (PyData.list ((ks.map lkD).mergeSort (dataLe false id)))) = _
  have e1 : allOrd (ks.map lkD) = true := by
    unfold allOrd
    refine List.all_eq_true.mpr fun a ha => ?_
    obtain ⟨k, _, rfl⟩ := List.mem_map.mp ha
    rw [Bool.and_eq_true, Bool.and_eq_true]
    refine ⟨⟨rfl, decide_eq_true (Nat.le_trans (shp_lk k).d (by decide))⟩, List.all_eq_true.mpr fun b hb => ?_⟩
    obtain ⟨k', _, rfl⟩ := List.mem_map.mp hb
    exact alike_lk
  rw [e1, List.length_map, show decide (ks.length ≤ lim) = true from decide_eq_true hl]
  unfold sortK
  rw [List.map_mergeSort (r := dataLe false lkD) (s := dataLe false id) (f := lkD) (l := ks) (fun a _ b _ => rfl)]
  rfl
theorem lk0 (k : LKey) : idxD (lkD k) (.int 0) = .ok (.tuple (k.1.map .int)) := by simp [lkD]
theorem lk1 (k : LKey) : idxD (lkD k) (.int 1) = .ok (.tuple (k.2.map .bool)) := by simp [lkD]
theorem lvd0 (k : Int × Int) : idxD (lvD k) (.int 0) = .ok (.int k.1) := by simp [lvD]
theorem lvd1 (k : Int × Int) : idxD (lvD k) (.int 1) = .ok (.int k.2) := by simp [lvD]
theorem dget_at {l : List LSt} {k : LKey} (h : k ∈ l.map (·.1)) : dgetR (dcGet (l.map kvD) (lkD k)) = .ok (lvD (atK l k)) := by
  rw [dcGet_kv]
  unfold atK
  cases q : lyGet l k with
  | none =>
    obtain ⟨x, hx, e⟩ := List.mem_map.mp h
    exact absurd e (getK_none q x hx)
  | some o => rfl
theorem kv_keys (l : List LSt) : (l.map kvD).map (·.1) = (l.map (·.1)).map lkD := by
  rw [List.map_map, List.map_map]; rfl
theorem next_spec (Γ : Rf.Ctx) {m : Mill} {t : Int} {L : List LSt} (h : m.Ok) (hL : ∀ x ∈ L, StOk m x) (hl : L.length ≤ 200000)
    (e0 : ∀ n : Nat, n ≤ 3 → callD Γ 0 [.int n] = .ok (.list ((ways n).map boolsT)))
    (e1 : ∀ cs st rn, COk m cs → st.length = m.gates.length → rn.length = m.wheels.length → callD Γ 1 [m.d, .tuple (cs.map .int), .int t, boolsT st, boolsT rn] = .ok (doneD (turnO m cs t st rn)))
    (e2 : ∀ a b : List Bool, a.length = b.length → a.length ≤ 1000 → callD Γ 2 [boolsT a, boolsT b] = .ok (.int (unlikeN a b))) :
    run Γ .own 17 bNext [m.d, .int t, .list (L.map stD)] = .ok (.list ((layO m t L).map stD)) := by
  refine run_eq ?_
  unfold bNext
  have few := h.few
  have w0 := e0 m.gates.length few.2.1
  have w1 := e0 m.wheels.length few.2.2
  have tl := tabK_len (t := t) (L := L) h
  simp [-List.map_map, List.replicate, exec_for, mill_gates, mill_wheels, w0, w1]
  obtain ⟨I, hI⟩ : ∃ I : Nat → Sl → Prop, ∀ j ρ, I j ρ ↔ (∃ (l : List LSt) (u6 u7 u8 u9 u10 u11 u12 u13 u14 u15 : Slot), ρ = [.sh m.d, .sh (.int t), .sh (.list (L.map stD)), .sh (.list ((ways m.gates.length).map boolsT)), .sh (.list ((ways m.wheels.length).map boolsT)), .dic (l.map kvD), u6, u7, u8, u9, u10, u11, u12, u13, u14, u15, .un] ∧ l = (L.take j).foldl (fun l x => midK m t x (ways m.gates.length) (ways m.wheels.length) l) []) := ⟨_, fun _ _ => Iff.rfl⟩
  refine wp_forL I ((hI _ _).mpr ⟨[], _, _, _, _, _, _, _, _, _, _, rfl, rfl⟩) ?_ ?_
  · intro j d ρ hd hr
    obtain ⟨l, u6, u7, u8, u9, u10, u11, u12, u13, u14, u15, rfl, hl0⟩ := (hI _ _).mp hr
    rw [List.getElem?_map] at hd
    cases q1 : L[j]? with
    | none => rw [q1] at hd; cases hd
    | some x =>
      rw [q1] at hd
      cases hd
      refine ⟨_, rfl, ?_⟩
      have hx := hL x (List.mem_of_getElem? q1)
      have hs := foldl_take (f := fun l x => midK m t x (ways m.gates.length) (ways m.wheels.length) l) (b := []) q1
      rw [← hl0] at hs
      have lt0 : TabOk m l := by
        rw [hl0]
        exact foldl_tab (fun l x hm hl => midK_tab h (hL x (List.mem_of_mem_take hm)).1 (fun st hs => ways_len st hs) hl) nil_tab
      have ll0 : l.length ≤ 64 * j := by
        have := tabK_len (t := t) (L := L.take j) h
        have e : tabK m t (L.take j) = l := hl0.symm
        rw [e, List.length_take] at this
        omega
      have hj : j < L.length := (List.getElem?_eq_some_iff.mp q1).1
      clear hr
      simp [-List.map_map, exec_for]
      obtain ⟨J, hJ⟩ : ∃ J : Nat → Sl → Prop, ∀ i ρ, J i ρ ↔ (∃ (l' : List LSt) (u10 u11 u12 u13 u14 u15 : Slot), ρ = [.sh m.d, .sh (.int t), .sh (.list (L.map stD)), .sh (.list ((ways m.gates.length).map boolsT)), .sh (.list ((ways m.wheels.length).map boolsT)), .dic (l'.map kvD), .sh (.tuple (x.1.1.map .int)), .sh (boolsT x.1.2), .sh (.int x.2.1), .sh (.int x.2.2), u10, u11, u12, u13, u14, u15, .un] ∧ l' = ((ways m.gates.length).take i).foldl (fun l st => inK m t x st (ways m.wheels.length) l) l) := ⟨_, fun _ _ => Iff.rfl⟩
      refine wp_forL J ((hJ _ _).mpr ⟨l, _, _, _, _, _, _, rfl, rfl⟩) ?_ ?_
      · intro i d ρ hd hr
        obtain ⟨l', u10, u11, u12, u13, u14, u15, rfl, hl1⟩ := (hJ _ _).mp hr
        rw [List.getElem?_map] at hd
        cases q2 : (ways m.gates.length)[i]? with
        | none => rw [q2] at hd; cases hd
        | some st =>
          rw [q2] at hd
          cases hd
          refine ⟨_, rfl, ?_⟩
          have hst := ways_len st (List.mem_of_getElem? q2)
          have hs2 := foldl_take (f := fun l st => inK m t x st (ways m.wheels.length) l) (b := l) q2
          rw [← hl1] at hs2
          have lt1 : TabOk m l' := by
            rw [hl1]
            exact foldl_tab (fun l st hm hl => inK_tab h hx.1 (ways_len st (List.mem_of_mem_take hm)) hl) lt0
          have hi : i < (ways m.gates.length).length := (List.getElem?_eq_some_iff.mp q2).1
          have wg : (ways m.gates.length).length ≤ 8 := by
            rw [ways_many]
            have : 2 ^ m.gates.length ≤ 2 ^ 3 := Nat.pow_le_pow_right (by decide) few.2.1
            omega
          have ww : (ways m.wheels.length).length ≤ 8 := by
            rw [ways_many]
            have : 2 ^ m.wheels.length ≤ 2 ^ 3 := Nat.pow_le_pow_right (by decide) few.2.2
            omega
          have ll1 : l'.length ≤ l.length + 64 := by
            have := foldl_len (f := fun l st => inK m t x st (ways m.wheels.length) l) (c := 8) (fun l a => by have := inK_len (m := m) (t := t) (x := x) (st := a) (rns := ways m.wheels.length) (l := l); omega) (as := (ways m.gates.length).take i) (l := l)
            rw [← hl1, List.length_take] at this
            omega
          clear hr
          simp [-List.map_map, exec_for]
          obtain ⟨M, hM⟩ : ∃ M : Nat → Sl → Prop, ∀ i ρ, M i ρ ↔ (∃ (l2 : List LSt) (u11 u12 u13 u14 u15 : Slot), ρ = [.sh m.d, .sh (.int t), .sh (.list (L.map stD)), .sh (.list ((ways m.gates.length).map boolsT)), .sh (.list ((ways m.wheels.length).map boolsT)), .dic (l2.map kvD), .sh (.tuple (x.1.1.map .int)), .sh (boolsT x.1.2), .sh (.int x.2.1), .sh (.int x.2.2), .sh (boolsT st), u11, u12, u13, u14, u15, .un] ∧ l2 = ((ways m.wheels.length).take i).foldl (fun l rn => lyStep l ((turnO m x.1.1 t st rn).1, st) (x.2.1 + (turnO m x.1.1 t st rn).2.2, -(x.2.2 + (unlikeN x.1.2 st : Nat)))) l') := ⟨_, fun _ _ => Iff.rfl⟩
          refine wp_forL M ((hM _ _).mpr ⟨l', _, _, _, _, _, rfl, rfl⟩) ?_ ?_
          · intro i2 d ρ hd hr
            obtain ⟨l2, u11, u12, u13, u14, u15, rfl, hl2⟩ := (hM _ _).mp hr
            rw [List.getElem?_map] at hd
            cases q3 : (ways m.wheels.length)[i2]? with
            | none => rw [q3] at hd; cases hd
            | some rn =>
              rw [q3] at hd
              cases hd
              refine ⟨_, rfl, ?_⟩
              have hrn := ways_len rn (List.mem_of_getElem? q3)
              have hs3 := foldl_take (f := fun l rn => lyStep l ((turnO m x.1.1 t st rn).1, st) (x.2.1 + (turnO m x.1.1 t st rn).2.2, -(x.2.2 + (unlikeN x.1.2 st : Nat)))) (b := l') q3
              rw [← hl2] at hs3
              have lt2 : TabOk m l2 := by
                rw [hl2]
                exact foldl_tab (fun l rn _ hl => stepK_tab hl ⟨turnO_ok h hx.1, hst⟩) lt1
              have ll2 : l2.length ≤ l'.length + 8 := by
                have := foldl_len (f := fun l rn => lyStep l ((turnO m x.1.1 t st rn).1, st) (x.2.1 + (turnO m x.1.1 t st rn).2.2, -(x.2.2 + (unlikeN x.1.2 st : Nat)))) (c := 1) (fun l a => stepK_len) (as := (ways m.wheels.length).take i2) (l := l')
                rw [← hl2, List.length_take] at this
                omega
              have hlim : decide (l2.length < lim) = true := decide_eq_true (by unfold lim; omega)
              have ed := e1 x.1.1 st rn hx.1 hst hrn
              have eu := e2 x.1.2 st (hx.2.trans hst.symm) (by rw [hx.2]; omega)
              clear hr
              generalize turnO m x.1.1 t st rn = z at *
              have hun : ∀ is ρ, unpD is (doneD z) ρ = optF (setAll is [.tuple (z.1.map .int), logD z.2.1, .int z.2.2] ρ) := fun _ _ => rfl
              have hk : PyData.tuple [.tuple (z.1.map .int), boolsT st] = lkD (z.1, st) := rfl
              have hkT : ∀ g : List D → Res D, tupOf (.ok (lkD (z.1, st))) g = g [.tuple (z.1.map .int), boolsT st] := fun _ => rfl
              have hw : PyData.tuple [.int (x.2.1 + z.2.2), .int (-(x.2.2 + (unlikeN x.1.2 st : Nat)))] = lvD (x.2.1 + z.2.2, -(x.2.2 + (unlikeN x.1.2 st : Nat))) := rfl
              have fin : ∀ (l3 : List LSt), l3 = lyStep l2 (z.1, st) (x.2.1 + z.2.2, -(x.2.2 + (unlikeN x.1.2 st : Nat))) → ∀ u11 u12 u13 u14 u15, M (i2 + 1) [.sh m.d, .sh (.int t), .sh (.list (L.map stD)), .sh (.list ((ways m.gates.length).map boolsT)), .sh (.list ((ways m.wheels.length).map boolsT)), .dic (l3.map kvD), .sh (.tuple (x.1.1.map .int)), .sh (boolsT x.1.2), .sh (.int x.2.1), .sh (.int x.2.2), .sh (boolsT st), u11, u12, u13, u14, u15, .un] := fun l3 e u11 u12 u13 u14 u15 =>
                (hM _ _).mpr ⟨l3, _, _, _, _, _, rfl, e.trans hs3.symm⟩
              generalize ((x.2.1 + z.2.2, -(x.2.2 + (unlikeN x.1.2 st : Nat))) : Int × Int) = w at hw fin
              simp [-List.map_map, ed, hun, eu]
              rw [hw]
              simp [-List.map_map, hk, hkT, key_ok, dcGet_kv]
              unfold lyStep at fin
              cases q4 : lyGet l2 (z.1, st) with
              | none =>
                rw [q4] at fin
                simp only at fin
                have ep : lyPut l2 (z.1, st) w = l2 ++ [((z.1, st), w)] := by unfold lyPut; rw [q4]; rfl
                simp [-List.map_map, -List.map_append, hk, hkT, key_ok, dcPut_kv, hlim, Kf_eq]
                exact fin _ ep _ _ _ _ _
              | some o =>
                rw [q4] at fin
                simp only at fin
                simp [-List.map_map, dgetR, gt_lv]
                by_cases c : wlt o w = true
                · rw [if_pos c] at fin
                  simp [-List.map_map, c, hk, hkT, key_ok, dcPut_kv, hlim, Kf_eq]
                  exact fin _ rfl _ _ _ _ _
                · rw [if_neg c] at fin
                  have c : wlt o w = false := by simpa using c
                  simp [-List.map_map, c, Kf_eq]
                  exact fin _ rfl _ _ _ _ _
          · intro ρ hr
            obtain ⟨l2, u11, u12, u13, u14, u15, rfl, hl2⟩ := (hM _ _).mp hr
            rw [List.length_map, List.take_length] at hl2
            simp [-List.map_map, Kf_eq]
            exact (hJ _ _).mpr ⟨l2, _, _, _, _, _, _, rfl, hl2.trans hs2.symm⟩
      · intro ρ hr
        obtain ⟨l', u10, u11, u12, u13, u14, u15, rfl, hl1⟩ := (hJ _ _).mp hr
        rw [List.length_map, List.take_length] at hl1
        simp [-List.map_map, Kf_eq]
        exact (hI _ _).mpr ⟨l', _, _, _, _, _, _, _, _, _, _, rfl, hl1.trans hs.symm⟩
  · intro ρ hr
    obtain ⟨l, u6, u7, u8, u9, u10, u11, u12, u13, u14, u15, rfl, hl0⟩ := (hI _ _).mp hr
    rw [List.length_map, List.take_length] at hl0
    have hl0 : l = tabK m t L := hl0
    have so := sorted_lk (ks := l.map (·.1)) (by rw [List.length_map, hl0]; omega)
    simp [-List.map_map, Kf_eq]
    rw [kv_keys, show decide (l.length ≤ lim) = true from decide_eq_true (by rw [hl0]; exact Nat.le_trans tl (by unfold lim; omega))]
    simp [-List.map_map, so]
    rw [compD_map (fun k => stD (k, (atK l k).1, -(atK l k).2)) (by unfold sortK; rw [List.length_mergeSort, List.length_map, hl0]; omega) fun k hk => by
      have hk : k ∈ l.map (·.1) := List.mem_mergeSort.mp hk
      have dg := dget_at hk
      simp [-List.map_map, lk0, lk1, key_ok, dg, lvd0, lvd1, stD]]
    simp [-List.map_map]
    unfold layO
    rw [← hl0, List.map_map]
    rfl
theorem layer_spec (Γ : Rf.Ctx) {m : Mill} {t : Int} {L : List LSt} (h : m.Ok) (hL : ∀ x ∈ L, StOk m x) (hl : L.length ≤ 200000)
    (e0 : ∀ n : Nat, n ≤ 3 → callD Γ 0 [.int n] = .ok (.list ((ways n).map boolsT)))
    (e1 : ∀ cs st rn, COk m cs → st.length = m.gates.length → rn.length = m.wheels.length → callD Γ 1 [m.d, .tuple (cs.map .int), .int t, boolsT st, boolsT rn] = .ok (doneD (turnO m cs t st rn)))
    (e2 : ∀ a b : List Bool, a.length = b.length → a.length ≤ 1000 → callD Γ 2 [boolsT a, boolsT b] = .ok (.int (unlikeN a b))) :
    run Γ .own 15 bLayer [m.d, .int t, .list (L.map stD)] = .ok (.list ((layO m t L).map stD)) := by
  refine run_eq ?_
  unfold bLayer
  have few := h.few
  have w0 := e0 m.gates.length few.2.1
  have w1 := e0 m.wheels.length few.2.2
  have tl := tabK_len (t := t) (L := L) h
  simp [-List.map_map, List.replicate, exec_for]
  obtain ⟨I, hI⟩ : ∃ I : Nat → Sl → Prop, ∀ j ρ, I j ρ ↔ (∃ (l : List LSt) (u6 u7 u8 u9 u10 u11 u12 u13 u14 u15 : Slot), ρ = [.sh m.d, .sh (.int t), .sh (.list (L.map stD)), .dic (l.map kvD), u6, u7, u8, u9, u10, u11, u12, u13, u14, u15, .un] ∧ l = (L.take j).foldl (fun l x => midK m t x (ways m.gates.length) (ways m.wheels.length) l) []) := ⟨_, fun _ _ => Iff.rfl⟩
  refine wp_forL I ((hI _ _).mpr ⟨[], _, _, _, _, _, _, _, _, _, _, rfl, rfl⟩) ?_ ?_
  · intro j d ρ hd hr
    obtain ⟨l, u6, u7, u8, u9, u10, u11, u12, u13, u14, u15, rfl, hl0⟩ := (hI _ _).mp hr
    rw [List.getElem?_map] at hd
    cases q1 : L[j]? with
    | none => rw [q1] at hd; cases hd
    | some x =>
      rw [q1] at hd
      cases hd
      refine ⟨_, rfl, ?_⟩
      have hx := hL x (List.mem_of_getElem? q1)
      have hs := foldl_take (f := fun l x => midK m t x (ways m.gates.length) (ways m.wheels.length) l) (b := []) q1
      rw [← hl0] at hs
      have lt0 : TabOk m l := by
        rw [hl0]
        exact foldl_tab (fun l x hm hl => midK_tab h (hL x (List.mem_of_mem_take hm)).1 (fun st hs => ways_len st hs) hl) nil_tab
      have ll0 : l.length ≤ 64 * j := by
        have := tabK_len (t := t) (L := L.take j) h
        have e : tabK m t (L.take j) = l := hl0.symm
        rw [e, List.length_take] at this
        omega
      have hj : j < L.length := (List.getElem?_eq_some_iff.mp q1).1
      clear hr
      simp [-List.map_map, exec_for, mill_gates, w0]
      obtain ⟨J, hJ⟩ : ∃ J : Nat → Sl → Prop, ∀ i ρ, J i ρ ↔ (∃ (l' : List LSt) (u10 u11 u12 u13 u14 u15 : Slot), ρ = [.sh m.d, .sh (.int t), .sh (.list (L.map stD)), .dic (l'.map kvD), .sh (.tuple (x.1.1.map .int)), .sh (boolsT x.1.2), .sh (.int x.2.1), .sh (.int x.2.2), u10, u11, u12, u13, u14, u15, .un] ∧ l' = ((ways m.gates.length).take i).foldl (fun l st => inK m t x st (ways m.wheels.length) l) l) := ⟨_, fun _ _ => Iff.rfl⟩
      refine wp_forL J ((hJ _ _).mpr ⟨l, _, _, _, _, _, _, rfl, rfl⟩) ?_ ?_
      · intro i d ρ hd hr
        obtain ⟨l', u10, u11, u12, u13, u14, u15, rfl, hl1⟩ := (hJ _ _).mp hr
        rw [List.getElem?_map] at hd
        cases q2 : (ways m.gates.length)[i]? with
        | none => rw [q2] at hd; cases hd
        | some st =>
          rw [q2] at hd
          cases hd
          refine ⟨_, rfl, ?_⟩
          have hst := ways_len st (List.mem_of_getElem? q2)
          have hs2 := foldl_take (f := fun l st => inK m t x st (ways m.wheels.length) l) (b := l) q2
          rw [← hl1] at hs2
          have lt1 : TabOk m l' := by
            rw [hl1]
            exact foldl_tab (fun l st hm hl => inK_tab h hx.1 (ways_len st (List.mem_of_mem_take hm)) hl) lt0
          have hi : i < (ways m.gates.length).length := (List.getElem?_eq_some_iff.mp q2).1
          have wg : (ways m.gates.length).length ≤ 8 := by
            rw [ways_many]
            have : 2 ^ m.gates.length ≤ 2 ^ 3 := Nat.pow_le_pow_right (by decide) few.2.1
            omega
          have ww : (ways m.wheels.length).length ≤ 8 := by
            rw [ways_many]
            have : 2 ^ m.wheels.length ≤ 2 ^ 3 := Nat.pow_le_pow_right (by decide) few.2.2
            omega
          have ll1 : l'.length ≤ l.length + 64 := by
            have := foldl_len (f := fun l st => inK m t x st (ways m.wheels.length) l) (c := 8) (fun l a => by have := inK_len (m := m) (t := t) (x := x) (st := a) (rns := ways m.wheels.length) (l := l); omega) (as := (ways m.gates.length).take i) (l := l)
            rw [← hl1, List.length_take] at this
            omega
          clear hr
          simp [-List.map_map, exec_for, mill_wheels, w1]
          obtain ⟨M, hM⟩ : ∃ M : Nat → Sl → Prop, ∀ i ρ, M i ρ ↔ (∃ (l2 : List LSt) (u11 u12 u13 u14 u15 : Slot), ρ = [.sh m.d, .sh (.int t), .sh (.list (L.map stD)), .dic (l2.map kvD), .sh (.tuple (x.1.1.map .int)), .sh (boolsT x.1.2), .sh (.int x.2.1), .sh (.int x.2.2), .sh (boolsT st), u11, u12, u13, u14, u15, .un] ∧ l2 = ((ways m.wheels.length).take i).foldl (fun l rn => lyStep l ((turnO m x.1.1 t st rn).1, st) (x.2.1 + (turnO m x.1.1 t st rn).2.2, -(x.2.2 + (unlikeN x.1.2 st : Nat)))) l') := ⟨_, fun _ _ => Iff.rfl⟩
          refine wp_forL M ((hM _ _).mpr ⟨l', _, _, _, _, _, rfl, rfl⟩) ?_ ?_
          · intro i2 d ρ hd hr
            obtain ⟨l2, u11, u12, u13, u14, u15, rfl, hl2⟩ := (hM _ _).mp hr
            rw [List.getElem?_map] at hd
            cases q3 : (ways m.wheels.length)[i2]? with
            | none => rw [q3] at hd; cases hd
            | some rn =>
              rw [q3] at hd
              cases hd
              refine ⟨_, rfl, ?_⟩
              have hrn := ways_len rn (List.mem_of_getElem? q3)
              have hs3 := foldl_take (f := fun l rn => lyStep l ((turnO m x.1.1 t st rn).1, st) (x.2.1 + (turnO m x.1.1 t st rn).2.2, -(x.2.2 + (unlikeN x.1.2 st : Nat)))) (b := l') q3
              rw [← hl2] at hs3
              have lt2 : TabOk m l2 := by
                rw [hl2]
                exact foldl_tab (fun l rn _ hl => stepK_tab hl ⟨turnO_ok h hx.1, hst⟩) lt1
              have ll2 : l2.length ≤ l'.length + 8 := by
                have := foldl_len (f := fun l rn => lyStep l ((turnO m x.1.1 t st rn).1, st) (x.2.1 + (turnO m x.1.1 t st rn).2.2, -(x.2.2 + (unlikeN x.1.2 st : Nat)))) (c := 1) (fun l a => stepK_len) (as := (ways m.wheels.length).take i2) (l := l')
                rw [← hl2, List.length_take] at this
                omega
              have hlim : decide (l2.length < lim) = true := decide_eq_true (by unfold lim; omega)
              have ed := e1 x.1.1 st rn hx.1 hst hrn
              have eu := e2 x.1.2 st (hx.2.trans hst.symm) (by rw [hx.2]; omega)
              clear hr
              generalize turnO m x.1.1 t st rn = z at *
              have hun : ∀ is ρ, unpD is (doneD z) ρ = optF (setAll is [.tuple (z.1.map .int), logD z.2.1, .int z.2.2] ρ) := fun _ _ => rfl
              have hk : PyData.tuple [.tuple (z.1.map .int), boolsT st] = lkD (z.1, st) := rfl
              have hkT : ∀ g : List D → Res D, tupOf (.ok (lkD (z.1, st))) g = g [.tuple (z.1.map .int), boolsT st] := fun _ => rfl
              have hw : PyData.tuple [.int (x.2.1 + z.2.2), .int (-x.2.2 - (unlikeN x.1.2 st : Nat))] = lvD (x.2.1 + z.2.2, -(x.2.2 + (unlikeN x.1.2 st : Nat))) := by
                rw [show -x.2.2 - ((unlikeN x.1.2 st : Nat) : Int) = -(x.2.2 + (unlikeN x.1.2 st : Nat)) by omega]; rfl
              have fin : ∀ (l3 : List LSt), l3 = lyStep l2 (z.1, st) (x.2.1 + z.2.2, -(x.2.2 + (unlikeN x.1.2 st : Nat))) → ∀ u11 u12 u13 u14 u15, M (i2 + 1) [.sh m.d, .sh (.int t), .sh (.list (L.map stD)), .dic (l3.map kvD), .sh (.tuple (x.1.1.map .int)), .sh (boolsT x.1.2), .sh (.int x.2.1), .sh (.int x.2.2), .sh (boolsT st), u11, u12, u13, u14, u15, .un] := fun l3 e u11 u12 u13 u14 u15 =>
                (hM _ _).mpr ⟨l3, _, _, _, _, _, rfl, e.trans hs3.symm⟩
              generalize ((x.2.1 + z.2.2, -(x.2.2 + (unlikeN x.1.2 st : Nat))) : Int × Int) = w at hw fin
              have hgd : ((lyGet l2 (z.1, st)).map lvD).getD (lvD w) = lvD ((lyGet l2 (z.1, st)).getD w) := by cases lyGet l2 (z.1, st) <;> rfl
              simp [-List.map_map, ed, hun, eu]
              rw [hw]
              simp [-List.map_map, -Option.getD_map, hk, hkT, key_ok, dcGet_kv, hgd, max_lv, dcPut_kv, hlim, Kf_eq]
              exact fin _ (stepK_max lt2.nd (z.1, st) w) _ _ _ _ _
          · intro ρ hr
            obtain ⟨l2, u11, u12, u13, u14, u15, rfl, hl2⟩ := (hM _ _).mp hr
            rw [List.length_map, List.take_length] at hl2
            simp [-List.map_map, Kf_eq]
            exact (hJ _ _).mpr ⟨l2, _, _, _, _, _, _, rfl, hl2.trans hs2.symm⟩
      · intro ρ hr
        obtain ⟨l', u10, u11, u12, u13, u14, u15, rfl, hl1⟩ := (hJ _ _).mp hr
        rw [List.length_map, List.take_length] at hl1
        simp [-List.map_map, Kf_eq]
        exact (hI _ _).mpr ⟨l', _, _, _, _, _, _, _, _, _, _, rfl, hl1.trans hs.symm⟩
  · intro ρ hr
    obtain ⟨l, u6, u7, u8, u9, u10, u11, u12, u13, u14, u15, rfl, hl0⟩ := (hI _ _).mp hr
    rw [List.length_map, List.take_length] at hl0
    have hl0 : l = tabK m t L := hl0
    have so := sorted_lk (ks := l.map (·.1)) (by rw [List.length_map, hl0]; omega)
    simp [-List.map_map, Kf_eq]
    rw [kv_keys, show decide (l.length ≤ lim) = true from decide_eq_true (by rw [hl0]; exact Nat.le_trans tl (by unfold lim; omega))]
    simp [-List.map_map, so]
    rw [compD_map (fun k => stD (k, (atK l k).1, -(atK l k).2)) (by unfold sortK; rw [List.length_mergeSort, List.length_map, hl0]; omega) fun k hk => by
      have hk : k ∈ l.map (·.1) := List.mem_mergeSort.mp hk
      have dg := dget_at hk
      simp [-List.map_map, lk0, lk1, key_ok, dg, lvd0, lvd1, stD]]
    simp [-List.map_map]
    unfold layO
    rw [← hl0, List.map_map]
    rfl
end Rf

/-! Rf: reflection. Part ZQ: states as the laws look at them. -/
namespace Rf
open PySem L2
def bWholeS : S :=
  (.seq (.ret (.and (.isi .int (.var 0)) (.not (.isi .bool (.var 0))))) .nil)
def bIsTruths : S :=
  (.seq (.ifs (.or (.not (.isi .tuple (.var 0))) (.cmp .NotEq (.blt .len (.cons (.var 0) .nil)) (.var 1))) (.seq (.ret (.cst (.bool false))) .nil) .nil) (.seq (.ret (.cmp .Eq (.compC (.var 2) (.one 2) (.iseq (.var 0)) (.not (.isi .bool (.var 2))) [2]) (.lst .nil))) .nil))
def bIsState : S :=
  (.seq (.ifs (.or (.not (.isi .tuple (.var 1))) (.or (.cmp .NotEq (.blt .len (.cons (.var 1) .nil)) (.cst (.int 4))) (.not (.call false 0 (.cons (.idx (.var 1) (.cst (.int 1))) (.cons (.blt .len (.cons (.idx (.var 0) (.cst (.int 2))) .nil)) .nil)))))) (.seq (.ret (.cst (.bool false))) .nil) .nil) (.seq (.ifs (.or (.not (.isi .tuple (.idx (.var 1) (.cst (.int 0))))) (.or (.not (.call false 1 (.cons (.idx (.var 1) (.cst (.int 2))) .nil))) (.not (.call false 1 (.cons (.idx (.var 1) (.cst (.int 3))) .nil))))) (.seq (.ret (.cst (.bool false))) .nil) .nil) (.seq (.ret (.cmp .Eq (.compC (.var 2) (.one 2) (.iseq (.idx (.var 1) (.cst (.int 0)))) (.not (.call false 1 (.cons (.var 2) .nil))) [2]) (.lst .nil))) .nil)))

theorem shp_st (x : LSt) : Shp 2 (stD x) := Shp.tup fun d hd => by
  simp only [List.mem_cons, List.not_mem_nil, or_false] at hd
  rcases hd with rfl | rfl | rfl | rfl
  · exact Shp.intsT
  · exact Shp.boolsT
  · exact Shp.int
  · exact Shp.int
theorem shp_sts (l : List LSt) : Shp 3 (.list (l.map stD)) := Shp.list fun d hd => by
  obtain ⟨x, _, rfl⟩ := List.mem_map.mp hd
  exact shp_st x
theorem eq_nilS : cmpB .Eq (.list []) (.list []) = .ok true := eq_self (n := 1) (Shp.list fun _ h => nomatch h) (by decide) rfl
theorem ne_nilS : cmpB .NotEq (.list []) (.list []) = .ok false := ne_self (n := 1) (Shp.list fun _ h => nomatch h) (by decide) rfl
theorem whole_spec (Γ : Rf.Ctx) (i : Int) : run Γ .sh 1 bWholeS [.int i] = .ok (.bool true) := by
  refine run_eq ?_
  unfold bWholeS
  simp [List.replicate]
theorem filter_no {α : Type} {l : List α} {p : α → Bool} (h : ∀ a ∈ l, p a = false) : l.filter p = [] := List.filter_eq_nil_iff.mpr fun a ha => by rw [h a ha]; decide
theorem is_truths_spec (Γ : Rf.Ctx) (st : List Bool) (hl : st.length ≤ 1000) : run Γ .sh 3 bIsTruths [boolsT st, .int st.length] = .ok (.bool true) := by
  refine run_eq ?_
  unfold bIsTruths boolsT
  simp [-List.map_map, List.replicate, Kf_eq]
  rw [compD_filter (h := PyData.bool) (p := fun _ => false) (by omega) fun b hb => by simp]
  rw [filter_no fun _ _ => rfl]
  simp [eq_nilS]
theorem is_state_spec (Γ : Rf.Ctx) {m : Mill} {x : LSt} (h : m.Ok) (hx : StOk m x)
    (e0 : ∀ st : List Bool, st.length ≤ 1000 → callD Γ 0 [boolsT st, .int st.length] = .ok (.bool true)) (e1 : ∀ i : Int, callD Γ 1 [.int i] = .ok (.bool true)) :
    run Γ .sh 3 bIsState [m.d, stD x] = .ok (.bool true) := by
  refine run_eq ?_
  unfold bIsState
  have few := h.few
  have t0 := e0 x.1.2 (by rw [hx.2]; omega)
  rw [hx.2] at t0
  have t0 : callD Γ 0 [.tuple (x.1.2.map .bool), .int m.gates.length] = _ := t0
  have cl := hx.1.len
  simp [-List.map_map, List.replicate, stD, mill_gates, t0, Kf_eq, e1]
  rw [compD_filter (h := PyData.int) (p := fun _ => false) (by omega) fun i hi => by simp [e1]]
  rw [filter_no fun _ _ => rfl]
  simp [eq_nilS]
end Rf

/-! printed by wip/gen.py: the defs in the small language, and how they match -/
namespace T60
open PySem L2 Rf
def topS (i : Nat) : Stmt := PySem.Challenge.pw_tidepond_k60_next_layer.main.body.getD i (.Pass ⟨0, 0, 0, 0⟩)
def BL : List Str := ["abs", "bool", "int", "isinstance", "len", "list", "max", "min", "range", "sorted", "sum", "tuple"]
def GL : List (Str × D) := []
def DG : Bool := false
/-- no class of exceptions is named -/
def ct0 : Str → Option Addr := fun _ => none

/-! ring_at -/
abbrev s_ring_at : Stmt := topS 1
def N_ring_at : List Str := ["ring", "turn", "shift", "heights"]
def G_ring_at : Rf.Ctx := ⟨[], GL, BL, DG⟩
def b_ring_at : S :=
  (.seq (.unp [2, 3] (.var 0)) (.seq (.ret (.idx (.var 3) (.bin .Mod (.bin .Add (.var 1) (.var 2)) (.blt .len (.cons (.var 3) .nil))))) .nil))
def r_ring_at (ds : List D) : Res D := run G_ring_at .sh 4 b_ring_at ds
def c_ring_at : Cal := ⟨"ring_at", 2, [], .sh, r_ring_at⟩

/-! common -/
abbrev s_common : Stmt := topS 3
def N_common : List Str := ["one", "other"]
def G_common : Rf.Ctx := ⟨[], GL, BL, DG⟩
def b_common : S :=
  (.seq (.whl (.cmp .Gt (.var 1) (.cst (.int 0))) (.seq (.par 0 1 (.var 1) (.bin .Mod (.var 0) (.var 1))) .nil)) (.seq (.ret (.var 0)) .nil))
def r_common (ds : List D) : Res D := run G_common .sh 2 b_common ds
def c_common : Cal := ⟨"common", 2, [], .sh, r_common⟩

/-! at_least -/
abbrev s_at_least : Stmt := topS 6
def N_at_least : List Str := ["one", "other"]
def G_at_least : Rf.Ctx := ⟨[], GL, BL, DG⟩
def b_at_least : S :=
  (.seq (.ret (.cmp .GtE (.bin .Mult (.idx (.var 0) (.cst (.int 0))) (.idx (.var 1) (.cst (.int 1)))) (.bin .Mult (.idx (.var 1) (.cst (.int 0))) (.idx (.var 0) (.cst (.int 1)))))) .nil)
def r_at_least (ds : List D) : Res D := run G_at_least .sh 2 b_at_least ds
def c_at_least : Cal := ⟨"at_least", 2, [], .sh, r_at_least⟩

/-! holds -/
abbrev s_holds : Stmt := topS 11
def N_holds : List Str := ["pond"]
def G_holds : Rf.Ctx := ⟨[], GL, BL, DG⟩
def b_holds : S :=
  (.seq (.ret (.bin .Mult (.idx (.var 0) (.cst (.int 1))) (.bin .Sub (.idx (.var 0) (.cst (.int 3))) (.idx (.var 0) (.cst (.int 2)))))) .nil)
def r_holds (ds : List D) : Res D := run G_holds .sh 1 b_holds ds
def c_holds : Cal := ⟨"holds", 1, [], .sh, r_holds⟩

/-! shifted -/
abbrev s_shifted : Stmt := topS 13
def N_shifted : List Str := ["contents", "one", "other", "buckets", "row"]
def G_shifted : Rf.Ctx := ⟨[], GL, BL, DG⟩
def b_shifted : S :=
  (.seq (.asg 4 (.blt .list (.cons (.var 0) .nil))) (.seq (.ifs (.cmp .GtE (.var 1) (.cst (.int 0))) (.seq (.setIx 4 (.var 1) (.bin .Sub (.idx (.var 4) (.var 1)) (.var 3))) .nil) .nil) (.seq (.ifs (.cmp .GtE (.var 2) (.cst (.int 0))) (.seq (.setIx 4 (.var 2) (.bin .Add (.idx (.var 4) (.var 2)) (.var 3))) .nil) .nil) (.seq (.ret (.blt .tuple (.cons (.var 4) .nil))) .nil))))
def r_shifted (ds : List D) : Res D := run G_shifted .sh 5 b_shifted ds
def c_shifted : Cal := ⟨"shifted", 4, [], .sh, r_shifted⟩

/-! given_above -/
abbrev s_given_above : Stmt := topS 14
def N_given_above : List Str := ["pond", "content", "height"]
def G_given_above : Rf.Ctx := ⟨[], GL, BL, DG⟩
def b_given_above : S :=
  (.seq (.ret (.blt .min2 (.cons (.var 1) (.cons (.bin .Sub (.var 1) (.bin .Mult (.bin .Sub (.var 2) (.idx (.var 0) (.cst (.int 2)))) (.idx (.var 0) (.cst (.int 1))))) .nil)))) .nil)
def r_given_above (ds : List D) : Res D := run G_given_above .sh 3 b_given_above ds
def c_given_above : Cal := ⟨"given_above", 3, [], .sh, r_given_above⟩

/-! taken_below -/
abbrev s_taken_below : Stmt := topS 15
def N_taken_below : List Str := ["pond", "content", "height"]
def G_taken_below : Rf.Ctx := ⟨[], GL, BL, DG⟩
def b_taken_below : S :=
  (.seq (.ret (.bin .Sub (.bin .Mult (.bin .Sub (.var 2) (.idx (.var 0) (.cst (.int 2)))) (.idx (.var 0) (.cst (.int 1)))) (.var 1))) .nil)
def r_taken_below (ds : List D) : Res D := run G_taken_below .sh 3 b_taken_below ds
def c_taken_below : Cal := ⟨"taken_below", 3, [], .sh, r_taken_below⟩

/-! choices -/
abbrev s_choices : Stmt := topS 23
def N_choices : List Str := ["many", "found", "place", "wider", "one"]
def G_choices : Rf.Ctx := ⟨[], GL, BL, DG⟩
def b_choices : S :=
  (.seq (.asg 1 (.lst (.cons (.tup .nil) .nil))) (.seq (.fr (.one 2) (.irng (.cons (.var 0) .nil)) (.seq (.asg 3 (.lst .nil)) (.seq (.frz 1) (.seq (.fr (.one 4) (.iseq (.var 1)) (.seq (.ext 3 (.lst (.cons (.bin .Add (.var 4) (.tup (.cons (.cst (.bool false)) .nil))) (.cons (.bin .Add (.var 4) (.tup (.cons (.cst (.bool true)) .nil))) .nil)))) .nil)) (.seq (.frz 3) (.seq (.asg 1 (.var 3)) .nil)))))) (.seq (.frz 1) (.seq (.ret (.var 1)) .nil))))
def r_choices (ds : List D) : Res D := run G_choices .sh 5 b_choices ds
def c_choices : Cal := ⟨"choices", 1, [], .sh, r_choices⟩

/-! gates_moved -/
abbrev s_gates_moved : Stmt := topS 24
def N_gates_moved : List Str := ["one", "other", "place"]
def G_gates_moved : Rf.Ctx := ⟨[], GL, BL, DG⟩
def b_gates_moved : S :=
  (.seq (.ret (.blt .len (.cons (.compC (.var 2) (.one 2) (.irng (.cons (.blt .len (.cons (.var 0) .nil)) .nil)) (.cmp .NotEq (.idx (.var 0) (.var 2)) (.idx (.var 1) (.var 2))) [2]) .nil))) .nil)
def r_gates_moved (ds : List D) : Res D := run G_gates_moved .sh 3 b_gates_moved ds
def c_gates_moved : Cal := ⟨"gates_moved", 2, [], .sh, r_gates_moved⟩

/-! _law_cell_at -/
abbrev s_l_cell_at : Stmt := topS 27
def N_l_cell_at : List Str := ["_law_script", "_law_k"]
def G_l_cell_at : Rf.Ctx := ⟨[], GL, BL, DG⟩
def b_l_cell_at : S :=
  (.seq (.ifs (.cmp .Lt (.var 1) (.blt .len (.cons (.var 0) .nil))) (.seq (.ret (.idx (.var 0) (.var 1))) .nil) .nil) (.seq (.ret (.cst (.int 0))) .nil))
def r_l_cell_at (ds : List D) : Res D := run G_l_cell_at .sh 2 b_l_cell_at ds
def c_l_cell_at : Cal := ⟨"_law_cell_at", 2, [], .sh, r_l_cell_at⟩

/-! _law_pick -/
abbrev s_l_pick : Stmt := topS 28
def N_l_pick : List Str := ["_law_number", "_law_turn", "_law_many", "_law_free", "_law_mixed"]
def G_l_pick : Rf.Ctx := ⟨[], GL, BL, DG⟩
def b_l_pick : S :=
  (.seq (.asg 3 (.bin .Mod (.bin .RShift (.bin .FloorDiv (.var 0) (.cst (.int 1000003))) (.bin .Mult (.cst (.int 20)) (.var 1))) (.cst (.int 1048576)))) (.seq (.asg 4 (.bin .Mod (.bin .Mult (.bin .Add (.bin .Add (.bin .Mod (.var 0) (.cst (.int 1000003))) (.bin .Mult (.bin .Mult (.cst (.int 31)) (.var 1)) (.var 1))) (.cst (.int 1))) (.bin .Add (.cst (.int 48271)) (.bin .Mult (.cst (.int 40)) (.var 1)))) (.cst (.int 2147483629)))) (.seq (.ret (.bin .Mod (.bin .Add (.bin .FloorDiv (.bin .Mod (.bin .Mult (.var 4) (.cst (.int 16807))) (.cst (.int 2147483399))) (.cst (.int 11))) (.var 3)) (.var 2))) .nil)))
def r_l_pick (ds : List D) : Res D := run G_l_pick .sh 5 b_l_pick ds
def c_l_pick : Cal := ⟨"_law_pick", 3, [], .sh, r_l_pick⟩

/-! _law_top -/
abbrev s_l_top : Stmt := topS 34
def N_l_top : List Str := ["_law_mill", "_law_contents", "_law_side", "_law_turn", "_law_height", "_law_shift", "_law_heights", "_law_pond"]
def G_l_top : Rf.Ctx := ⟨[], GL, BL, DG⟩
def b_l_top : S :=
  (.seq (.ifs (.cmp .GtE (.var 2) (.cst (.int 0))) (.seq (.asg 7 (.idx (.idx (.var 0) (.cst (.int 1))) (.var 2))) (.seq (.ret (.tup (.cons (.bin .Add (.bin .Mult (.idx (.var 7) (.cst (.int 2))) (.idx (.var 7) (.cst (.int 1)))) (.idx (.var 1) (.var 2))) (.cons (.idx (.var 7) (.cst (.int 1))) .nil)))) .nil)) .nil) (.seq (.asg 4 (.idx (.idx (.var 0) (.cst (.int 0))) (.cst (.int 0)))) (.seq (.fr (.tup [5, 6]) (.iseq (.idx (.idx (.var 0) (.cst (.int 0))) (.cst (.int 1)))) (.seq (.asg 4 (.bin .Add (.var 4) (.idx (.var 6) (.bin .Mod (.bin .Add (.var 3) (.var 5)) (.blt .len (.cons (.var 6) .nil)))))) .nil)) (.seq (.ret (.tup (.cons (.var 4) (.cons (.cst (.int 1)) .nil)))) .nil))))
def r_l_top (ds : List D) : Res D := run G_l_top .sh 8 b_l_top ds
def c_l_top : Cal := ⟨"_law_top", 4, [], .sh, r_l_top⟩

/-! _law_no_less -/
abbrev s_l_no_less : Stmt := topS 35
def N_l_no_less : List Str := ["_law_one", "_law_other"]
def G_l_no_less : Rf.Ctx := ⟨[], GL, BL, DG⟩
def b_l_no_less : S :=
  (.seq (.ret (.cmp .GtE (.bin .Mult (.idx (.var 0) (.cst (.int 0))) (.idx (.var 1) (.cst (.int 1)))) (.bin .Mult (.idx (.var 1) (.cst (.int 0))) (.idx (.var 0) (.cst (.int 1)))))) .nil)
def r_l_no_less (ds : List D) : Res D := run G_l_no_less .sh 2 b_l_no_less ds
def c_l_no_less : Cal := ⟨"_law_no_less", 2, [], .sh, r_l_no_less⟩

/-! _law_shifted -/
abbrev s_l_shifted : Stmt := topS 36
def N_l_shifted : List Str := ["_law_contents", "_law_giving", "_law_taking", "_law_many", "_law_row"]
def G_l_shifted : Rf.Ctx := ⟨[], GL, BL, DG⟩
def b_l_shifted : S :=
  (.seq (.asg 4 (.blt .list (.cons (.var 0) .nil))) (.seq (.ifs (.cmp .GtE (.var 1) (.cst (.int 0))) (.seq (.setIx 4 (.var 1) (.bin .Sub (.idx (.var 4) (.var 1)) (.var 3))) .nil) .nil) (.seq (.ifs (.cmp .GtE (.var 2) (.cst (.int 0))) (.seq (.setIx 4 (.var 2) (.bin .Add (.idx (.var 4) (.var 2)) (.var 3))) .nil) .nil) (.seq (.ret (.blt .tuple (.cons (.var 4) .nil))) .nil))))
def r_l_shifted (ds : List D) : Res D := run G_l_shifted .sh 5 b_l_shifted ds
def c_l_shifted : Cal := ⟨"_law_shifted", 4, [], .sh, r_l_shifted⟩

/-! _law_fits -/
abbrev s_l_fits : Stmt := topS 37
def N_l_fits : List Str := ["_law_mill", "_law_behind", "_law_turn", "_law_giving", "_law_taking", "_law_pond"]
def G_l_fits : Rf.Ctx := ⟨[], GL, BL, DG⟩
def b_l_fits : S :=
  (.seq (.ifs (.and (.cmp .GtE (.var 3) (.cst (.int 0))) (.cmp .Lt (.idx (.var 1) (.var 3)) (.cst (.int 0)))) (.seq (.ret (.cst (.bool false))) .nil) .nil) (.seq (.ifs (.cmp .Lt (.var 4) (.cst (.int 0))) (.seq (.ret (.cst (.bool true))) .nil) .nil) (.seq (.asg 5 (.idx (.idx (.var 0) (.cst (.int 1))) (.var 4))) (.seq (.ret (.cmp .LtE (.idx (.var 1) (.var 4)) (.bin .Mult (.idx (.var 5) (.cst (.int 1))) (.bin .Sub (.idx (.var 5) (.cst (.int 3))) (.idx (.var 5) (.cst (.int 2))))))) .nil))))
def r_l_fits (ds : List D) : Res D := run G_l_fits .sh 6 b_l_fits ds
def c_l_fits : Cal := ⟨"_law_fits", 5, [], .sh, r_l_fits⟩

/-! _law_ways -/
abbrev s_l_ways : Stmt := topS 41
def N_l_ways : List Str := ["_law_many", "_law_found", "_law_k", "_law_wider", "_law_one"]
def G_l_ways : Rf.Ctx := ⟨[], GL, BL, DG⟩
def b_l_ways : S :=
  (.seq (.asg 1 (.lst (.cons (.tup .nil) .nil))) (.seq (.fr (.one 2) (.irng (.cons (.var 0) .nil)) (.seq (.asg 3 (.lst .nil)) (.seq (.frz 1) (.seq (.fr (.one 4) (.iseq (.var 1)) (.seq (.ext 3 (.lst (.cons (.bin .Add (.var 4) (.tup (.cons (.cst (.bool false)) .nil))) (.cons (.bin .Add (.var 4) (.tup (.cons (.cst (.bool true)) .nil))) .nil)))) .nil)) (.seq (.frz 3) (.seq (.asg 1 (.var 3)) .nil)))))) (.seq (.frz 1) (.seq (.ret (.var 1)) .nil))))
def r_l_ways (ds : List D) : Res D := run G_l_ways .sh 5 b_l_ways ds
def c_l_ways : Cal := ⟨"_law_ways", 1, [], .sh, r_l_ways⟩

/-! _law_unlike -/
abbrev s_l_unlike : Stmt := topS 42
def N_l_unlike : List Str := ["_law_one", "_law_other", "_law_k"]
def G_l_unlike : Rf.Ctx := ⟨[], GL, BL, DG⟩
def b_l_unlike : S :=
  (.seq (.ret (.blt .len (.cons (.compC (.var 2) (.one 2) (.irng (.cons (.blt .len (.cons (.var 0) .nil)) .nil)) (.cmp .NotEq (.idx (.var 0) (.var 2)) (.idx (.var 1) (.var 2))) [2]) .nil))) .nil)
def r_l_unlike (ds : List D) : Res D := run G_l_unlike .sh 3 b_l_unlike ds
def c_l_unlike : Cal := ⟨"_law_unlike", 2, [], .sh, r_l_unlike⟩

/-! _law_whole -/
abbrev s_l_whole : Stmt := topS 44
def N_l_whole : List Str := ["_law_one"]
def G_l_whole : Rf.Ctx := ⟨[], GL, BL, DG⟩
def b_l_whole : S :=
  (.seq (.ret (.and (.isi .int (.var 0)) (.not (.isi .bool (.var 0))))) .nil)
def r_l_whole (ds : List D) : Res D := run G_l_whole .sh 1 b_l_whole ds
def c_l_whole : Cal := ⟨"_law_whole", 1, [], .sh, r_l_whole⟩

/-! _law_is_truths -/
abbrev s_l_is_truths : Stmt := topS 45
def N_l_is_truths : List Str := ["_law_found", "_law_many", "_law_one"]
def G_l_is_truths : Rf.Ctx := ⟨[], GL, BL, DG⟩
def b_l_is_truths : S :=
  (.seq (.ifs (.or (.not (.isi .tuple (.var 0))) (.cmp .NotEq (.blt .len (.cons (.var 0) .nil)) (.var 1))) (.seq (.ret (.cst (.bool false))) .nil) .nil) (.seq (.ret (.cmp .Eq (.compC (.var 2) (.one 2) (.iseq (.var 0)) (.not (.isi .bool (.var 2))) [2]) (.lst .nil))) .nil))
def r_l_is_truths (ds : List D) : Res D := run G_l_is_truths .sh 3 b_l_is_truths ds
def c_l_is_truths : Cal := ⟨"_law_is_truths", 2, [], .sh, r_l_is_truths⟩

/-! sea_at -/
abbrev s_sea_at : Stmt := topS 2
def N_sea_at : List Str := ["sea", "turn", "base", "rings", "ring"]
def G_sea_at : Rf.Ctx := ⟨[c_ring_at], GL, BL, DG⟩
def b_sea_at : S :=
  (.seq (.unp [2, 3] (.var 0)) (.seq (.ret (.bin .Add (.var 2) (.blt .sum (.cons (.comp (.call false 0 (.cons (.var 4) (.cons (.var 1) .nil))) (.one 4) (.iseq (.var 3)) [4]) .nil)))) .nil))
def r_sea_at (ds : List D) : Res D := run G_sea_at .sh 5 b_sea_at ds
def c_sea_at : Cal := ⟨"sea_at", 2, [], .sh, r_sea_at⟩

/-! fraction -/
abbrev s_fraction : Stmt := topS 5
def N_fraction : List Str := ["top", "under", "part"]
def G_fraction : Rf.Ctx := ⟨[c_common], GL, BL, DG⟩
def b_fraction : S :=
  (.seq (.asg 2 (.call false 0 (.cons (.blt .abs (.cons (.var 0) .nil)) (.cons (.var 1) .nil)))) (.seq (.ret (.tup (.cons (.bin .FloorDiv (.var 0) (.var 2)) (.cons (.bin .FloorDiv (.var 1) (.var 2)) .nil)))) .nil))
def r_fraction (ds : List D) : Res D := run G_fraction .sh 3 b_fraction ds
def c_fraction : Cal := ⟨"fraction", 2, [], .sh, r_fraction⟩

/-! _law_unlike_side -/
abbrev s_l_unlike_side : Stmt := topS 29
def N_l_unlike_side : List Str := ["_law_cell", "_law_k", "_law_many", "_law_one", "_law_other"]
def G_l_unlike_side : Rf.Ctx := ⟨[c_l_pick], GL, BL, DG⟩
def b_l_unlike_side : S :=
  (.seq (.asg 4 (.bin .Sub (.call false 0 (.cons (.var 0) (.cons (.var 1) (.cons (.var 2) .nil)))) (.cst (.int 1)))) (.seq (.ifs (.cmp .GtE (.var 4) (.var 3)) (.seq (.asg 4 (.bin .Add (.var 4) (.cst (.int 1)))) .nil) .nil) (.seq (.ret (.var 4)) .nil)))
def r_l_unlike_side (ds : List D) : Res D := run G_l_unlike_side .sh 5 b_l_unlike_side ds
def c_l_unlike_side : Cal := ⟨"_law_unlike_side", 4, [], .sh, r_l_unlike_side⟩

/-! _law_some_ponds -/
abbrev s_l_some_ponds : Stmt := topS 30
def N_l_some_ponds : List Str := ["_law_cell", "_law_many", "_law_words", "_law_start", "_law_ponds", "_law_m", "_law_area", "_law_bottom", "_law_deep"]
def G_l_some_ponds : Rf.Ctx := ⟨[c_l_pick], GL, BL, DG⟩
def b_l_some_ponds : S :=
  (.seq (.asg 2 (.lst (.cons (.cst (.str "pond")) (.cons (.cst (.str "tide")) (.cons (.cst (.str "gate")) (.cons (.cst (.str "wheel")) (.cons (.cst (.str "ring")) (.cons (.cst (.str "o")) (.cons (.cst (.str "s")) (.cons (.cst (.str "r")) (.cons (.cst (.str "a")) (.cons (.cst (.str "ab")) (.cons (.cst (.str "aba")) .nil))))))))))))) (.seq (.asg 3 (.call false 0 (.cons (.var 0) (.cons (.cst (.int 5)) (.cons (.cst (.int 11)) .nil))))) (.seq (.asg 4 (.lst .nil)) (.seq (.fr (.one 5) (.irng (.cons (.var 1) .nil)) (.seq (.asg 6 (.blt .min2 (.cons (.bin .Add (.cst (.int 1)) (.call false 0 (.cons (.var 0) (.cons (.bin .Add (.cst (.int 10)) (.var 5)) (.cons (.cst (.int 3)) .nil))))) (.cons (.bin .Sub (.cst (.int 4)) (.var 1)) .nil)))) (.seq (.asg 7 (.bin .Sub (.call false 0 (.cons (.var 0) (.cons (.bin .Add (.cst (.int 20)) (.var 5)) (.cons (.cst (.int 4)) .nil)))) (.cst (.int 2)))) (.seq (.asg 8 (.blt .min2 (.cons (.bin .Add (.cst (.int 1)) (.call false 0 (.cons (.var 0) (.cons (.bin .Add (.cst (.int 30)) (.var 5)) (.cons (.cst (.int 3)) .nil))))) (.cons (.bin .Sub (.cst (.int 4)) (.var 1)) .nil)))) (.seq (.app 4 (.tup (.cons (.idx (.var 2) (.bin .Mod (.bin .Add (.var 3) (.bin .Mult (.cst (.int 4)) (.var 5))) (.cst (.int 11)))) (.cons (.var 6) (.cons (.var 7) (.cons (.bin .Add (.var 7) (.var 8)) .nil)))))) .nil))))) (.seq (.ret (.blt .tuple (.cons (.var 4) .nil))) .nil)))))
def r_l_some_ponds (ds : List D) : Res D := run G_l_some_ponds .sh 9 b_l_some_ponds ds
def c_l_some_ponds : Cal := ⟨"_law_some_ponds", 2, [], .sh, r_l_some_ponds⟩

/-! _law_some_contents -/
abbrev s_l_some_contents : Stmt := topS 32
def N_l_some_contents : List Str := ["_law_mill", "_law_cell", "_law_held", "_law_pond", "_law_m"]
def G_l_some_contents : Rf.Ctx := ⟨[c_l_pick], GL, BL, DG⟩
def b_l_some_contents : S :=
  (.seq (.asg 2 (.comp (.bin .Mult (.idx (.var 3) (.cst (.int 1))) (.bin .Sub (.idx (.var 3) (.cst (.int 3))) (.idx (.var 3) (.cst (.int 2))))) (.one 3) (.iseq (.idx (.var 0) (.cst (.int 1)))) [3])) (.seq (.ret (.blt .tuple (.cons (.comp (.call false 0 (.cons (.var 1) (.cons (.bin .Add (.cst (.int 100)) (.var 4)) (.cons (.bin .Add (.idx (.var 2) (.var 4)) (.cst (.int 1))) .nil)))) (.one 4) (.irng (.cons (.blt .len (.cons (.var 2) .nil)) .nil)) [4]) .nil))) .nil))
def r_l_some_contents (ds : List D) : Res D := run G_l_some_contents .sh 5 b_l_some_contents ds
def c_l_some_contents : Cal := ⟨"_law_some_contents", 2, [], .sh, r_l_some_contents⟩

/-! _law_truths -/
abbrev s_l_truths : Stmt := topS 33
def N_l_truths : List Str := ["_law_many", "_law_cell", "_law_k", "_law_n"]
def G_l_truths : Rf.Ctx := ⟨[c_l_pick], GL, BL, DG⟩
def b_l_truths : S :=
  (.seq (.ret (.blt .tuple (.cons (.comp (.cmp .Eq (.call false 0 (.cons (.var 1) (.cons (.bin .Add (.var 2) (.var 3)) (.cons (.cst (.int 2)) .nil)))) (.cst (.int 0))) (.one 3) (.irng (.cons (.var 0) .nil)) [3]) .nil))) .nil)
def r_l_truths (ds : List D) : Res D := run G_l_truths .sh 4 b_l_truths ds
def c_l_truths : Cal := ⟨"_law_truths", 3, [], .sh, r_l_truths⟩

/-! _law_passed -/
abbrev s_l_passed : Stmt := topS 38
def N_l_passed : List Str := ["_law_mill", "_law_contents", "_law_turn", "_law_gate", "_law_giving", "_law_taking", "_law_sill", "_law_rate", "_law_low", "_law_high", "_law_many", "_law_behind", "_law_side"]
def G_l_passed : Rf.Ctx := ⟨[c_l_top, c_l_no_less, c_l_shifted, c_l_fits], GL, BL, DG⟩
def b_l_passed : S :=
  (.seq (.unp [4, 5, 6, 7] (.var 3)) (.seq (.unp [8, 9] (.comp (.call false 0 (.cons (.var 0) (.cons (.var 1) (.cons (.var 12) (.cons (.var 2) .nil))))) (.one 12) (.iseq (.tup (.cons (.var 5) (.cons (.var 4) .nil)))) [12])) (.seq (.ifs (.call false 1 (.cons (.var 8) (.cons (.var 9) .nil))) (.seq (.par 4 5 (.var 5) (.var 4)) (.seq (.par 8 9 (.var 9) (.var 8)) .nil)) .nil) (.seq (.ifs (.or (.call false 1 (.cons (.var 8) (.cons (.var 9) .nil))) (.call false 1 (.cons (.tup (.cons (.var 6) (.cons (.cst (.int 1)) .nil))) (.cons (.var 9) .nil)))) (.seq (.ret (.cst .none)) .nil) .nil) (.seq (.asg 10 (.cst (.int 0))) (.seq (.asg 11 (.call false 2 (.cons (.var 1) (.cons (.var 4) (.cons (.var 5) (.cons (.cst (.int 1)) .nil)))))) (.seq (.asg 9 (.call false 0 (.cons (.var 0) (.cons (.var 11) (.cons (.var 4) (.cons (.var 2) .nil)))))) (.seq (.whl (.and (.cmp .Lt (.var 10) (.var 7)) (.call false 3 (.cons (.var 0) (.cons (.var 11) (.cons (.var 2) (.cons (.var 4) (.cons (.var 5) .nil))))))) (.seq (.asg 8 (.call false 0 (.cons (.var 0) (.cons (.var 11) (.cons (.var 5) (.cons (.var 2) .nil)))))) (.seq (.ifs (.or (.not (.call false 1 (.cons (.var 9) (.cons (.var 8) .nil)))) (.not (.call false 1 (.cons (.var 9) (.cons (.tup (.cons (.var 6) (.cons (.cst (.int 1)) .nil))) .nil))))) (.seq .brk .nil) .nil) (.seq (.asg 10 (.bin .Add (.var 10) (.cst (.int 1)))) (.seq (.asg 11 (.call false 2 (.cons (.var 1) (.cons (.var 4) (.cons (.var 5) (.cons (.bin .Add (.var 10) (.cst (.int 1))) .nil)))))) (.seq (.asg 9 (.call false 0 (.cons (.var 0) (.cons (.var 11) (.cons (.var 4) (.cons (.var 2) .nil)))))) .nil)))))) (.seq (.ret (.ite (.cmp .Eq (.var 10) (.cst (.int 0))) (.cst .none) (.tup (.cons (.var 4) (.cons (.var 5) (.cons (.var 10) .nil)))))) .nil)))))))))
def r_l_passed (ds : List D) : Res D := run G_l_passed .sh 13 b_l_passed ds
def c_l_passed : Cal := ⟨"_law_passed", 4, [], .sh, r_l_passed⟩

/-! _law_can_turn -/
abbrev s_l_can_turn : Stmt := topS 39
def N_l_can_turn : List Str := ["_law_mill", "_law_contents", "_law_turn", "_law_wheel", "_law_pond", "_law_tail", "_law_fall", "_law_drink", "_law_high", "_law_low"]
def G_l_can_turn : Rf.Ctx := ⟨[c_l_top, c_l_no_less, c_l_fits, c_l_shifted], GL, BL, DG⟩
def b_l_can_turn : S :=
  (.seq (.unp [4, 5, 6, 7] (.sl false (.var 3) .non (.cst (.int 4)))) (.seq (.asg 8 (.call false 0 (.cons (.var 0) (.cons (.var 1) (.cons (.var 4) (.cons (.var 2) .nil)))))) (.seq (.asg 9 (.call false 0 (.cons (.var 0) (.cons (.var 1) (.cons (.var 5) (.cons (.var 2) .nil)))))) (.seq (.ifs (.not (.call false 1 (.cons (.tup (.cons (.bin .Sub (.idx (.var 8) (.cst (.int 0))) (.bin .Mult (.var 6) (.idx (.var 8) (.cst (.int 1))))) (.cons (.idx (.var 8) (.cst (.int 1))) .nil))) (.cons (.var 9) .nil)))) (.seq (.ret (.cst (.bool false))) .nil) .nil) (.seq (.ret (.call false 2 (.cons (.var 0) (.cons (.call false 3 (.cons (.var 1) (.cons (.var 4) (.cons (.var 5) (.cons (.var 7) .nil))))) (.cons (.var 2) (.cons (.var 4) (.cons (.var 5) .nil))))))) .nil)))))
def r_l_can_turn (ds : List D) : Res D := run G_l_can_turn .sh 10 b_l_can_turn ds
def c_l_can_turn : Cal := ⟨"_law_can_turn", 4, [], .sh, r_l_can_turn⟩

/-! _law_is_state -/
abbrev s_l_is_state : Stmt := topS 46
def N_l_is_state : List Str := ["_law_mill", "_law_state", "_law_one"]
def G_l_is_state : Rf.Ctx := ⟨[c_l_is_truths, c_l_whole], GL, BL, DG⟩
def b_l_is_state : S :=
  (.seq (.ifs (.or (.not (.isi .tuple (.var 1))) (.or (.cmp .NotEq (.blt .len (.cons (.var 1) .nil)) (.cst (.int 4))) (.not (.call false 0 (.cons (.idx (.var 1) (.cst (.int 1))) (.cons (.blt .len (.cons (.idx (.var 0) (.cst (.int 2))) .nil)) .nil)))))) (.seq (.ret (.cst (.bool false))) .nil) .nil) (.seq (.ifs (.or (.not (.isi .tuple (.idx (.var 1) (.cst (.int 0))))) (.or (.not (.call false 1 (.cons (.idx (.var 1) (.cst (.int 2))) .nil))) (.not (.call false 1 (.cons (.idx (.var 1) (.cst (.int 3))) .nil))))) (.seq (.ret (.cst (.bool false))) .nil) .nil) (.seq (.ret (.cmp .Eq (.compC (.var 2) (.one 2) (.iseq (.idx (.var 1) (.cst (.int 0)))) (.not (.call false 1 (.cons (.var 2) .nil))) [2]) (.lst .nil))) .nil)))
def r_l_is_state (ds : List D) : Res D := run G_l_is_state .sh 3 b_l_is_state ds
def c_l_is_state : Cal := ⟨"_law_is_state", 2, [], .sh, r_l_is_state⟩

/-! level -/
abbrev s_level : Stmt := topS 7
def N_level : List Str := ["pond", "content"]
def G_level : Rf.Ctx := ⟨[c_fraction], GL, BL, DG⟩
def b_level : S :=
  (.seq (.ret (.call false 0 (.cons (.bin .Add (.bin .Mult (.idx (.var 0) (.cst (.int 2))) (.idx (.var 0) (.cst (.int 1)))) (.var 1)) (.cons (.idx (.var 0) (.cst (.int 1))) .nil)))) .nil)
def r_level (ds : List D) : Res D := run G_level .sh 2 b_level ds
def c_level : Cal := ⟨"level", 2, [], .sh, r_level⟩

/-! _law_a_mill -/
abbrev s_l_a_mill : Stmt := topS 31
def N_l_a_mill : List Str := ["_law_cell", "_law_gates", "_law_wheels", "_law_many", "_law_rings", "_law_n", "_law_some", "_law_g", "_law_turning", "_law_w", "_law_sea", "_law_heights", "_law_one", "_law_other", "_law_rate", "_law_pond", "_law_tail", "_law_grind", "_law_j"]
def G_l_a_mill : Rf.Ctx := ⟨[c_l_pick, c_l_unlike_side, c_l_some_ponds], GL, BL, DG⟩
def b_l_a_mill : S :=
  (.seq (.asg 3 (.idx (.lst (.cons (.cst (.int 1)) (.cons (.cst (.int 1)) (.cons (.cst (.int 1)) (.cons (.cst (.int 2)) (.cons (.cst (.int 2)) (.cons (.cst (.int 3)) .nil))))))) (.call false 0 (.cons (.var 0) (.cons (.cst (.int 1)) (.cons (.cst (.int 6)) .nil)))))) (.seq (.asg 4 (.lst .nil)) (.seq (.fr (.one 5) (.irng (.cons (.call false 0 (.cons (.var 0) (.cons (.cst (.int 2)) (.cons (.cst (.int 3)) .nil)))) .nil)) (.seq (.asg 11 (.comp (.bin .Sub (.call false 0 (.cons (.var 0) (.cons (.bin .Add (.bin .Add (.cst (.int 120)) (.bin .Mult (.cst (.int 7)) (.var 5))) (.var 18)) (.cons (.cst (.int 6)) .nil)))) (.cst (.int 2))) (.one 18) (.irng (.cons (.bin .Add (.cst (.int 1)) (.call false 0 (.cons (.var 0) (.cons (.bin .Add (.cst (.int 110)) (.var 5)) (.cons (.cst (.int 5)) .nil))))) .nil)) [18])) (.seq (.app 4 (.tup (.cons (.call false 0 (.cons (.var 0) (.cons (.bin .Add (.cst (.int 115)) (.var 5)) (.cons (.cst (.int 10)) .nil)))) (.cons (.blt .tuple (.cons (.var 11) .nil)) .nil)))) .nil))) (.seq (.asg 6 (.lst .nil)) (.seq (.fr (.one 7) (.irng (.cons (.call false 0 (.cons (.var 0) (.cons (.cst (.int 3)) (.cons (.bin .Add (.var 1) (.cst (.int 1))) .nil)))) .nil)) (.seq (.asg 12 (.bin .Sub (.call false 0 (.cons (.var 0) (.cons (.bin .Add (.cst (.int 40)) (.var 7)) (.cons (.bin .Add (.var 3) (.cst (.int 1))) .nil)))) (.cst (.int 1)))) (.seq (.asg 13 (.call false 1 (.cons (.var 0) (.cons (.bin .Add (.cst (.int 50)) (.var 7)) (.cons (.var 3) (.cons (.var 12) .nil)))))) (.seq (.asg 14 (.idx (.lst (.cons (.cst (.int 1)) (.cons (.cst (.int 2)) (.cons (.cst (.int 3)) (.cons (.cst (.int 1000)) .nil))))) (.call false 0 (.cons (.var 0) (.cons (.bin .Add (.cst (.int 65)) (.var 7)) (.cons (.cst (.int 4)) .nil)))))) (.seq (.app 6 (.tup (.cons (.var 12) (.cons (.var 13) (.cons (.bin .Sub (.call false 0 (.cons (.var 0) (.cons (.bin .Add (.cst (.int 60)) (.var 7)) (.cons (.cst (.int 5)) .nil)))) (.cst (.int 2))) (.cons (.var 14) .nil)))))) .nil))))) (.seq (.asg 8 (.lst .nil)) (.seq (.fr (.one 9) (.irng (.cons (.call false 0 (.cons (.var 0) (.cons (.cst (.int 4)) (.cons (.bin .Add (.var 2) (.cst (.int 1))) .nil)))) .nil)) (.seq (.asg 15 (.call false 0 (.cons (.var 0) (.cons (.bin .Add (.cst (.int 70)) (.var 9)) (.cons (.var 3) .nil))))) (.seq (.asg 16 (.call false 1 (.cons (.var 0) (.cons (.bin .Add (.cst (.int 75)) (.var 9)) (.cons (.var 3) (.cons (.var 15) .nil)))))) (.seq (.asg 17 (.idx (.lst (.cons (.cst (.int 1)) (.cons (.cst (.int 2)) (.cons (.cst (.int 5)) (.cons (.cst (.int 1000)) .nil))))) (.call false 0 (.cons (.var 0) (.cons (.bin .Add (.cst (.int 95)) (.var 9)) (.cons (.cst (.int 4)) .nil)))))) (.seq (.app 8 (.tup (.cons (.var 15) (.cons (.var 16) (.cons (.bin .Add (.cst (.int 1)) (.call false 0 (.cons (.var 0) (.cons (.bin .Add (.cst (.int 80)) (.var 9)) (.cons (.cst (.int 2)) .nil))))) (.cons (.bin .Add (.cst (.int 1)) (.call false 0 (.cons (.var 0) (.cons (.bin .Add (.cst (.int 85)) (.var 9)) (.cons (.cst (.int 2)) .nil))))) (.cons (.var 17) .nil))))))) .nil))))) (.seq (.asg 10 (.tup (.cons (.bin .Sub (.call false 0 (.cons (.var 0) (.cons (.cst (.int 6)) (.cons (.cst (.int 4)) .nil)))) (.cst (.int 1))) (.cons (.blt .tuple (.cons (.var 4) .nil)) .nil)))) (.seq (.ret (.tup (.cons (.var 10) (.cons (.call false 2 (.cons (.var 0) (.cons (.var 3) .nil))) (.cons (.blt .tuple (.cons (.var 6) .nil)) (.cons (.blt .tuple (.cons (.var 8) .nil)) .nil)))))) .nil)))))))))
def r_l_a_mill (ds : List D) : Res D := run G_l_a_mill .sh 19 b_l_a_mill ds
def c_l_a_mill : Cal := ⟨"_law_a_mill", 3, [], .sh, r_l_a_mill⟩

/-! _law_turned -/
abbrev s_l_turned : Stmt := topS 40
def N_l_turned : List Str := ["_law_mill", "_law_contents", "_law_turn", "_law_setting", "_law_running", "_law_rows", "_law_ground", "_law_g", "_law_w", "_law_found"]
def G_l_turned : Rf.Ctx := ⟨[c_l_passed, c_l_shifted, c_l_can_turn], GL, BL, DG⟩
def b_l_turned : S :=
  (.seq (.asg 5 (.lst .nil)) (.seq (.asg 6 (.cst (.int 0))) (.seq (.fr (.one 7) (.irng (.cons (.blt .len (.cons (.idx (.var 0) (.cst (.int 2))) .nil)) .nil)) (.seq (.asg 9 (.ite (.idx (.var 3) (.var 7)) (.call false 0 (.cons (.var 0) (.cons (.var 1) (.cons (.var 2) (.cons (.idx (.idx (.var 0) (.cst (.int 2))) (.var 7)) .nil))))) (.cst .none))) (.seq (.ifs (.cmp .IsNot (.var 9) (.cst .none)) (.seq (.asg 1 (.call false 1 (.cons (.var 1) (.cons (.idx (.var 9) (.cst (.int 0))) (.cons (.idx (.var 9) (.cst (.int 1))) (.cons (.idx (.var 9) (.cst (.int 2))) .nil)))))) (.seq (.app 5 (.bin .Add (.tup (.cons (.cst (.str "gate")) (.cons (.var 7) .nil))) (.var 9))) .nil)) .nil) .nil))) (.seq (.fr (.one 8) (.irng (.cons (.blt .len (.cons (.idx (.var 0) (.cst (.int 3))) .nil)) .nil)) (.seq (.ifs (.and (.idx (.var 4) (.var 8)) (.call false 2 (.cons (.var 0) (.cons (.var 1) (.cons (.var 2) (.cons (.idx (.idx (.var 0) (.cst (.int 3))) (.var 8)) .nil)))))) (.seq (.asg 1 (.call false 1 (.cons (.var 1) (.cons (.idx (.idx (.idx (.var 0) (.cst (.int 3))) (.var 8)) (.cst (.int 0))) (.cons (.idx (.idx (.idx (.var 0) (.cst (.int 3))) (.var 8)) (.cst (.int 1))) (.cons (.idx (.idx (.idx (.var 0) (.cst (.int 3))) (.var 8)) (.cst (.int 3))) .nil)))))) (.seq (.app 5 (.tup (.cons (.cst (.str "wheel")) (.cons (.var 8) .nil)))) (.seq (.asg 6 (.bin .Add (.var 6) (.idx (.idx (.idx (.var 0) (.cst (.int 3))) (.var 8)) (.cst (.int 4))))) .nil))) .nil) .nil)) (.seq (.frz 5) (.seq (.ret (.tup (.cons (.var 1) (.cons (.var 5) (.cons (.var 6) .nil))))) .nil))))))
def r_l_turned (ds : List D) : Res D := run G_l_turned .sh 10 b_l_turned ds
def c_l_turned : Cal := ⟨"_law_turned", 5, [], .sh, r_l_turned⟩

/-! _law_a_layer -/
abbrev s_l_a_layer : Stmt := topS 47
def N_l_a_layer : List Str := ["_law_mill", "_law_script", "_law_kept", "_law_k", "_law_cell", "_law_pair"]
def G_l_a_layer : Rf.Ctx := ⟨[c_l_pick, c_l_cell_at, c_l_some_contents, c_l_truths], GL, BL, DG⟩
def b_l_a_layer : S :=
  (.seq (.dnew 2) (.seq (.fr (.one 3) (.irng (.cons (.bin .Add (.cst (.int 1)) (.call false 0 (.cons (.call false 1 (.cons (.var 1) (.cons (.cst (.int 1)) .nil))) (.cons (.cst (.int 145)) (.cons (.cst (.int 5)) .nil))))) .nil)) (.seq (.asg 4 (.bin .Add (.call false 1 (.cons (.var 1) (.cons (.bin .Add (.cst (.int 2)) (.var 3)) .nil))) (.bin .Mult (.cst (.int 48271)) (.var 3)))) (.seq (.asg 5 (.tup (.cons (.call false 2 (.cons (.var 0) (.cons (.var 4) .nil))) (.cons (.call false 3 (.cons (.blt .len (.cons (.idx (.var 0) (.cst (.int 2))) .nil)) (.cons (.var 4) (.cons (.cst (.int 130)) .nil)))) .nil)))) (.seq (.dput 2 (.var 5) (.tup (.cons (.bin .Add (.call false 0 (.cons (.var 4) (.cons (.cst (.int 140)) (.cons (.cst (.int 21)) .nil)))) (.idx (.lst (.cons (.cst (.int 0)) (.cons (.bin .Pow (.cst (.int 10)) (.cst (.int 30))) .nil))) (.bin .FloorDiv (.call false 0 (.cons (.var 4) (.cons (.cst (.int 141)) (.cons (.cst (.int 8)) .nil)))) (.cst (.int 7))))) (.cons (.call false 0 (.cons (.var 4) (.cons (.cst (.int 142)) (.cons (.cst (.int 10)) .nil)))) .nil)))) .nil)))) (.seq (.ret (.comp (.tup (.cons (.idx (.var 5) (.cst (.int 0))) (.cons (.idx (.var 5) (.cst (.int 1))) (.cons (.idx (.dget 2 (.var 5)) (.cst (.int 0))) (.cons (.idx (.dget 2 (.var 5)) (.cst (.int 1))) .nil))))) (.one 5) (.iseq (.blt .sorted (.cons (.dkeys 2) .nil))) [5])) .nil)))
def r_l_a_layer (ds : List D) : Res D := run G_l_a_layer .own 6 b_l_a_layer ds
def c_l_a_layer : Cal := ⟨"_law_a_layer", 2, [], .own, r_l_a_layer⟩

/-! side_level -/
abbrev s_side_level : Stmt := topS 8
def N_side_level : List Str := ["mill", "contents", "side", "turn"]
def G_side_level : Rf.Ctx := ⟨[c_sea_at, c_level], GL, BL, DG⟩
def b_side_level : S :=
  (.seq (.ifs (.cmp .Eq (.var 2) (.neg (.cst (.int 1)))) (.seq (.ret (.tup (.cons (.call false 0 (.cons (.idx (.var 0) (.cst (.int 0))) (.cons (.var 3) .nil))) (.cons (.cst (.int 1)) .nil)))) .nil) .nil) (.seq (.ret (.call false 1 (.cons (.idx (.idx (.var 0) (.cst (.int 1))) (.var 2)) (.cons (.idx (.var 1) (.var 2)) .nil)))) .nil))
def r_side_level (ds : List D) : Res D := run G_side_level .sh 4 b_side_level ds
def c_side_level : Cal := ⟨"side_level", 4, [], .sh, r_side_level⟩

/-! _law_layer -/
abbrev s_l_layer : Stmt := topS 43
def N_l_layer : List Str := ["_law_mill", "_law_turn", "_law_layer_here", "_law_best", "_law_contents", "_law_setting", "_law_ground", "_law_moves", "_law_other", "_law_running", "_law_behind", "_law_rows", "_law_more", "_law_worth", "_law_pair"]
def G_l_layer : Rf.Ctx := ⟨[c_l_ways, c_l_turned, c_l_unlike], GL, BL, DG⟩
def b_l_layer : S :=
  (.seq (.dnew 3) (.seq (.fr (.tup [4, 5, 6, 7]) (.iseq (.var 2)) (.seq (.fr (.one 8) (.iseq (.call false 0 (.cons (.blt .len (.cons (.idx (.var 0) (.cst (.int 2))) .nil)) .nil))) (.seq (.fr (.one 9) (.iseq (.call false 0 (.cons (.blt .len (.cons (.idx (.var 0) (.cst (.int 3))) .nil)) .nil))) (.seq (.unp [10, 11, 12] (.call false 1 (.cons (.var 0) (.cons (.var 4) (.cons (.var 1) (.cons (.var 8) (.cons (.var 9) .nil))))))) (.seq (.asg 13 (.tup (.cons (.bin .Add (.var 6) (.var 12)) (.cons (.bin .Sub (.bin .Sub (.cst (.int 0)) (.var 7)) (.call false 2 (.cons (.var 5) (.cons (.var 8) .nil)))) .nil)))) (.seq (.dput 3 (.tup (.cons (.var 10) (.cons (.var 8) .nil))) (.blt .maxT2 (.cons (.var 13) (.cons (.dgetO 3 (.tup (.cons (.var 10) (.cons (.var 8) .nil))) (.var 13)) .nil)))) .nil)))) .nil)) .nil)) (.seq (.ret (.comp (.tup (.cons (.idx (.var 14) (.cst (.int 0))) (.cons (.idx (.var 14) (.cst (.int 1))) (.cons (.idx (.dget 3 (.var 14)) (.cst (.int 0))) (.cons (.bin .Sub (.cst (.int 0)) (.idx (.dget 3 (.var 14)) (.cst (.int 1)))) .nil))))) (.one 14) (.iseq (.blt .sorted (.cons (.dkeys 3) .nil))) [14])) .nil)))
def r_l_layer (ds : List D) : Res D := run G_l_layer .own 15 b_l_layer ds
def c_l_layer : Cal := ⟨"_law_layer", 3, [], .own, r_l_layer⟩

/-! fall_of -/
abbrev s_fall_of : Stmt := topS 9
def N_fall_of : List Str := ["mill", "contents", "one", "other", "turn", "high", "low"]
def G_fall_of : Rf.Ctx := ⟨[c_side_level, c_fraction], GL, BL, DG⟩
def b_fall_of : S :=
  (.seq (.asg 5 (.call false 0 (.cons (.var 0) (.cons (.var 1) (.cons (.var 2) (.cons (.var 4) .nil)))))) (.seq (.asg 6 (.call false 0 (.cons (.var 0) (.cons (.var 1) (.cons (.var 3) (.cons (.var 4) .nil)))))) (.seq (.ret (.call false 1 (.cons (.bin .Sub (.bin .Mult (.idx (.var 5) (.cst (.int 0))) (.idx (.var 6) (.cst (.int 1)))) (.bin .Mult (.idx (.var 6) (.cst (.int 0))) (.idx (.var 5) (.cst (.int 1))))) (.cons (.bin .Mult (.idx (.var 5) (.cst (.int 1))) (.idx (.var 6) (.cst (.int 1)))) .nil)))) .nil)))
def r_fall_of (ds : List D) : Res D := run G_fall_of .sh 7 b_fall_of ds
def c_fall_of : Cal := ⟨"fall_of", 5, [], .sh, r_fall_of⟩

/-! until_even -/
abbrev s_until_even : Stmt := topS 16
def N_until_even : List Str := ["mill", "contents", "giving", "taking", "turn", "one", "other", "high", "low"]
def G_until_even : Rf.Ctx := ⟨[c_taken_below, c_side_level, c_given_above], GL, BL, DG⟩
def b_until_even : S :=
  (.seq (.ifs (.cmp .Eq (.var 2) (.neg (.cst (.int 1)))) (.seq (.ret (.call false 0 (.cons (.idx (.idx (.var 0) (.cst (.int 1))) (.var 3)) (.cons (.idx (.var 1) (.var 3)) (.cons (.idx (.call false 1 (.cons (.var 0) (.cons (.var 1) (.cons (.neg (.cst (.int 1))) (.cons (.var 4) .nil))))) (.cst (.int 0))) .nil))))) .nil) .nil) (.seq (.ifs (.cmp .Eq (.var 3) (.neg (.cst (.int 1)))) (.seq (.ret (.call false 2 (.cons (.idx (.idx (.var 0) (.cst (.int 1))) (.var 2)) (.cons (.idx (.var 1) (.var 2)) (.cons (.idx (.call false 1 (.cons (.var 0) (.cons (.var 1) (.cons (.neg (.cst (.int 1))) (.cons (.var 4) .nil))))) (.cst (.int 0))) .nil))))) .nil) .nil) (.seq (.asg 5 (.idx (.idx (.var 0) (.cst (.int 1))) (.var 2))) (.seq (.asg 6 (.idx (.idx (.var 0) (.cst (.int 1))) (.var 3))) (.seq (.asg 7 (.bin .Mult (.bin .Add (.bin .Mult (.idx (.var 5) (.cst (.int 2))) (.idx (.var 5) (.cst (.int 1)))) (.idx (.var 1) (.var 2))) (.idx (.var 6) (.cst (.int 1))))) (.seq (.asg 8 (.bin .Mult (.bin .Add (.bin .Mult (.idx (.var 6) (.cst (.int 2))) (.idx (.var 6) (.cst (.int 1)))) (.idx (.var 1) (.var 3))) (.idx (.var 5) (.cst (.int 1))))) (.seq (.ret (.bin .FloorDiv (.bin .Sub (.var 7) (.var 8)) (.bin .Add (.idx (.var 5) (.cst (.int 1))) (.idx (.var 6) (.cst (.int 1)))))) .nil)))))))
def r_until_even (ds : List D) : Res D := run G_until_even .sh 9 b_until_even ds
def c_until_even : Cal := ⟨"until_even", 5, [], .sh, r_until_even⟩

/-! passing -/
abbrev s_passing : Stmt := topS 17
def N_passing : List Str := ["mill", "contents", "turn", "gate", "giving", "taking", "sill", "rate", "top", "buckets"]
def G_passing : Rf.Ctx := ⟨[c_fall_of, c_side_level, c_at_least, c_until_even, c_given_above, c_holds], GL, BL, DG⟩
def b_passing : S :=
  (.seq (.unp [4, 5, 6, 7] (.idx (.idx (.var 0) (.cst (.int 2))) (.var 3))) (.seq (.ifs (.cmp .Lt (.idx (.call false 0 (.cons (.var 0) (.cons (.var 1) (.cons (.var 4) (.cons (.var 5) (.cons (.var 2) .nil)))))) (.cst (.int 0))) (.cst (.int 0))) (.seq (.par 4 5 (.var 5) (.var 4)) .nil) .nil) (.seq (.asg 8 (.call false 1 (.cons (.var 0) (.cons (.var 1) (.cons (.var 4) (.cons (.var 2) .nil)))))) (.seq (.ifs (.call false 2 (.cons (.tup (.cons (.var 6) (.cons (.cst (.int 1)) .nil))) (.cons (.var 8) .nil))) (.seq (.ret (.cst .none)) .nil) .nil) (.seq (.asg 9 (.blt .min2 (.cons (.var 7) (.cons (.call false 3 (.cons (.var 0) (.cons (.var 1) (.cons (.var 4) (.cons (.var 5) (.cons (.var 2) .nil)))))) .nil)))) (.seq (.ifs (.cmp .GtE (.var 4) (.cst (.int 0))) (.seq (.asg 9 (.blt .min2 (.cons (.var 9) (.cons (.call false 4 (.cons (.idx (.idx (.var 0) (.cst (.int 1))) (.var 4)) (.cons (.idx (.var 1) (.var 4)) (.cons (.var 6) .nil)))) .nil)))) .nil) .nil) (.seq (.ifs (.cmp .GtE (.var 5) (.cst (.int 0))) (.seq (.asg 9 (.blt .min2 (.cons (.var 9) (.cons (.bin .Sub (.call false 5 (.cons (.idx (.idx (.var 0) (.cst (.int 1))) (.var 5)) .nil)) (.idx (.var 1) (.var 5))) .nil)))) .nil) .nil) (.seq (.ifs (.cmp .LtE (.var 9) (.cst (.int 0))) (.seq (.ret (.cst .none)) .nil) .nil) (.seq (.ret (.tup (.cons (.var 4) (.cons (.var 5) (.cons (.var 9) .nil))))) .nil)))))))))
def r_passing (ds : List D) : Res D := run G_passing .sh 10 b_passing ds
def c_passing : Cal := ⟨"passing", 4, [], .sh, r_passing⟩

/-! can_turn -/
abbrev s_can_turn : Stmt := topS 18
def N_can_turn : List Str := ["mill", "contents", "turn", "wheel", "pond", "tail", "fall", "drink"]
def G_can_turn : Rf.Ctx := ⟨[c_at_least, c_fall_of, c_holds], GL, BL, DG⟩
def b_can_turn : S :=
  (.seq (.unp [4, 5, 6, 7] (.sl false (.idx (.idx (.var 0) (.cst (.int 3))) (.var 3)) .non (.cst (.int 4)))) (.seq (.ifs (.or (.not (.call false 0 (.cons (.call false 1 (.cons (.var 0) (.cons (.var 1) (.cons (.var 4) (.cons (.var 5) (.cons (.var 2) .nil)))))) (.cons (.tup (.cons (.var 6) (.cons (.cst (.int 1)) .nil))) .nil)))) (.cmp .Lt (.idx (.var 1) (.var 4)) (.var 7))) (.seq (.ret (.cst (.bool false))) .nil) .nil) (.seq (.ret (.or (.cmp .Eq (.var 5) (.neg (.cst (.int 1)))) (.cmp .LtE (.bin .Add (.idx (.var 1) (.var 5)) (.var 7)) (.call false 2 (.cons (.idx (.idx (.var 0) (.cst (.int 1))) (.var 5)) .nil))))) .nil)))
def r_can_turn (ds : List D) : Res D := run G_can_turn .sh 8 b_can_turn ds
def c_can_turn : Cal := ⟨"can_turn", 4, [], .sh, r_can_turn⟩

/-! gates_done -/
abbrev s_gates_done : Stmt := topS 20
def N_gates_done : List Str := ["mill", "contents", "turn", "setting", "log", "gate", "found"]
def G_gates_done : Rf.Ctx := ⟨[c_passing, c_shifted], GL, BL, DG⟩
def b_gates_done : S :=
  (.seq (.asg 4 (.lst .nil)) (.seq (.fr (.one 5) (.irng (.cons (.blt .len (.cons (.idx (.var 0) (.cst (.int 2))) .nil)) .nil)) (.seq (.ifs (.idx (.var 3) (.var 5)) (.seq (.asg 6 (.call false 0 (.cons (.var 0) (.cons (.var 1) (.cons (.var 2) (.cons (.var 5) .nil)))))) (.seq (.ifs (.cmp .IsNot (.var 6) (.cst .none)) (.seq (.asg 1 (.call false 1 (.cons (.var 1) (.cons (.idx (.var 6) (.cst (.int 0))) (.cons (.idx (.var 6) (.cst (.int 1))) (.cons (.idx (.var 6) (.cst (.int 2))) .nil)))))) (.seq (.app 4 (.bin .Add (.tup (.cons (.cst (.str "gate")) (.cons (.var 5) .nil))) (.var 6))) .nil)) .nil) .nil)) .nil) .nil)) (.seq (.ret (.tup (.cons (.var 1) (.cons (.var 4) .nil)))) .nil)))
def r_gates_done (ds : List D) : Res D := run G_gates_done (.tup 1) 7 b_gates_done ds
def c_gates_done : Cal := ⟨"gates_done", 4, [], (.tup 1), r_gates_done⟩

/-! turned -/
abbrev s_turned : Stmt := topS 21
def N_turned : List Str := ["mill", "contents", "turn", "setting", "running", "log", "ground", "wheel", "pond", "tail", "fall", "drink", "grind"]
def G_turned : Rf.Ctx := ⟨[c_gates_done, c_can_turn, c_shifted], GL, BL, DG⟩
def b_turned : S :=
  (.seq (.unpC [1, 5] 0 (.cons (.var 0) (.cons (.var 1) (.cons (.var 2) (.cons (.var 3) .nil))))) (.seq (.asg 6 (.cst (.int 0))) (.seq (.fr (.one 7) (.irng (.cons (.blt .len (.cons (.idx (.var 0) (.cst (.int 3))) .nil)) .nil)) (.seq (.ifs (.and (.idx (.var 4) (.var 7)) (.call false 1 (.cons (.var 0) (.cons (.var 1) (.cons (.var 2) (.cons (.var 7) .nil)))))) (.seq (.unp [8, 9, 10, 11, 12] (.idx (.idx (.var 0) (.cst (.int 3))) (.var 7))) (.seq (.asg 1 (.call false 2 (.cons (.var 1) (.cons (.var 8) (.cons (.var 9) (.cons (.var 11) .nil)))))) (.seq (.app 5 (.tup (.cons (.cst (.str "wheel")) (.cons (.var 7) .nil)))) (.seq (.asg 6 (.bin .Add (.var 6) (.var 12))) .nil)))) .nil) .nil)) (.seq (.frz 5) (.seq (.ret (.tup (.cons (.var 1) (.cons (.var 5) (.cons (.var 6) .nil))))) .nil)))))
def r_turned (ds : List D) : Res D := run G_turned .sh 13 b_turned ds
def c_turned : Cal := ⟨"turned", 5, [], .sh, r_turned⟩

/-! next_layer -/
abbrev s_next_layer : Stmt := topS 25
def N_next_layer : List Str := ["mill", "turn", "layer", "settings", "runnings", "found", "contents", "setting", "ground", "moves", "other", "running", "behind", "log", "more", "worth", "pair"]
def G_next_layer : Rf.Ctx := ⟨[c_choices, c_turned, c_gates_moved], GL, BL, DG⟩
def b_next_layer : S :=
  (.seq (.asg 3 (.call false 0 (.cons (.blt .len (.cons (.idx (.var 0) (.cst (.int 2))) .nil)) .nil))) (.seq (.asg 4 (.call false 0 (.cons (.blt .len (.cons (.idx (.var 0) (.cst (.int 3))) .nil)) .nil))) (.seq (.dnew 5) (.seq (.fr (.tup [6, 7, 8, 9]) (.iseq (.var 2)) (.seq (.fr (.one 10) (.iseq (.var 3)) (.seq (.fr (.one 11) (.iseq (.var 4)) (.seq (.unp [12, 13, 14] (.call false 1 (.cons (.var 0) (.cons (.var 6) (.cons (.var 1) (.cons (.var 10) (.cons (.var 11) .nil))))))) (.seq (.asg 15 (.tup (.cons (.bin .Add (.var 8) (.var 14)) (.cons (.neg (.bin .Add (.var 9) (.call false 2 (.cons (.var 7) (.cons (.var 10) .nil))))) .nil)))) (.seq (.ifs (.or (.din true 5 (.tup (.cons (.var 12) (.cons (.var 10) .nil)))) (.cmp .Gt (.var 15) (.dget 5 (.tup (.cons (.var 12) (.cons (.var 10) .nil)))))) (.seq (.dput 5 (.tup (.cons (.var 12) (.cons (.var 10) .nil))) (.var 15)) .nil) .nil) .nil)))) .nil)) .nil)) (.seq (.ret (.comp (.tup (.cons (.idx (.var 16) (.cst (.int 0))) (.cons (.idx (.var 16) (.cst (.int 1))) (.cons (.idx (.dget 5 (.var 16)) (.cst (.int 0))) (.cons (.neg (.idx (.dget 5 (.var 16)) (.cst (.int 1)))) .nil))))) (.one 16) (.iseq (.blt .sorted (.cons (.dkeys 5) .nil))) [16])) .nil)))))
def r_next_layer (ds : List D) : Res D := run G_next_layer .own 17 b_next_layer ds
def c_next_layer : Cal := ⟨"next_layer", 3, [], .own, r_next_layer⟩

/-! law -/
abbrev s_law : Stmt := topS 48
def N_law : List Str := ["_law_script", "_law_mill", "_law_turn", "_law_layer_here", "_law_due", "_law_handed", "_law_found", "_law_state"]
def G_law : Rf.Ctx := ⟨[c_l_a_mill, c_l_cell_at, c_l_pick, c_l_a_layer, c_l_layer, c_next_layer, c_l_is_state], GL, BL, DG⟩
def b_law : S :=
  (.seq (.asg 1 (.call false 0 (.cons (.call false 1 (.cons (.var 0) (.cons (.cst (.int 0)) .nil))) (.cons (.cst (.int 3)) (.cons (.cst (.int 3)) .nil))))) (.seq (.asg 2 (.bin .Add (.call false 2 (.cons (.call false 1 (.cons (.var 0) (.cons (.cst (.int 1)) .nil))) (.cons (.cst (.int 143)) (.cons (.cst (.int 51)) .nil)))) (.idx (.lst (.cons (.cst (.int 0)) (.cons (.bin .Pow (.cst (.int 10)) (.cst (.int 11))) .nil))) (.bin .FloorDiv (.call false 2 (.cons (.call false 1 (.cons (.var 0) (.cons (.cst (.int 1)) .nil))) (.cons (.cst (.int 144)) (.cons (.cst (.int 6)) .nil)))) (.cst (.int 5)))))) (.seq (.asg 3 (.call true 3 (.cons (.var 1) (.cons (.var 0) .nil)))) (.seq (.frz 3) (.seq (.asg 4 (.call true 4 (.cons (.var 1) (.cons (.var 2) (.cons (.var 3) .nil))))) (.seq (.asg 5 (.blt .list (.cons (.var 3) .nil))) (.seq (.frz 5) (.seq (.asg 6 (.call true 5 (.cons (.var 1) (.cons (.var 2) (.cons (.var 5) .nil))))) (.seq (.ifs (.or (.not (.isi .list (.var 6))) (.or (.cmp .NotEq (.var 6) (.var 4)) (.cmp .NotEq (.var 5) (.var 3)))) (.seq (.ret (.cst (.bool false))) .nil) .nil) (.seq (.ifs (.cmp .NotEq (.compC (.var 7) (.one 7) (.iseq (.var 6)) (.not (.call false 6 (.cons (.var 1) (.cons (.var 7) .nil)))) [7]) (.lst .nil)) (.seq (.ret (.cst (.bool false))) .nil) .nil) (.seq (.clr 6) (.seq (.ret (.and (.cmp .Eq (.var 5) (.var 3)) (.cmp .Eq (.call true 5 (.cons (.var 1) (.cons (.var 2) (.cons (.blt .list (.cons (.var 3) .nil)) .nil)))) (.var 4)))) .nil))))))))))))
def r_law (ds : List D) : Res D := run G_law .sh 8 b_law ds
def c_law : Cal := ⟨"law", 1, [], .sh, r_law⟩
theorem k_sea_at_0 (ds : List D) : callD G_sea_at 0 ds = run G_ring_at .sh 4 b_ring_at (ds ++ []) := rfl
theorem k_fraction_0 (ds : List D) : callD G_fraction 0 ds = run G_common .sh 2 b_common (ds ++ []) := rfl
theorem k_l_unlike_side_0 (ds : List D) : callD G_l_unlike_side 0 ds = run G_l_pick .sh 5 b_l_pick (ds ++ []) := rfl
theorem k_l_some_ponds_0 (ds : List D) : callD G_l_some_ponds 0 ds = run G_l_pick .sh 5 b_l_pick (ds ++ []) := rfl
theorem k_l_some_contents_0 (ds : List D) : callD G_l_some_contents 0 ds = run G_l_pick .sh 5 b_l_pick (ds ++ []) := rfl
theorem k_l_truths_0 (ds : List D) : callD G_l_truths 0 ds = run G_l_pick .sh 5 b_l_pick (ds ++ []) := rfl
theorem k_l_passed_0 (ds : List D) : callD G_l_passed 0 ds = run G_l_top .sh 8 b_l_top (ds ++ []) := rfl
theorem k_l_passed_1 (ds : List D) : callD G_l_passed 1 ds = run G_l_no_less .sh 2 b_l_no_less (ds ++ []) := rfl
theorem k_l_passed_2 (ds : List D) : callD G_l_passed 2 ds = run G_l_shifted .sh 5 b_l_shifted (ds ++ []) := rfl
theorem k_l_passed_3 (ds : List D) : callD G_l_passed 3 ds = run G_l_fits .sh 6 b_l_fits (ds ++ []) := rfl
theorem k_l_can_turn_0 (ds : List D) : callD G_l_can_turn 0 ds = run G_l_top .sh 8 b_l_top (ds ++ []) := rfl
theorem k_l_can_turn_1 (ds : List D) : callD G_l_can_turn 1 ds = run G_l_no_less .sh 2 b_l_no_less (ds ++ []) := rfl
theorem k_l_can_turn_2 (ds : List D) : callD G_l_can_turn 2 ds = run G_l_fits .sh 6 b_l_fits (ds ++ []) := rfl
theorem k_l_can_turn_3 (ds : List D) : callD G_l_can_turn 3 ds = run G_l_shifted .sh 5 b_l_shifted (ds ++ []) := rfl
theorem k_l_is_state_0 (ds : List D) : callD G_l_is_state 0 ds = run G_l_is_truths .sh 3 b_l_is_truths (ds ++ []) := rfl
theorem k_l_is_state_1 (ds : List D) : callD G_l_is_state 1 ds = run G_l_whole .sh 1 b_l_whole (ds ++ []) := rfl
theorem k_level_0 (ds : List D) : callD G_level 0 ds = run G_fraction .sh 3 b_fraction (ds ++ []) := rfl
theorem k_l_a_mill_0 (ds : List D) : callD G_l_a_mill 0 ds = run G_l_pick .sh 5 b_l_pick (ds ++ []) := rfl
theorem k_l_a_mill_1 (ds : List D) : callD G_l_a_mill 1 ds = run G_l_unlike_side .sh 5 b_l_unlike_side (ds ++ []) := rfl
theorem k_l_a_mill_2 (ds : List D) : callD G_l_a_mill 2 ds = run G_l_some_ponds .sh 9 b_l_some_ponds (ds ++ []) := rfl
theorem k_l_turned_0 (ds : List D) : callD G_l_turned 0 ds = run G_l_passed .sh 13 b_l_passed (ds ++ []) := rfl
theorem k_l_turned_1 (ds : List D) : callD G_l_turned 1 ds = run G_l_shifted .sh 5 b_l_shifted (ds ++ []) := rfl
theorem k_l_turned_2 (ds : List D) : callD G_l_turned 2 ds = run G_l_can_turn .sh 10 b_l_can_turn (ds ++ []) := rfl
theorem k_l_a_layer_0 (ds : List D) : callD G_l_a_layer 0 ds = run G_l_pick .sh 5 b_l_pick (ds ++ []) := rfl
theorem k_l_a_layer_1 (ds : List D) : callD G_l_a_layer 1 ds = run G_l_cell_at .sh 2 b_l_cell_at (ds ++ []) := rfl
theorem k_l_a_layer_2 (ds : List D) : callD G_l_a_layer 2 ds = run G_l_some_contents .sh 5 b_l_some_contents (ds ++ []) := rfl
theorem k_l_a_layer_3 (ds : List D) : callD G_l_a_layer 3 ds = run G_l_truths .sh 4 b_l_truths (ds ++ []) := rfl
theorem k_side_level_0 (ds : List D) : callD G_side_level 0 ds = run G_sea_at .sh 5 b_sea_at (ds ++ []) := rfl
theorem k_side_level_1 (ds : List D) : callD G_side_level 1 ds = run G_level .sh 2 b_level (ds ++ []) := rfl
theorem k_l_layer_0 (ds : List D) : callD G_l_layer 0 ds = run G_l_ways .sh 5 b_l_ways (ds ++ []) := rfl
theorem k_l_layer_1 (ds : List D) : callD G_l_layer 1 ds = run G_l_turned .sh 10 b_l_turned (ds ++ []) := rfl
theorem k_l_layer_2 (ds : List D) : callD G_l_layer 2 ds = run G_l_unlike .sh 3 b_l_unlike (ds ++ []) := rfl
theorem k_fall_of_0 (ds : List D) : callD G_fall_of 0 ds = run G_side_level .sh 4 b_side_level (ds ++ []) := rfl
theorem k_fall_of_1 (ds : List D) : callD G_fall_of 1 ds = run G_fraction .sh 3 b_fraction (ds ++ []) := rfl
theorem k_until_even_0 (ds : List D) : callD G_until_even 0 ds = run G_taken_below .sh 3 b_taken_below (ds ++ []) := rfl
theorem k_until_even_1 (ds : List D) : callD G_until_even 1 ds = run G_side_level .sh 4 b_side_level (ds ++ []) := rfl
theorem k_until_even_2 (ds : List D) : callD G_until_even 2 ds = run G_given_above .sh 3 b_given_above (ds ++ []) := rfl
theorem k_passing_0 (ds : List D) : callD G_passing 0 ds = run G_fall_of .sh 7 b_fall_of (ds ++ []) := rfl
theorem k_passing_1 (ds : List D) : callD G_passing 1 ds = run G_side_level .sh 4 b_side_level (ds ++ []) := rfl
theorem k_passing_2 (ds : List D) : callD G_passing 2 ds = run G_at_least .sh 2 b_at_least (ds ++ []) := rfl
theorem k_passing_3 (ds : List D) : callD G_passing 3 ds = run G_until_even .sh 9 b_until_even (ds ++ []) := rfl
theorem k_passing_4 (ds : List D) : callD G_passing 4 ds = run G_given_above .sh 3 b_given_above (ds ++ []) := rfl
theorem k_passing_5 (ds : List D) : callD G_passing 5 ds = run G_holds .sh 1 b_holds (ds ++ []) := rfl
theorem k_can_turn_0 (ds : List D) : callD G_can_turn 0 ds = run G_at_least .sh 2 b_at_least (ds ++ []) := rfl
theorem k_can_turn_1 (ds : List D) : callD G_can_turn 1 ds = run G_fall_of .sh 7 b_fall_of (ds ++ []) := rfl
theorem k_can_turn_2 (ds : List D) : callD G_can_turn 2 ds = run G_holds .sh 1 b_holds (ds ++ []) := rfl
theorem k_gates_done_0 (ds : List D) : callD G_gates_done 0 ds = run G_passing .sh 10 b_passing (ds ++ []) := rfl
theorem k_gates_done_1 (ds : List D) : callD G_gates_done 1 ds = run G_shifted .sh 5 b_shifted (ds ++ []) := rfl
theorem k_turned_0 (ds : List D) : callD G_turned 0 ds = run G_gates_done (.tup 1) 7 b_gates_done (ds ++ []) := rfl
theorem k_turned_1 (ds : List D) : callD G_turned 1 ds = run G_can_turn .sh 8 b_can_turn (ds ++ []) := rfl
theorem k_turned_2 (ds : List D) : callD G_turned 2 ds = run G_shifted .sh 5 b_shifted (ds ++ []) := rfl
theorem k_next_layer_0 (ds : List D) : callD G_next_layer 0 ds = run G_choices .sh 5 b_choices (ds ++ []) := rfl
theorem k_next_layer_1 (ds : List D) : callD G_next_layer 1 ds = run G_turned .sh 13 b_turned (ds ++ []) := rfl
theorem k_next_layer_2 (ds : List D) : callD G_next_layer 2 ds = run G_gates_moved .sh 3 b_gates_moved (ds ++ []) := rfl
theorem k_law_0 (ds : List D) : callD G_law 0 ds = run G_l_a_mill .sh 19 b_l_a_mill (ds ++ []) := rfl
theorem k_law_1 (ds : List D) : callD G_law 1 ds = run G_l_cell_at .sh 2 b_l_cell_at (ds ++ []) := rfl
theorem k_law_2 (ds : List D) : callD G_law 2 ds = run G_l_pick .sh 5 b_l_pick (ds ++ []) := rfl
theorem k_law_3 (ds : List D) : callD G_law 3 ds = run G_l_a_layer .own 6 b_l_a_layer (ds ++ []) := rfl
theorem k_law_4 (ds : List D) : callD G_law 4 ds = run G_l_layer .own 15 b_l_layer (ds ++ []) := rfl
theorem k_law_5 (ds : List D) : callD G_law 5 ds = run G_next_layer .own 17 b_next_layer (ds ++ []) := rfl
theorem k_law_6 (ds : List D) : callD G_law 6 ds = run G_l_is_state .sh 3 b_l_is_state (ds ++ []) := rfl

theorem sc_ring_at : FnScope N_ring_at ["ring", "turn"] (defScope s_ring_at) := ⟨rfl, rfl, rfl, by decide +kernel, rfl, by decide +kernel, by decide +kernel⟩
theorem m_ring_at : mB G_ring_at N_ring_at (defScope s_ring_at) b_ring_at (defBody s_ring_at) = true := by decide +kernel
theorem sc_common : FnScope N_common ["one", "other"] (defScope s_common) := ⟨rfl, rfl, rfl, by decide +kernel, rfl, by decide +kernel, by decide +kernel⟩
theorem m_common : mB G_common N_common (defScope s_common) b_common (defBody s_common) = true := by decide +kernel
theorem sc_at_least : FnScope N_at_least ["one", "other"] (defScope s_at_least) := ⟨rfl, rfl, rfl, by decide +kernel, rfl, by decide +kernel, by decide +kernel⟩
theorem m_at_least : mB G_at_least N_at_least (defScope s_at_least) b_at_least (defBody s_at_least) = true := by decide +kernel
theorem sc_holds : FnScope N_holds ["pond"] (defScope s_holds) := ⟨rfl, rfl, rfl, by decide +kernel, rfl, by decide +kernel, by decide +kernel⟩
theorem m_holds : mB G_holds N_holds (defScope s_holds) b_holds (defBody s_holds) = true := by decide +kernel
theorem sc_shifted : FnScope N_shifted ["contents", "one", "other", "buckets"] (defScope s_shifted) := ⟨rfl, rfl, rfl, by decide +kernel, rfl, by decide +kernel, by decide +kernel⟩
theorem m_shifted : mB G_shifted N_shifted (defScope s_shifted) b_shifted (defBody s_shifted) = true := by decide +kernel
theorem sc_given_above : FnScope N_given_above ["pond", "content", "height"] (defScope s_given_above) := ⟨rfl, rfl, rfl, by decide +kernel, rfl, by decide +kernel, by decide +kernel⟩
theorem m_given_above : mB G_given_above N_given_above (defScope s_given_above) b_given_above (defBody s_given_above) = true := by decide +kernel
theorem sc_taken_below : FnScope N_taken_below ["pond", "content", "height"] (defScope s_taken_below) := ⟨rfl, rfl, rfl, by decide +kernel, rfl, by decide +kernel, by decide +kernel⟩
theorem m_taken_below : mB G_taken_below N_taken_below (defScope s_taken_below) b_taken_below (defBody s_taken_below) = true := by decide +kernel
theorem sc_choices : FnScope N_choices ["many"] (defScope s_choices) := ⟨rfl, rfl, rfl, by decide +kernel, rfl, by decide +kernel, by decide +kernel⟩
theorem m_choices : mB G_choices N_choices (defScope s_choices) b_choices (defBody s_choices) = true := by decide +kernel
theorem sc_gates_moved : FnScope N_gates_moved ["one", "other"] (defScope s_gates_moved) := ⟨rfl, rfl, rfl, by decide +kernel, rfl, by decide +kernel, by decide +kernel⟩
theorem m_gates_moved : mB G_gates_moved N_gates_moved (defScope s_gates_moved) b_gates_moved (defBody s_gates_moved) = true := by decide +kernel
theorem sc_l_cell_at : FnScope N_l_cell_at ["_law_script", "_law_k"] (defScope s_l_cell_at) := ⟨rfl, rfl, rfl, by decide +kernel, rfl, by decide +kernel, by decide +kernel⟩
theorem m_l_cell_at : mB G_l_cell_at N_l_cell_at (defScope s_l_cell_at) b_l_cell_at (defBody s_l_cell_at) = true := by decide +kernel
theorem sc_l_pick : FnScope N_l_pick ["_law_number", "_law_turn", "_law_many"] (defScope s_l_pick) := ⟨rfl, rfl, rfl, by decide +kernel, rfl, by decide +kernel, by decide +kernel⟩
theorem m_l_pick : mB G_l_pick N_l_pick (defScope s_l_pick) b_l_pick (defBody s_l_pick) = true := by decide +kernel
theorem sc_l_top : FnScope N_l_top ["_law_mill", "_law_contents", "_law_side", "_law_turn"] (defScope s_l_top) := ⟨rfl, rfl, rfl, by decide +kernel, rfl, by decide +kernel, by decide +kernel⟩
theorem m_l_top : mB G_l_top N_l_top (defScope s_l_top) b_l_top (defBody s_l_top) = true := by decide +kernel
theorem sc_l_no_less : FnScope N_l_no_less ["_law_one", "_law_other"] (defScope s_l_no_less) := ⟨rfl, rfl, rfl, by decide +kernel, rfl, by decide +kernel, by decide +kernel⟩
theorem m_l_no_less : mB G_l_no_less N_l_no_less (defScope s_l_no_less) b_l_no_less (defBody s_l_no_less) = true := by decide +kernel
theorem sc_l_shifted : FnScope N_l_shifted ["_law_contents", "_law_giving", "_law_taking", "_law_many"] (defScope s_l_shifted) := ⟨rfl, rfl, rfl, by decide +kernel, rfl, by decide +kernel, by decide +kernel⟩
theorem m_l_shifted : mB G_l_shifted N_l_shifted (defScope s_l_shifted) b_l_shifted (defBody s_l_shifted) = true := by decide +kernel
theorem sc_l_fits : FnScope N_l_fits ["_law_mill", "_law_behind", "_law_turn", "_law_giving", "_law_taking"] (defScope s_l_fits) := ⟨rfl, rfl, rfl, by decide +kernel, rfl, by decide +kernel, by decide +kernel⟩
theorem m_l_fits : mB G_l_fits N_l_fits (defScope s_l_fits) b_l_fits (defBody s_l_fits) = true := by decide +kernel
theorem sc_l_ways : FnScope N_l_ways ["_law_many"] (defScope s_l_ways) := ⟨rfl, rfl, rfl, by decide +kernel, rfl, by decide +kernel, by decide +kernel⟩
theorem m_l_ways : mB G_l_ways N_l_ways (defScope s_l_ways) b_l_ways (defBody s_l_ways) = true := by decide +kernel
theorem sc_l_unlike : FnScope N_l_unlike ["_law_one", "_law_other"] (defScope s_l_unlike) := ⟨rfl, rfl, rfl, by decide +kernel, rfl, by decide +kernel, by decide +kernel⟩
theorem m_l_unlike : mB G_l_unlike N_l_unlike (defScope s_l_unlike) b_l_unlike (defBody s_l_unlike) = true := by decide +kernel
theorem sc_l_whole : FnScope N_l_whole ["_law_one"] (defScope s_l_whole) := ⟨rfl, rfl, rfl, by decide +kernel, rfl, by decide +kernel, by decide +kernel⟩
theorem m_l_whole : mB G_l_whole N_l_whole (defScope s_l_whole) b_l_whole (defBody s_l_whole) = true := by decide +kernel
theorem sc_l_is_truths : FnScope N_l_is_truths ["_law_found", "_law_many"] (defScope s_l_is_truths) := ⟨rfl, rfl, rfl, by decide +kernel, rfl, by decide +kernel, by decide +kernel⟩
theorem m_l_is_truths : mB G_l_is_truths N_l_is_truths (defScope s_l_is_truths) b_l_is_truths (defBody s_l_is_truths) = true := by decide +kernel
theorem sc_sea_at : FnScope N_sea_at ["sea", "turn"] (defScope s_sea_at) := ⟨rfl, rfl, rfl, by decide +kernel, rfl, by decide +kernel, by decide +kernel⟩
theorem m_sea_at : mB G_sea_at N_sea_at (defScope s_sea_at) b_sea_at (defBody s_sea_at) = true := by decide +kernel
theorem sc_fraction : FnScope N_fraction ["top", "under"] (defScope s_fraction) := ⟨rfl, rfl, rfl, by decide +kernel, rfl, by decide +kernel, by decide +kernel⟩
theorem m_fraction : mB G_fraction N_fraction (defScope s_fraction) b_fraction (defBody s_fraction) = true := by decide +kernel
theorem sc_l_unlike_side : FnScope N_l_unlike_side ["_law_cell", "_law_k", "_law_many", "_law_one"] (defScope s_l_unlike_side) := ⟨rfl, rfl, rfl, by decide +kernel, rfl, by decide +kernel, by decide +kernel⟩
theorem m_l_unlike_side : mB G_l_unlike_side N_l_unlike_side (defScope s_l_unlike_side) b_l_unlike_side (defBody s_l_unlike_side) = true := by decide +kernel
theorem sc_l_some_ponds : FnScope N_l_some_ponds ["_law_cell", "_law_many"] (defScope s_l_some_ponds) := ⟨rfl, rfl, rfl, by decide +kernel, rfl, by decide +kernel, by decide +kernel⟩
theorem m_l_some_ponds : mB G_l_some_ponds N_l_some_ponds (defScope s_l_some_ponds) b_l_some_ponds (defBody s_l_some_ponds) = true := by decide +kernel
theorem sc_l_some_contents : FnScope N_l_some_contents ["_law_mill", "_law_cell"] (defScope s_l_some_contents) := ⟨rfl, rfl, rfl, by decide +kernel, rfl, by decide +kernel, by decide +kernel⟩
theorem m_l_some_contents : mB G_l_some_contents N_l_some_contents (defScope s_l_some_contents) b_l_some_contents (defBody s_l_some_contents) = true := by decide +kernel
theorem sc_l_truths : FnScope N_l_truths ["_law_many", "_law_cell", "_law_k"] (defScope s_l_truths) := ⟨rfl, rfl, rfl, by decide +kernel, rfl, by decide +kernel, by decide +kernel⟩
theorem m_l_truths : mB G_l_truths N_l_truths (defScope s_l_truths) b_l_truths (defBody s_l_truths) = true := by decide +kernel
theorem sc_l_passed : FnScope N_l_passed ["_law_mill", "_law_contents", "_law_turn", "_law_gate"] (defScope s_l_passed) := ⟨rfl, rfl, rfl, by decide +kernel, rfl, by decide +kernel, by decide +kernel⟩
theorem m_l_passed : mB G_l_passed N_l_passed (defScope s_l_passed) b_l_passed (defBody s_l_passed) = true := by decide +kernel
theorem sc_l_can_turn : FnScope N_l_can_turn ["_law_mill", "_law_contents", "_law_turn", "_law_wheel"] (defScope s_l_can_turn) := ⟨rfl, rfl, rfl, by decide +kernel, rfl, by decide +kernel, by decide +kernel⟩
theorem m_l_can_turn : mB G_l_can_turn N_l_can_turn (defScope s_l_can_turn) b_l_can_turn (defBody s_l_can_turn) = true := by decide +kernel
theorem sc_l_is_state : FnScope N_l_is_state ["_law_mill", "_law_state"] (defScope s_l_is_state) := ⟨rfl, rfl, rfl, by decide +kernel, rfl, by decide +kernel, by decide +kernel⟩
theorem m_l_is_state : mB G_l_is_state N_l_is_state (defScope s_l_is_state) b_l_is_state (defBody s_l_is_state) = true := by decide +kernel
theorem sc_level : FnScope N_level ["pond", "content"] (defScope s_level) := ⟨rfl, rfl, rfl, by decide +kernel, rfl, by decide +kernel, by decide +kernel⟩
theorem m_level : mB G_level N_level (defScope s_level) b_level (defBody s_level) = true := by decide +kernel
theorem sc_l_a_mill : FnScope N_l_a_mill ["_law_cell", "_law_gates", "_law_wheels"] (defScope s_l_a_mill) := ⟨rfl, rfl, rfl, by decide +kernel, rfl, by decide +kernel, by decide +kernel⟩
theorem m_l_a_mill : mB G_l_a_mill N_l_a_mill (defScope s_l_a_mill) b_l_a_mill (defBody s_l_a_mill) = true := by decide +kernel
theorem sc_l_turned : FnScope N_l_turned ["_law_mill", "_law_contents", "_law_turn", "_law_setting", "_law_running"] (defScope s_l_turned) := ⟨rfl, rfl, rfl, by decide +kernel, rfl, by decide +kernel, by decide +kernel⟩
theorem m_l_turned : mB G_l_turned N_l_turned (defScope s_l_turned) b_l_turned (defBody s_l_turned) = true := by decide +kernel
theorem sc_l_a_layer : FnScope N_l_a_layer ["_law_mill", "_law_script"] (defScope s_l_a_layer) := ⟨rfl, rfl, rfl, by decide +kernel, rfl, by decide +kernel, by decide +kernel⟩
theorem m_l_a_layer : mB G_l_a_layer N_l_a_layer (defScope s_l_a_layer) b_l_a_layer (defBody s_l_a_layer) = true := by decide +kernel
theorem sc_side_level : FnScope N_side_level ["mill", "contents", "side", "turn"] (defScope s_side_level) := ⟨rfl, rfl, rfl, by decide +kernel, rfl, by decide +kernel, by decide +kernel⟩
theorem m_side_level : mB G_side_level N_side_level (defScope s_side_level) b_side_level (defBody s_side_level) = true := by decide +kernel
theorem sc_l_layer : FnScope N_l_layer ["_law_mill", "_law_turn", "_law_layer_here"] (defScope s_l_layer) := ⟨rfl, rfl, rfl, by decide +kernel, rfl, by decide +kernel, by decide +kernel⟩
theorem m_l_layer : mB G_l_layer N_l_layer (defScope s_l_layer) b_l_layer (defBody s_l_layer) = true := by decide +kernel
theorem sc_fall_of : FnScope N_fall_of ["mill", "contents", "one", "other", "turn"] (defScope s_fall_of) := ⟨rfl, rfl, rfl, by decide +kernel, rfl, by decide +kernel, by decide +kernel⟩
theorem m_fall_of : mB G_fall_of N_fall_of (defScope s_fall_of) b_fall_of (defBody s_fall_of) = true := by decide +kernel
theorem sc_until_even : FnScope N_until_even ["mill", "contents", "giving", "taking", "turn"] (defScope s_until_even) := ⟨rfl, rfl, rfl, by decide +kernel, rfl, by decide +kernel, by decide +kernel⟩
theorem m_until_even : mB G_until_even N_until_even (defScope s_until_even) b_until_even (defBody s_until_even) = true := by decide +kernel
theorem sc_passing : FnScope N_passing ["mill", "contents", "turn", "gate"] (defScope s_passing) := ⟨rfl, rfl, rfl, by decide +kernel, rfl, by decide +kernel, by decide +kernel⟩
theorem m_passing : mB G_passing N_passing (defScope s_passing) b_passing (defBody s_passing) = true := by decide +kernel
theorem sc_can_turn : FnScope N_can_turn ["mill", "contents", "turn", "wheel"] (defScope s_can_turn) := ⟨rfl, rfl, rfl, by decide +kernel, rfl, by decide +kernel, by decide +kernel⟩
theorem m_can_turn : mB G_can_turn N_can_turn (defScope s_can_turn) b_can_turn (defBody s_can_turn) = true := by decide +kernel
theorem sc_gates_done : FnScope N_gates_done ["mill", "contents", "turn", "setting"] (defScope s_gates_done) := ⟨rfl, rfl, rfl, by decide +kernel, rfl, by decide +kernel, by decide +kernel⟩
theorem m_gates_done : mB G_gates_done N_gates_done (defScope s_gates_done) b_gates_done (defBody s_gates_done) = true := by decide +kernel
theorem sc_turned : FnScope N_turned ["mill", "contents", "turn", "setting", "running"] (defScope s_turned) := ⟨rfl, rfl, rfl, by decide +kernel, rfl, by decide +kernel, by decide +kernel⟩
theorem m_turned : mB G_turned N_turned (defScope s_turned) b_turned (defBody s_turned) = true := by decide +kernel
theorem sc_next_layer : FnScope N_next_layer ["mill", "turn", "layer"] (defScope s_next_layer) := ⟨rfl, rfl, rfl, by decide +kernel, rfl, by decide +kernel, by decide +kernel⟩
theorem m_next_layer : mB G_next_layer N_next_layer (defScope s_next_layer) b_next_layer (defBody s_next_layer) = true := by decide +kernel
theorem sc_law : FnScope N_law ["_law_script"] (defScope s_law) := ⟨rfl, rfl, rfl, by decide +kernel, rfl, by decide +kernel, by decide +kernel⟩
theorem m_law : mB G_law N_law (defScope s_law) b_law (defBody s_law) = true := by decide +kernel
end T60

namespace T60
open PySem L2 Rf
def E0 : Ph := ⟨G_ring_at, G_sea_at, G_common, G_fraction, G_level, G_side_level, G_fall_of, G_at_least⟩
theorem E0ok : E0.Ok := ⟨k_sea_at_0, k_fraction_0, k_level_0, k_side_level_0, k_side_level_1, k_fall_of_0, k_fall_of_1⟩
def F0 : Pa := ⟨G_given_above, G_taken_below, G_until_even, G_passing, G_holds⟩
theorem F0ok : F0.Ok E0 := ⟨k_until_even_0, k_until_even_1, k_until_even_2, k_passing_0, k_passing_1, k_passing_2, k_passing_3, k_passing_4, k_passing_5⟩
def W0 : Wh := ⟨G_can_turn, G_holds⟩
theorem W0ok : W0.Ok E0 := ⟨k_can_turn_0, k_can_turn_1, k_can_turn_2⟩
theorem turned_ok {m : Mill} {cs : List Int} {t : Int} {st rn : List Bool} (h : m.Ok) (hc : COk m cs) (hst : st.length = m.gates.length) (hrn : rn.length = m.wheels.length) :
    run G_turned .sh 13 b_turned [m.d, .tuple (cs.map .int), .int t, .tuple (st.map .bool), .tuple (rn.map .bool)] = .ok (doneD (turnO m cs t st rn)) :=
  turned_spec true G_turned h hc hst hrn rfl
    ((k_turned_0 _).trans (gates_spec G_gates_done h hc hst (fun cs hc i hi => (k_gates_done_0 _).trans (passing_spec (F := F0) E0ok F0ok h hc hi)) (fun cs a b n hc ha hb hne => shD k_gates_done_1 hc ha hb hne)))
    (fun cs hc i hi => (k_turned_1 _).trans (can_turn_spec (G := W0) E0ok W0ok h hc (h.wheels _ (nthA_mem hi)) (by
      have iw := idxAT (g := wheelD) (l := m.wheels) (q := (i : Int)) (by omega) (by omega)
      rwa [Int.toNat_natCast] at iw)))
    (fun cs a b n hc ha hb hne => shD k_turned_2 hc ha hb hne)
theorem next_ok {m : Mill} {t : Int} {L : List LSt} (h : m.Ok) (hL : ∀ x ∈ L, StOk m x) (hl : L.length ≤ 200000) :
    run G_next_layer .own 17 b_next_layer [m.d, .int t, .list (L.map stD)] = .ok (.list ((layO m t L).map stD)) :=
  next_spec G_next_layer h hL hl (fun n hn => (k_next_layer_0 _).trans (ways_spec G_choices n hn)) (fun cs st rn hc h1 h2 => (k_next_layer_1 _).trans (turned_ok h hc h1 h2)) (fun a b h1 h2 => (k_next_layer_2 _).trans (unlike_specN G_gates_moved h1 h2))
theorem lturned_ok {m : Mill} {cs : List Int} {t : Int} {st rn : List Bool} (h : m.Ok) (hc : COk m cs) (hst : st.length = m.gates.length) (hrn : rn.length = m.wheels.length) :
    run G_l_turned .sh 10 b_l_turned [m.d, .tuple (cs.map .int), .int t, .tuple (st.map .bool), .tuple (rn.map .bool)] = .ok (doneD (turnO m cs t st rn)) :=
  turned_specS G_l_turned h hc hst hrn
    (fun cs hc i hi => (k_l_turned_0 _).trans (passed_specS G_l_passed h hc (h.gates _ (nthA_mem hi))
      (fun cs s hc hs => (k_l_passed_0 _).trans (top_specS G_l_top h hc hs)) (fun x y hx hy => (k_l_passed_1 _).trans (no_lower_spec G_l_no_less hx hy))
      (fun g k B hg hk hne => shD k_l_passed_2 hc hg hk hne) (fun b g k hb hg hk => (k_l_passed_3 _).trans (fits_specS G_l_fits h hb hg hk))))
    (fun cs a b n hc ha hb hne => shD k_l_turned_1 hc ha hb hne)
    (fun cs hc i hi => (k_l_turned_2 _).trans (can_specS G_l_can_turn h hc (h.wheels _ (nthA_mem hi))
      (fun cs s hc hs => (k_l_can_turn_0 _).trans (top_specS G_l_top h hc hs)) (fun x y hx hy => (k_l_can_turn_1 _).trans (no_lower_spec G_l_no_less hx hy))
      (fun b g k hb hg hk => (k_l_can_turn_2 _).trans (fits_specS G_l_fits h hb hg hk)) (fun g k B hg hk hne => shD k_l_can_turn_3 hc hg hk hne)))
theorem layer_ok {m : Mill} {t : Int} {L : List LSt} (h : m.Ok) (hL : ∀ x ∈ L, StOk m x) (hl : L.length ≤ 200000) :
    run G_l_layer .own 15 b_l_layer [m.d, .int t, .list (L.map stD)] = .ok (.list ((layO m t L).map stD)) :=
  layer_spec G_l_layer h hL hl (fun n hn => (k_l_layer_0 _).trans (ways_spec G_l_ways n hn)) (fun cs st rn hc h1 h2 => (k_l_layer_1 _).trans (lturned_ok h hc h1 h2)) (fun a b h1 h2 => (k_l_layer_2 _).trans (unlike_specN G_l_unlike h1 h2))
theorem state_ok {m : Mill} {x : LSt} (h : m.Ok) (hx : StOk m x) : run G_l_is_state .sh 3 b_l_is_state [m.d, stD x] = .ok (.bool true) :=
  is_state_spec G_l_is_state h hx (fun st hl => (k_l_is_state_0 _).trans (is_truths_spec G_l_is_truths st hl)) (fun i => (k_l_is_state_1 _).trans (whole_spec G_l_whole i))
theorem cell_ok (ns : List Int) (k : Int) (hk : 0 ≤ k) : run G_l_cell_at .sh 2 b_l_cell_at [.list (ns.map .int), .int k] = .ok (.int (nth ns k.toNat)) := cell_at_spec G_l_cell_at ns k hk
/-- the layer that is handed in -/
theorem a_layer_ok {m : Mill} (h : m.Ok) (ns : List Int) : ∃ L : List LSt, run G_l_a_layer .own 6 b_l_a_layer [m.d, .list (ns.map .int)] = .ok (.list (L.map stD)) ∧ (∀ x ∈ L, StOk m x) ∧ L.length ≤ 5 := by
  obtain ⟨Q, hQ⟩ : ∃ Q : D → Prop, ∀ d, Q d ↔ (∃ L : List LSt, d = .list (L.map stD) ∧ (∀ x ∈ L, StOk m x) ∧ L.length ≤ 5) := ⟨_, fun _ => Iff.rfl⟩
  obtain ⟨d, e, hd⟩ := run_wp (Γ := G_l_a_layer) (fr := .own) (s := b_l_a_layer) (kk := 6) (ds := [m.d, .list (ns.map .int)]) (P := Q) (by
    unfold b_l_a_layer
    have few := h.few
    have pk : PkAt G_l_a_layer 0 := pkS G_l_a_layer G_l_pick 0 k_l_a_layer_0
    have ca : ∀ k : Int, 0 ≤ k → callD G_l_a_layer 1 [.list (ns.map .int), .int k] = .ok (.int (nth ns k.toNat)) := fun k hk => (k_l_a_layer_1 _).trans (cell_ok ns k hk)
    obtain ⟨v0, e0, v00, v01⟩ := pk (nth ns 1) 145 5 (by decide) (by decide) (by decide)
    have p30 : powD 10 30 = .ok (.int 1000000000000000000000000000000) := pow_ok (by decide) (by decide) (by decide)
    have c1 := ca 1 (by decide)
    rw [show (1 : Int).toNat = 1 from rfl] at c1
    simp [-List.map_map, List.replicate, exec_for, c1, e0]
    rw [rng1 (sm62_of (by omega) (by omega))]
    simp only [bind_ok, toFl_ok, listF_l]
    obtain ⟨I, hI⟩ : ∃ I : Nat → Sl → Prop, ∀ j ρ, I j ρ ↔ (∃ (l : List LSt) (u3 u4 u5 : Slot), ρ = [.sh m.d, .sh (.list (ns.map .int)), .dic (l.map kvD), u3, u4, u5] ∧ l.length ≤ j ∧ TabOk m l) := ⟨_, fun _ _ => Iff.rfl⟩
    refine wp_rngL I ((hI _ _).mpr ⟨[], _, _, _, rfl, Nat.le_refl _, nil_tab⟩) ?_ ?_
    · intro j ρ hj hr
      obtain ⟨l, u3, u4, u5, rfl, hl, ht⟩ := (hI _ _).mp hr
      have c2 := ca (2 + (j : Int)) (by omega)
      obtain ⟨x, hx⟩ : ∃ x : Int, x = nth ns (2 + (j : Int)).toNat + 48271 * (j : Int) := ⟨_, rfl⟩
      obtain ⟨cs, ec, hc⟩ := cont_specS G_l_some_contents (pkS _ G_l_pick 0 k_l_some_contents_0) h x
      have ec : callD G_l_a_layer 2 [m.d, .int x] = _ := (k_l_a_layer_2 _).trans ec
      obtain ⟨st, es, hs⟩ := truths_specS G_l_truths (pkS _ G_l_pick 0 k_l_truths_0) x 130 m.gates.length (by decide) few.2.1
      have es : callD G_l_a_layer 3 [.int m.gates.length, .int x, .int 130] = _ := (k_l_a_layer_3 _).trans es
      obtain ⟨v1, e1, v10, v11⟩ := pk x 140 21 (by decide) (by decide) (by decide)
      obtain ⟨v2, e2, v20, v21⟩ := pk x 141 8 (by decide) (by decide) (by decide)
      obtain ⟨v3, e3, v30, v31⟩ := pk x 142 10 (by decide) (by decide) (by decide)
      obtain ⟨d0, q0, r, rfl⟩ := idx_all (l := [.int 0, .int 1000000000000000000000000000000]) (q := v2 / 7) (fun d => ∃ r : Int, d = .int r) (by
        intro d hd
        simp at hd
        rcases hd with rfl | rfl <;> exact ⟨_, rfl⟩) (by omega) (by simp; omega)
      have hk : PyData.tuple [.tuple (cs.map .int), .tuple (st.map .bool)] = lkD (cs, st) := rfl
      have hw : PyData.tuple [.int (v1 + r), .int v3] = lvD (v1 + r, v3) := rfl
      have hwT : ∀ g : List D → Res D, tupOf (.ok (lvD (v1 + r, v3))) g = g [.int (v1 + r), .int v3] := fun _ => rfl
      have hlim : decide (l.length < lim) = true := decide_eq_true (by unfold lim; omega)
      simp [-List.map_map, c2, mul_ok_r (n := 48271) (q := (j : Int)) (by omega) (by omega)]
      rw [← hx]
      simp [-List.map_map, mill_gates, ec, es]
      rw [hk]
      simp [-List.map_map, e1, e2, p30, fdiv_ok, q0, e3, hw, hwT, key_ok, dcPut_kv, hlim, Kf_eq]
      refine (hI _ _).mpr ⟨lyPut l (cs, st) (v1 + r, v3), _, _, _, rfl, ?_, ?_⟩
      · unfold lyPut
        split
        · rw [List.length_map]; omega
        · simp; omega
      · refine ⟨?_, fun y hy => ?_⟩
        · cases q : lyGet l (cs, st) with
          | none =>
            have : lyPut l (cs, st) (v1 + r, v3) = lyStep l (cs, st) (v1 + r, v3) := by unfold lyPut lyStep; rw [q]; rfl
            rw [this]
            exact stepK_nd ht.nd _ _
          | some o =>
            unfold NdK
            rw [putK_keys (by rw [q]; rfl)]
            exact ht.nd
        · unfold lyPut at hy
          split at hy
          · obtain ⟨z, hz, rfl⟩ := List.mem_map.mp hy
            have := ht.ok z hz
            unfold StOk at this ⊢
            split <;> exact this
          · rcases List.mem_append.mp hy with hy | hy
            · exact ht.ok y hy
            · rw [List.mem_singleton.mp hy]; exact ⟨hc, hs⟩
    · intro ρ hr
      obtain ⟨l, u3, u4, u5, rfl, hl, ht⟩ := (hI _ _).mp hr
      have hl5 : l.length ≤ 5 := by omega
      have so := sorted_lk (ks := l.map (·.1)) (by rw [List.length_map]; omega)
      simp [-List.map_map, Kf_eq]
      rw [kv_keys, show decide (l.length ≤ lim) = true from decide_eq_true (by unfold lim; omega)]
      simp [-List.map_map, so]
      rw [compD_map (fun k => stD (k, atK l k)) (by unfold sortK; rw [List.length_mergeSort, List.length_map]; omega) fun k hk => by
        have hk : k ∈ l.map (·.1) := List.mem_mergeSort.mp hk
        have dg := dget_at hk
        simp [-List.map_map, lk0, lk1, key_ok, dg, lvd0, lvd1, stD]]
      simp [-List.map_map]
      refine (hQ _).mpr ⟨(sortK (l.map (·.1))).map fun k => (k, atK l k), by rw [List.map_map]; rfl, fun x hx => ?_, by unfold sortK; rw [List.length_map, List.length_mergeSort, List.length_map]; exact hl5⟩
      obtain ⟨k, hk, rfl⟩ := List.mem_map.mp hx
      have hk := List.mem_mergeSort.mp hk
      obtain ⟨y, hy, rfl⟩ := List.mem_map.mp hk
      exact ht.ok y hy)
  obtain ⟨L, rfl, h1, h2⟩ := (hQ d).mp hd
  exact ⟨L, e, h1, h2⟩
theorem plain (ns : List Int) (h : ns.length ≤ 63) : c_law.sem [.list (ns.map .int)] = .ok (.bool true) := by
  rw [show c_law.sem = r_law from rfl, show ∀ x, r_law x = run G_law .sh 8 b_law x from fun _ => rfl]
  refine run_eq ?_
  unfold b_law
  have p11 : powD 10 11 = .ok (.int 100000000000) := pow_ok (by decide) (by decide) (by decide)
  have ca : ∀ k : Int, 0 ≤ k → callD G_law 1 [.list (ns.map .int), .int k] = .ok (.int (nth ns k.toNat)) := fun k hk => (k_law_1 _).trans (cell_ok ns k hk)
  have pk : PkAt G_law 2 := pkS G_law G_l_pick 2 k_law_2
  have c0 := ca 0 (by decide)
  have c1 := ca 1 (by decide)
  rw [show (0 : Int).toNat = 0 from rfl] at c0
  rw [show (1 : Int).toNat = 1 from rfl] at c1
  obtain ⟨m, em, hm⟩ := mill_specS G_l_a_mill G_l_unlike_side G_l_some_ponds (pkS _ G_l_pick 0 k_l_a_mill_0) k_l_a_mill_1 (pkS _ G_l_pick 0 k_l_unlike_side_0) k_l_a_mill_2 (pkS _ G_l_pick 0 k_l_some_ponds_0) (nth ns 0) 3 3 (by decide) (by decide)
  have em : callD G_law 0 [.int (nth ns 0), .int 3, .int 3] = _ := (k_law_0 _).trans em
  have ok := hm.ok
  obtain ⟨v1, e1, v10, v11⟩ := pk (nth ns 1) 143 51 (by decide) (by decide) (by decide)
  obtain ⟨v2, e2, v20, v21⟩ := pk (nth ns 1) 144 6 (by decide) (by decide) (by decide)
  obtain ⟨d0, q0, r, rfl⟩ := idx_all (l := [.int 0, .int 100000000000]) (q := v2 / 5) (fun d => ∃ r : Int, d = .int r) (by
    intro d hd
    simp at hd
    rcases hd with rfl | rfl <;> exact ⟨_, rfl⟩) (by omega) (by simp; omega)
  obtain ⟨L, eL, hL, hLl⟩ := a_layer_ok ok ns
  have eL : callD G_law 3 [m.d, .list (ns.map .int)] = _ := (k_law_3 _).trans eL
  have e4 : callD G_law 4 [m.d, .int (v1 + r), .list (L.map stD)] = _ := (k_law_4 _).trans (layer_ok ok hL (by omega))
  have e5 : callD G_law 5 [m.d, .int (v1 + r), .list (L.map stD)] = _ := (k_law_5 _).trans (next_ok ok hL (by omega))
  have ll := layO_len (m := m) (t := v1 + r) (L := L) ok
  have lo := layO_ok (m := m) (t := v1 + r) (L := L) ok hL
  generalize layO m (v1 + r) L = R at *
  have ne1 := ne_self (shp_sts R) (by decide) rfl
  have ne2 := ne_self (shp_sts L) (by decide) rfl
  have eq1 := eq_self (shp_sts R) (by decide) rfl
  have eq2 := eq_self (shp_sts L) (by decide) rfl
  simp [-List.map_map, List.replicate, c0, em, c1, e1, e2, p11, fdiv_ok, q0, eL, e4, e5, ne1, ne2]
  simp only [Kf_eq]
  simp [-List.map_map]
  rw [compD_filter (h := stD) (p := fun _ => false) (by omega) fun x hx => by
    have e6 : callD G_law 6 [m.d, stD x] = _ := (k_law_6 _).trans (state_ok ok (lo x hx))
    simp [e6]]
  rw [filter_no fun _ _ => rfl]
  simp [-List.map_map, ne_nilS]
  simp only [Kf_eq]
  simp [-List.map_map, e5, eq1, eq2]
end T60

namespace T60
section
open PySem L2 Rf
theorem facts {l : PySem.W.OpenLaw} {w : World} {K : PySem.W.Frag} {h : Heap} {mg : Str → Option Value} {fa : Addr} (X : K.In h) (G : h.Ns mainGlobals mg) (hfa : mg "law" = some (.ref fa))
    {f1 : Addr} {oc1 kV1 dc1 pm1 cd1 ct1 : Value} {od1 an1 : Option Addr} {sl1 : Array (Option Value)}
    {f2 : Addr} {oc2 kV2 dc2 pm2 cd2 ct2 : Value} {od2 an2 : Option Addr} {sl2 : Array (Option Value)}
    {f3 : Addr} {oc3 kV3 dc3 pm3 cd3 ct3 : Value} {od3 an3 : Option Addr} {sl3 : Array (Option Value)}
    {f4 : Addr} {oc4 kV4 dc4 pm4 cd4 ct4 : Value} {od4 an4 : Option Addr} {sl4 : Array (Option Value)}
    {f5 : Addr} {oc5 kV5 dc5 pm5 cd5 ct5 : Value} {od5 an5 : Option Addr} {sl5 : Array (Option Value)}
    {f6 : Addr} {oc6 kV6 dc6 pm6 cd6 ct6 : Value} {od6 an6 : Option Addr} {sl6 : Array (Option Value)}
    {f7 : Addr} {oc7 kV7 dc7 pm7 cd7 ct7 : Value} {od7 an7 : Option Addr} {sl7 : Array (Option Value)}
    {f8 : Addr} {oc8 kV8 dc8 pm8 cd8 ct8 : Value} {od8 an8 : Option Addr} {sl8 : Array (Option Value)}
    {f9 : Addr} {oc9 kV9 dc9 pm9 cd9 ct9 : Value} {od9 an9 : Option Addr} {sl9 : Array (Option Value)}
    {f10 : Addr} {oc10 kV10 dc10 pm10 cd10 ct10 : Value} {od10 an10 : Option Addr} {sl10 : Array (Option Value)}
    {f11 : Addr} {oc11 kV11 dc11 pm11 cd11 ct11 : Value} {od11 an11 : Option Addr} {sl11 : Array (Option Value)}
    {f12 : Addr} {oc12 kV12 dc12 pm12 cd12 ct12 : Value} {od12 an12 : Option Addr} {sl12 : Array (Option Value)}
    {f13 : Addr} {oc13 kV13 dc13 pm13 cd13 ct13 : Value} {od13 an13 : Option Addr} {sl13 : Array (Option Value)}
    {f14 : Addr} {oc14 kV14 dc14 pm14 cd14 ct14 : Value} {od14 an14 : Option Addr} {sl14 : Array (Option Value)}
    {f15 : Addr} {oc15 kV15 dc15 pm15 cd15 ct15 : Value} {od15 an15 : Option Addr} {sl15 : Array (Option Value)}
    {f16 : Addr} {oc16 kV16 dc16 pm16 cd16 ct16 : Value} {od16 an16 : Option Addr} {sl16 : Array (Option Value)}
    {f17 : Addr} {oc17 kV17 dc17 pm17 cd17 ct17 : Value} {od17 an17 : Option Addr} {sl17 : Array (Option Value)}
    {f18 : Addr} {oc18 kV18 dc18 pm18 cd18 ct18 : Value} {od18 an18 : Option Addr} {sl18 : Array (Option Value)}
    {f19 : Addr} {oc19 kV19 dc19 pm19 cd19 ct19 : Value} {od19 an19 : Option Addr} {sl19 : Array (Option Value)}
    {f20 : Addr} {oc20 kV20 dc20 pm20 cd20 ct20 : Value} {od20 an20 : Option Addr} {sl20 : Array (Option Value)}
    {f21 : Addr} {oc21 kV21 dc21 pm21 cd21 ct21 : Value} {od21 an21 : Option Addr} {sl21 : Array (Option Value)}
    {f22 : Addr} {oc22 kV22 dc22 pm22 cd22 ct22 : Value} {od22 an22 : Option Addr} {sl22 : Array (Option Value)}
    {f23 : Addr} {oc23 kV23 dc23 pm23 cd23 ct23 : Value} {od23 an23 : Option Addr} {sl23 : Array (Option Value)}
    {f24 : Addr} {oc24 kV24 dc24 pm24 cd24 ct24 : Value} {od24 an24 : Option Addr} {sl24 : Array (Option Value)}
    {f25 : Addr} {oc25 kV25 dc25 pm25 cd25 ct25 : Value} {od25 an25 : Option Addr} {sl25 : Array (Option Value)}
    {f26 : Addr} {oc26 kV26 dc26 pm26 cd26 ct26 : Value} {od26 an26 : Option Addr} {sl26 : Array (Option Value)}
    {f27 : Addr} {oc27 kV27 dc27 pm27 cd27 ct27 : Value} {od27 an27 : Option Addr} {sl27 : Array (Option Value)}
    {f28 : Addr} {oc28 kV28 dc28 pm28 cd28 ct28 : Value} {od28 an28 : Option Addr} {sl28 : Array (Option Value)}
    {f29 : Addr} {oc29 kV29 dc29 pm29 cd29 ct29 : Value} {od29 an29 : Option Addr} {sl29 : Array (Option Value)}
    {f30 : Addr} {oc30 kV30 dc30 pm30 cd30 ct30 : Value} {od30 an30 : Option Addr} {sl30 : Array (Option Value)}
    {f31 : Addr} {oc31 kV31 dc31 pm31 cd31 ct31 : Value} {od31 an31 : Option Addr} {sl31 : Array (Option Value)}
    {f32 : Addr} {oc32 kV32 dc32 pm32 cd32 ct32 : Value} {od32 an32 : Option Addr} {sl32 : Array (Option Value)}
    {f33 : Addr} {oc33 kV33 dc33 pm33 cd33 ct33 : Value} {od33 an33 : Option Addr} {sl33 : Array (Option Value)}
    {f34 : Addr} {oc34 kV34 dc34 pm34 cd34 ct34 : Value} {od34 an34 : Option Addr} {sl34 : Array (Option Value)}
    {f35 : Addr} {oc35 kV35 dc35 pm35 cd35 ct35 : Value} {od35 an35 : Option Addr} {sl35 : Array (Option Value)}
    {f36 : Addr} {oc36 kV36 dc36 pm36 cd36 ct36 : Value} {od36 an36 : Option Addr} {sl36 : Array (Option Value)}
    {f37 : Addr} {oc37 kV37 dc37 pm37 cd37 ct37 : Value} {od37 an37 : Option Addr} {sl37 : Array (Option Value)}
    {f38 : Addr} {oc38 kV38 dc38 pm38 cd38 ct38 : Value} {od38 an38 : Option Addr} {sl38 : Array (Option Value)}
    {f39 : Addr} {oc39 kV39 dc39 pm39 cd39 ct39 : Value} {od39 an39 : Option Addr} {sl39 : Array (Option Value)}
    {f40 : Addr} {oc40 kV40 dc40 pm40 cd40 ct40 : Value} {od40 an40 : Option Addr} {sl40 : Array (Option Value)}
    {f41 : Addr} {oc41 kV41 dc41 pm41 cd41 ct41 : Value} {od41 an41 : Option Addr} {sl41 : Array (Option Value)}
    {f42 : Addr} {oc42 kV42 dc42 pm42 cd42 ct42 : Value} {od42 an42 : Option Addr} {sl42 : Array (Option Value)}
    (a1 : PySem.W.nsIn K mainGlobals "ring_at" = some (some (.ref f1)))
    (l1 : K.lookup f1 = some ⟨oc1, od1, .func (PySem.W.fnOf "ring_at" "ring_at" (defArgs s_ring_at) (defBody s_ring_at) (defScope s_ring_at) .none kV1 dc1 pm1 an1 cd1 ct1), sl1⟩)
    (c1 : PySem.W.codeIn K cd1 "ring_at" = true) (k1 : PySem.W.keepIn K (.ref f1) = true)
    (a2 : PySem.W.nsIn K mainGlobals "common" = some (some (.ref f2)))
    (l2 : K.lookup f2 = some ⟨oc2, od2, .func (PySem.W.fnOf "common" "common" (defArgs s_common) (defBody s_common) (defScope s_common) .none kV2 dc2 pm2 an2 cd2 ct2), sl2⟩)
    (c2 : PySem.W.codeIn K cd2 "common" = true) (k2 : PySem.W.keepIn K (.ref f2) = true)
    (a3 : PySem.W.nsIn K mainGlobals "at_least" = some (some (.ref f3)))
    (l3 : K.lookup f3 = some ⟨oc3, od3, .func (PySem.W.fnOf "at_least" "at_least" (defArgs s_at_least) (defBody s_at_least) (defScope s_at_least) .none kV3 dc3 pm3 an3 cd3 ct3), sl3⟩)
    (c3 : PySem.W.codeIn K cd3 "at_least" = true) (k3 : PySem.W.keepIn K (.ref f3) = true)
    (a4 : PySem.W.nsIn K mainGlobals "holds" = some (some (.ref f4)))
    (l4 : K.lookup f4 = some ⟨oc4, od4, .func (PySem.W.fnOf "holds" "holds" (defArgs s_holds) (defBody s_holds) (defScope s_holds) .none kV4 dc4 pm4 an4 cd4 ct4), sl4⟩)
    (c4 : PySem.W.codeIn K cd4 "holds" = true) (k4 : PySem.W.keepIn K (.ref f4) = true)
    (a5 : PySem.W.nsIn K mainGlobals "shifted" = some (some (.ref f5)))
    (l5 : K.lookup f5 = some ⟨oc5, od5, .func (PySem.W.fnOf "shifted" "shifted" (defArgs s_shifted) (defBody s_shifted) (defScope s_shifted) .none kV5 dc5 pm5 an5 cd5 ct5), sl5⟩)
    (c5 : PySem.W.codeIn K cd5 "shifted" = true) (k5 : PySem.W.keepIn K (.ref f5) = true)
    (a6 : PySem.W.nsIn K mainGlobals "given_above" = some (some (.ref f6)))
    (l6 : K.lookup f6 = some ⟨oc6, od6, .func (PySem.W.fnOf "given_above" "given_above" (defArgs s_given_above) (defBody s_given_above) (defScope s_given_above) .none kV6 dc6 pm6 an6 cd6 ct6), sl6⟩)
    (c6 : PySem.W.codeIn K cd6 "given_above" = true) (k6 : PySem.W.keepIn K (.ref f6) = true)
    (a7 : PySem.W.nsIn K mainGlobals "taken_below" = some (some (.ref f7)))
    (l7 : K.lookup f7 = some ⟨oc7, od7, .func (PySem.W.fnOf "taken_below" "taken_below" (defArgs s_taken_below) (defBody s_taken_below) (defScope s_taken_below) .none kV7 dc7 pm7 an7 cd7 ct7), sl7⟩)
    (c7 : PySem.W.codeIn K cd7 "taken_below" = true) (k7 : PySem.W.keepIn K (.ref f7) = true)
    (a8 : PySem.W.nsIn K mainGlobals "choices" = some (some (.ref f8)))
    (l8 : K.lookup f8 = some ⟨oc8, od8, .func (PySem.W.fnOf "choices" "choices" (defArgs s_choices) (defBody s_choices) (defScope s_choices) .none kV8 dc8 pm8 an8 cd8 ct8), sl8⟩)
    (c8 : PySem.W.codeIn K cd8 "choices" = true) (k8 : PySem.W.keepIn K (.ref f8) = true)
    (a9 : PySem.W.nsIn K mainGlobals "gates_moved" = some (some (.ref f9)))
    (l9 : K.lookup f9 = some ⟨oc9, od9, .func (PySem.W.fnOf "gates_moved" "gates_moved" (defArgs s_gates_moved) (defBody s_gates_moved) (defScope s_gates_moved) .none kV9 dc9 pm9 an9 cd9 ct9), sl9⟩)
    (c9 : PySem.W.codeIn K cd9 "gates_moved" = true) (k9 : PySem.W.keepIn K (.ref f9) = true)
    (a10 : PySem.W.nsIn K mainGlobals "_law_cell_at" = some (some (.ref f10)))
    (l10 : K.lookup f10 = some ⟨oc10, od10, .func (PySem.W.fnOf "_law_cell_at" "_law_cell_at" (defArgs s_l_cell_at) (defBody s_l_cell_at) (defScope s_l_cell_at) .none kV10 dc10 pm10 an10 cd10 ct10), sl10⟩)
    (c10 : PySem.W.codeIn K cd10 "_law_cell_at" = true) (k10 : PySem.W.keepIn K (.ref f10) = true)
    (a11 : PySem.W.nsIn K mainGlobals "_law_pick" = some (some (.ref f11)))
    (l11 : K.lookup f11 = some ⟨oc11, od11, .func (PySem.W.fnOf "_law_pick" "_law_pick" (defArgs s_l_pick) (defBody s_l_pick) (defScope s_l_pick) .none kV11 dc11 pm11 an11 cd11 ct11), sl11⟩)
    (c11 : PySem.W.codeIn K cd11 "_law_pick" = true) (k11 : PySem.W.keepIn K (.ref f11) = true)
    (a12 : PySem.W.nsIn K mainGlobals "_law_top" = some (some (.ref f12)))
    (l12 : K.lookup f12 = some ⟨oc12, od12, .func (PySem.W.fnOf "_law_top" "_law_top" (defArgs s_l_top) (defBody s_l_top) (defScope s_l_top) .none kV12 dc12 pm12 an12 cd12 ct12), sl12⟩)
    (c12 : PySem.W.codeIn K cd12 "_law_top" = true) (k12 : PySem.W.keepIn K (.ref f12) = true)
    (a13 : PySem.W.nsIn K mainGlobals "_law_no_less" = some (some (.ref f13)))
    (l13 : K.lookup f13 = some ⟨oc13, od13, .func (PySem.W.fnOf "_law_no_less" "_law_no_less" (defArgs s_l_no_less) (defBody s_l_no_less) (defScope s_l_no_less) .none kV13 dc13 pm13 an13 cd13 ct13), sl13⟩)
    (c13 : PySem.W.codeIn K cd13 "_law_no_less" = true) (k13 : PySem.W.keepIn K (.ref f13) = true)
    (a14 : PySem.W.nsIn K mainGlobals "_law_shifted" = some (some (.ref f14)))
    (l14 : K.lookup f14 = some ⟨oc14, od14, .func (PySem.W.fnOf "_law_shifted" "_law_shifted" (defArgs s_l_shifted) (defBody s_l_shifted) (defScope s_l_shifted) .none kV14 dc14 pm14 an14 cd14 ct14), sl14⟩)
    (c14 : PySem.W.codeIn K cd14 "_law_shifted" = true) (k14 : PySem.W.keepIn K (.ref f14) = true)
    (a15 : PySem.W.nsIn K mainGlobals "_law_fits" = some (some (.ref f15)))
    (l15 : K.lookup f15 = some ⟨oc15, od15, .func (PySem.W.fnOf "_law_fits" "_law_fits" (defArgs s_l_fits) (defBody s_l_fits) (defScope s_l_fits) .none kV15 dc15 pm15 an15 cd15 ct15), sl15⟩)
    (c15 : PySem.W.codeIn K cd15 "_law_fits" = true) (k15 : PySem.W.keepIn K (.ref f15) = true)
    (a16 : PySem.W.nsIn K mainGlobals "_law_ways" = some (some (.ref f16)))
    (l16 : K.lookup f16 = some ⟨oc16, od16, .func (PySem.W.fnOf "_law_ways" "_law_ways" (defArgs s_l_ways) (defBody s_l_ways) (defScope s_l_ways) .none kV16 dc16 pm16 an16 cd16 ct16), sl16⟩)
    (c16 : PySem.W.codeIn K cd16 "_law_ways" = true) (k16 : PySem.W.keepIn K (.ref f16) = true)
    (a17 : PySem.W.nsIn K mainGlobals "_law_unlike" = some (some (.ref f17)))
    (l17 : K.lookup f17 = some ⟨oc17, od17, .func (PySem.W.fnOf "_law_unlike" "_law_unlike" (defArgs s_l_unlike) (defBody s_l_unlike) (defScope s_l_unlike) .none kV17 dc17 pm17 an17 cd17 ct17), sl17⟩)
    (c17 : PySem.W.codeIn K cd17 "_law_unlike" = true) (k17 : PySem.W.keepIn K (.ref f17) = true)
    (a18 : PySem.W.nsIn K mainGlobals "_law_whole" = some (some (.ref f18)))
    (l18 : K.lookup f18 = some ⟨oc18, od18, .func (PySem.W.fnOf "_law_whole" "_law_whole" (defArgs s_l_whole) (defBody s_l_whole) (defScope s_l_whole) .none kV18 dc18 pm18 an18 cd18 ct18), sl18⟩)
    (c18 : PySem.W.codeIn K cd18 "_law_whole" = true) (k18 : PySem.W.keepIn K (.ref f18) = true)
    (a19 : PySem.W.nsIn K mainGlobals "_law_is_truths" = some (some (.ref f19)))
    (l19 : K.lookup f19 = some ⟨oc19, od19, .func (PySem.W.fnOf "_law_is_truths" "_law_is_truths" (defArgs s_l_is_truths) (defBody s_l_is_truths) (defScope s_l_is_truths) .none kV19 dc19 pm19 an19 cd19 ct19), sl19⟩)
    (c19 : PySem.W.codeIn K cd19 "_law_is_truths" = true) (k19 : PySem.W.keepIn K (.ref f19) = true)
    (a20 : PySem.W.nsIn K mainGlobals "sea_at" = some (some (.ref f20)))
    (l20 : K.lookup f20 = some ⟨oc20, od20, .func (PySem.W.fnOf "sea_at" "sea_at" (defArgs s_sea_at) (defBody s_sea_at) (defScope s_sea_at) .none kV20 dc20 pm20 an20 cd20 ct20), sl20⟩)
    (c20 : PySem.W.codeIn K cd20 "sea_at" = true) (k20 : PySem.W.keepIn K (.ref f20) = true)
    (a21 : PySem.W.nsIn K mainGlobals "fraction" = some (some (.ref f21)))
    (l21 : K.lookup f21 = some ⟨oc21, od21, .func (PySem.W.fnOf "fraction" "fraction" (defArgs s_fraction) (defBody s_fraction) (defScope s_fraction) .none kV21 dc21 pm21 an21 cd21 ct21), sl21⟩)
    (c21 : PySem.W.codeIn K cd21 "fraction" = true) (k21 : PySem.W.keepIn K (.ref f21) = true)
    (a22 : PySem.W.nsIn K mainGlobals "_law_unlike_side" = some (some (.ref f22)))
    (l22 : K.lookup f22 = some ⟨oc22, od22, .func (PySem.W.fnOf "_law_unlike_side" "_law_unlike_side" (defArgs s_l_unlike_side) (defBody s_l_unlike_side) (defScope s_l_unlike_side) .none kV22 dc22 pm22 an22 cd22 ct22), sl22⟩)
    (c22 : PySem.W.codeIn K cd22 "_law_unlike_side" = true) (k22 : PySem.W.keepIn K (.ref f22) = true)
    (a23 : PySem.W.nsIn K mainGlobals "_law_some_ponds" = some (some (.ref f23)))
    (l23 : K.lookup f23 = some ⟨oc23, od23, .func (PySem.W.fnOf "_law_some_ponds" "_law_some_ponds" (defArgs s_l_some_ponds) (defBody s_l_some_ponds) (defScope s_l_some_ponds) .none kV23 dc23 pm23 an23 cd23 ct23), sl23⟩)
    (c23 : PySem.W.codeIn K cd23 "_law_some_ponds" = true) (k23 : PySem.W.keepIn K (.ref f23) = true)
    (a24 : PySem.W.nsIn K mainGlobals "_law_some_contents" = some (some (.ref f24)))
    (l24 : K.lookup f24 = some ⟨oc24, od24, .func (PySem.W.fnOf "_law_some_contents" "_law_some_contents" (defArgs s_l_some_contents) (defBody s_l_some_contents) (defScope s_l_some_contents) .none kV24 dc24 pm24 an24 cd24 ct24), sl24⟩)
    (c24 : PySem.W.codeIn K cd24 "_law_some_contents" = true) (k24 : PySem.W.keepIn K (.ref f24) = true)
    (a25 : PySem.W.nsIn K mainGlobals "_law_truths" = some (some (.ref f25)))
    (l25 : K.lookup f25 = some ⟨oc25, od25, .func (PySem.W.fnOf "_law_truths" "_law_truths" (defArgs s_l_truths) (defBody s_l_truths) (defScope s_l_truths) .none kV25 dc25 pm25 an25 cd25 ct25), sl25⟩)
    (c25 : PySem.W.codeIn K cd25 "_law_truths" = true) (k25 : PySem.W.keepIn K (.ref f25) = true)
    (a26 : PySem.W.nsIn K mainGlobals "_law_passed" = some (some (.ref f26)))
    (l26 : K.lookup f26 = some ⟨oc26, od26, .func (PySem.W.fnOf "_law_passed" "_law_passed" (defArgs s_l_passed) (defBody s_l_passed) (defScope s_l_passed) .none kV26 dc26 pm26 an26 cd26 ct26), sl26⟩)
    (c26 : PySem.W.codeIn K cd26 "_law_passed" = true) (k26 : PySem.W.keepIn K (.ref f26) = true)
    (a27 : PySem.W.nsIn K mainGlobals "_law_can_turn" = some (some (.ref f27)))
    (l27 : K.lookup f27 = some ⟨oc27, od27, .func (PySem.W.fnOf "_law_can_turn" "_law_can_turn" (defArgs s_l_can_turn) (defBody s_l_can_turn) (defScope s_l_can_turn) .none kV27 dc27 pm27 an27 cd27 ct27), sl27⟩)
    (c27 : PySem.W.codeIn K cd27 "_law_can_turn" = true) (k27 : PySem.W.keepIn K (.ref f27) = true)
    (a28 : PySem.W.nsIn K mainGlobals "_law_is_state" = some (some (.ref f28)))
    (l28 : K.lookup f28 = some ⟨oc28, od28, .func (PySem.W.fnOf "_law_is_state" "_law_is_state" (defArgs s_l_is_state) (defBody s_l_is_state) (defScope s_l_is_state) .none kV28 dc28 pm28 an28 cd28 ct28), sl28⟩)
    (c28 : PySem.W.codeIn K cd28 "_law_is_state" = true) (k28 : PySem.W.keepIn K (.ref f28) = true)
    (a29 : PySem.W.nsIn K mainGlobals "level" = some (some (.ref f29)))
    (l29 : K.lookup f29 = some ⟨oc29, od29, .func (PySem.W.fnOf "level" "level" (defArgs s_level) (defBody s_level) (defScope s_level) .none kV29 dc29 pm29 an29 cd29 ct29), sl29⟩)
    (c29 : PySem.W.codeIn K cd29 "level" = true) (k29 : PySem.W.keepIn K (.ref f29) = true)
    (a30 : PySem.W.nsIn K mainGlobals "_law_a_mill" = some (some (.ref f30)))
    (l30 : K.lookup f30 = some ⟨oc30, od30, .func (PySem.W.fnOf "_law_a_mill" "_law_a_mill" (defArgs s_l_a_mill) (defBody s_l_a_mill) (defScope s_l_a_mill) .none kV30 dc30 pm30 an30 cd30 ct30), sl30⟩)
    (c30 : PySem.W.codeIn K cd30 "_law_a_mill" = true) (k30 : PySem.W.keepIn K (.ref f30) = true)
    (a31 : PySem.W.nsIn K mainGlobals "_law_turned" = some (some (.ref f31)))
    (l31 : K.lookup f31 = some ⟨oc31, od31, .func (PySem.W.fnOf "_law_turned" "_law_turned" (defArgs s_l_turned) (defBody s_l_turned) (defScope s_l_turned) .none kV31 dc31 pm31 an31 cd31 ct31), sl31⟩)
    (c31 : PySem.W.codeIn K cd31 "_law_turned" = true) (k31 : PySem.W.keepIn K (.ref f31) = true)
    (a32 : PySem.W.nsIn K mainGlobals "_law_a_layer" = some (some (.ref f32)))
    (l32 : K.lookup f32 = some ⟨oc32, od32, .func (PySem.W.fnOf "_law_a_layer" "_law_a_layer" (defArgs s_l_a_layer) (defBody s_l_a_layer) (defScope s_l_a_layer) .none kV32 dc32 pm32 an32 cd32 ct32), sl32⟩)
    (c32 : PySem.W.codeIn K cd32 "_law_a_layer" = true) (k32 : PySem.W.keepIn K (.ref f32) = true)
    (a33 : PySem.W.nsIn K mainGlobals "side_level" = some (some (.ref f33)))
    (l33 : K.lookup f33 = some ⟨oc33, od33, .func (PySem.W.fnOf "side_level" "side_level" (defArgs s_side_level) (defBody s_side_level) (defScope s_side_level) .none kV33 dc33 pm33 an33 cd33 ct33), sl33⟩)
    (c33 : PySem.W.codeIn K cd33 "side_level" = true) (k33 : PySem.W.keepIn K (.ref f33) = true)
    (a34 : PySem.W.nsIn K mainGlobals "_law_layer" = some (some (.ref f34)))
    (l34 : K.lookup f34 = some ⟨oc34, od34, .func (PySem.W.fnOf "_law_layer" "_law_layer" (defArgs s_l_layer) (defBody s_l_layer) (defScope s_l_layer) .none kV34 dc34 pm34 an34 cd34 ct34), sl34⟩)
    (c34 : PySem.W.codeIn K cd34 "_law_layer" = true) (k34 : PySem.W.keepIn K (.ref f34) = true)
    (a35 : PySem.W.nsIn K mainGlobals "fall_of" = some (some (.ref f35)))
    (l35 : K.lookup f35 = some ⟨oc35, od35, .func (PySem.W.fnOf "fall_of" "fall_of" (defArgs s_fall_of) (defBody s_fall_of) (defScope s_fall_of) .none kV35 dc35 pm35 an35 cd35 ct35), sl35⟩)
    (c35 : PySem.W.codeIn K cd35 "fall_of" = true) (k35 : PySem.W.keepIn K (.ref f35) = true)
    (a36 : PySem.W.nsIn K mainGlobals "until_even" = some (some (.ref f36)))
    (l36 : K.lookup f36 = some ⟨oc36, od36, .func (PySem.W.fnOf "until_even" "until_even" (defArgs s_until_even) (defBody s_until_even) (defScope s_until_even) .none kV36 dc36 pm36 an36 cd36 ct36), sl36⟩)
    (c36 : PySem.W.codeIn K cd36 "until_even" = true) (k36 : PySem.W.keepIn K (.ref f36) = true)
    (a37 : PySem.W.nsIn K mainGlobals "passing" = some (some (.ref f37)))
    (l37 : K.lookup f37 = some ⟨oc37, od37, .func (PySem.W.fnOf "passing" "passing" (defArgs s_passing) (defBody s_passing) (defScope s_passing) .none kV37 dc37 pm37 an37 cd37 ct37), sl37⟩)
    (c37 : PySem.W.codeIn K cd37 "passing" = true) (k37 : PySem.W.keepIn K (.ref f37) = true)
    (a38 : PySem.W.nsIn K mainGlobals "can_turn" = some (some (.ref f38)))
    (l38 : K.lookup f38 = some ⟨oc38, od38, .func (PySem.W.fnOf "can_turn" "can_turn" (defArgs s_can_turn) (defBody s_can_turn) (defScope s_can_turn) .none kV38 dc38 pm38 an38 cd38 ct38), sl38⟩)
    (c38 : PySem.W.codeIn K cd38 "can_turn" = true) (k38 : PySem.W.keepIn K (.ref f38) = true)
    (a39 : PySem.W.nsIn K mainGlobals "gates_done" = some (some (.ref f39)))
    (l39 : K.lookup f39 = some ⟨oc39, od39, .func (PySem.W.fnOf "gates_done" "gates_done" (defArgs s_gates_done) (defBody s_gates_done) (defScope s_gates_done) .none kV39 dc39 pm39 an39 cd39 ct39), sl39⟩)
    (c39 : PySem.W.codeIn K cd39 "gates_done" = true) (k39 : PySem.W.keepIn K (.ref f39) = true)
    (a40 : PySem.W.nsIn K mainGlobals "turned" = some (some (.ref f40)))
    (l40 : K.lookup f40 = some ⟨oc40, od40, .func (PySem.W.fnOf "turned" "turned" (defArgs s_turned) (defBody s_turned) (defScope s_turned) .none kV40 dc40 pm40 an40 cd40 ct40), sl40⟩)
    (c40 : PySem.W.codeIn K cd40 "turned" = true) (k40 : PySem.W.keepIn K (.ref f40) = true)
    (a41 : PySem.W.nsIn K mainGlobals "next_layer" = some (some (.ref f41)))
    (l41 : K.lookup f41 = some ⟨oc41, od41, .func (PySem.W.fnOf "next_layer" "next_layer" (defArgs s_next_layer) (defBody s_next_layer) (defScope s_next_layer) .none kV41 dc41 pm41 an41 cd41 ct41), sl41⟩)
    (c41 : PySem.W.codeIn K cd41 "next_layer" = true) (k41 : PySem.W.keepIn K (.ref f41) = true)
    (a42 : PySem.W.nsIn K mainGlobals "law" = some (some (.ref f42)))
    (l42 : K.lookup f42 = some ⟨oc42, od42, .func (PySem.W.fnOf "law" "law" (defArgs s_law) (defBody s_law) (defScope s_law) .none kV42 dc42 pm42 an42 cd42 ct42), sl42⟩)
    (c42 : PySem.W.codeIn K cd42 "law" = true) (k42 : PySem.W.keepIn K (.ref f42) = true)
    (z1 : PySem.W.nsIn K mainGlobals "abs" = some none)
    (z2 : PySem.W.nsIn K mainGlobals "bool" = some none)
    (z3 : PySem.W.nsIn K mainGlobals "int" = some none)
    (z4 : PySem.W.nsIn K mainGlobals "isinstance" = some none)
    (z5 : PySem.W.nsIn K mainGlobals "len" = some none)
    (z6 : PySem.W.nsIn K mainGlobals "list" = some none)
    (z7 : PySem.W.nsIn K mainGlobals "max" = some none)
    (z8 : PySem.W.nsIn K mainGlobals "min" = some none)
    (z9 : PySem.W.nsIn K mainGlobals "range" = some none)
    (z10 : PySem.W.nsIn K mainGlobals "sorted" = some none)
    (z11 : PySem.W.nsIn K mainGlobals "sum" = some none)
    (z12 : PySem.W.nsIn K mainGlobals "tuple" = some none)
    : ∃ fd : FuncData, (∀ (s : Shared) (v : Value), BindsTo s fd ⟨[v], []⟩ [("_law_script", v)]) ∧ ∀ base : Heap, K.In base → base.Ns mainGlobals mg → FnOk l.prog w K mg base (L2.CX l.prog w) 10 fa fd ["_law_script"] (spOf K ct0 c_law) := by
  letI : PWd := ⟨l.prog, w⟩
  have e := hfa.symm.trans (PySem.W.mg_of X G a42)
  cases e
  have F1 := fun_mk (st := s_ring_at) l1 c1 k1
  have F2 := fun_mk (st := s_common) l2 c2 k2
  have F3 := fun_mk (st := s_at_least) l3 c3 k3
  have F4 := fun_mk (st := s_holds) l4 c4 k4
  have F5 := fun_mk (st := s_shifted) l5 c5 k5
  have F6 := fun_mk (st := s_given_above) l6 c6 k6
  have F7 := fun_mk (st := s_taken_below) l7 c7 k7
  have F8 := fun_mk (st := s_choices) l8 c8 k8
  have F9 := fun_mk (st := s_gates_moved) l9 c9 k9
  have F10 := fun_mk (st := s_l_cell_at) l10 c10 k10
  have F11 := fun_mk (st := s_l_pick) l11 c11 k11
  have F12 := fun_mk (st := s_l_top) l12 c12 k12
  have F13 := fun_mk (st := s_l_no_less) l13 c13 k13
  have F14 := fun_mk (st := s_l_shifted) l14 c14 k14
  have F15 := fun_mk (st := s_l_fits) l15 c15 k15
  have F16 := fun_mk (st := s_l_ways) l16 c16 k16
  have F17 := fun_mk (st := s_l_unlike) l17 c17 k17
  have F18 := fun_mk (st := s_l_whole) l18 c18 k18
  have F19 := fun_mk (st := s_l_is_truths) l19 c19 k19
  have F20 := fun_mk (st := s_sea_at) l20 c20 k20
  have F21 := fun_mk (st := s_fraction) l21 c21 k21
  have F22 := fun_mk (st := s_l_unlike_side) l22 c22 k22
  have F23 := fun_mk (st := s_l_some_ponds) l23 c23 k23
  have F24 := fun_mk (st := s_l_some_contents) l24 c24 k24
  have F25 := fun_mk (st := s_l_truths) l25 c25 k25
  have F26 := fun_mk (st := s_l_passed) l26 c26 k26
  have F27 := fun_mk (st := s_l_can_turn) l27 c27 k27
  have F28 := fun_mk (st := s_l_is_state) l28 c28 k28
  have F29 := fun_mk (st := s_level) l29 c29 k29
  have F30 := fun_mk (st := s_l_a_mill) l30 c30 k30
  have F31 := fun_mk (st := s_l_turned) l31 c31 k31
  have F32 := fun_mk (st := s_l_a_layer) l32 c32 k32
  have F33 := fun_mk (st := s_side_level) l33 c33 k33
  have F34 := fun_mk (st := s_l_layer) l34 c34 k34
  have F35 := fun_mk (st := s_fall_of) l35 c35 k35
  have F36 := fun_mk (st := s_until_even) l36 c36 k36
  have F37 := fun_mk (st := s_passing) l37 c37 k37
  have F38 := fun_mk (st := s_can_turn) l38 c38 k38
  have F39 := fun_mk (st := s_gates_done) l39 c39 k39
  have F40 := fun_mk (st := s_turned) l40 c40 k40
  have F41 := fun_mk (st := s_next_layer) l41 c41 k41
  have F42 := fun_mk (st := s_law) l42 c42 k42
  have T : Tp K mg BL GL DG := ⟨List.forall_mem_cons.mpr ⟨PySem.W.mg_none_of X G z1, List.forall_mem_cons.mpr ⟨PySem.W.mg_none_of X G z2, List.forall_mem_cons.mpr ⟨PySem.W.mg_none_of X G z3, List.forall_mem_cons.mpr ⟨PySem.W.mg_none_of X G z4, List.forall_mem_cons.mpr ⟨PySem.W.mg_none_of X G z5, List.forall_mem_cons.mpr ⟨PySem.W.mg_none_of X G z6, List.forall_mem_cons.mpr ⟨PySem.W.mg_none_of X G z7, List.forall_mem_cons.mpr ⟨PySem.W.mg_none_of X G z8, List.forall_mem_cons.mpr ⟨PySem.W.mg_none_of X G z9, List.forall_mem_cons.mpr ⟨PySem.W.mg_none_of X G z10, List.forall_mem_cons.mpr ⟨PySem.W.mg_none_of X G z11, List.forall_mem_cons.mpr ⟨PySem.W.mg_none_of X G z12, (fun _ h => nomatch h)⟩⟩⟩⟩⟩⟩⟩⟩⟩⟩⟩⟩, (fun _ h => nomatch h), fun e => nomatch e⟩
  refine ⟨PySem.W.fnOf "law" "law" (defArgs s_law) (defBody s_law) (defScope s_law) .none kV42 dc42 pm42 an42 cd42 ct42, fun s v => .of_eq rfl, fun base _ _ => ?_⟩
  have b1 := F1.binds (ps := ["ring", "turn"]) fun _ _ _ _ _ _ us hl => match us, hl with | [_, _], _ => rfl
  have o_ring_at : CalOk l.prog w K mg base ct0 1 c_ring_at := cal_ok ⟨rfl, rfl⟩ (k := 0) F1 T (PySem.W.mg_of X G a1) b1 sc_ring_at rfl rfl rfl m_ring_at (by decide +kernel) (fun _ h => h) rfl ((fun _ h => nomatch h))
  have b2 := F2.binds (ps := ["one", "other"]) fun _ _ _ _ _ _ us hl => match us, hl with | [_, _], _ => rfl
  have o_common : CalOk l.prog w K mg base ct0 1 c_common := cal_ok ⟨rfl, rfl⟩ (k := 0) F2 T (PySem.W.mg_of X G a2) b2 sc_common rfl rfl rfl m_common (by decide +kernel) (fun _ h => h) rfl ((fun _ h => nomatch h))
  have b3 := F3.binds (ps := ["one", "other"]) fun _ _ _ _ _ _ us hl => match us, hl with | [_, _], _ => rfl
  have o_at_least : CalOk l.prog w K mg base ct0 1 c_at_least := cal_ok ⟨rfl, rfl⟩ (k := 0) F3 T (PySem.W.mg_of X G a3) b3 sc_at_least rfl rfl rfl m_at_least (by decide +kernel) (fun _ h => h) rfl ((fun _ h => nomatch h))
  have b4 := F4.binds (ps := ["pond"]) fun _ _ _ _ _ _ us hl => match us, hl with | [_], _ => rfl
  have o_holds : CalOk l.prog w K mg base ct0 1 c_holds := cal_ok ⟨rfl, rfl⟩ (k := 0) F4 T (PySem.W.mg_of X G a4) b4 sc_holds rfl rfl rfl m_holds (by decide +kernel) (fun _ h => h) rfl ((fun _ h => nomatch h))
  have b5 := F5.binds (ps := ["contents", "one", "other", "buckets"]) fun _ _ _ _ _ _ us hl => match us, hl with | [_, _, _, _], _ => rfl
  have o_shifted : CalOk l.prog w K mg base ct0 1 c_shifted := cal_ok ⟨rfl, rfl⟩ (k := 0) F5 T (PySem.W.mg_of X G a5) b5 sc_shifted rfl rfl rfl m_shifted (by decide +kernel) (fun _ h => h) rfl ((fun _ h => nomatch h))
  have b6 := F6.binds (ps := ["pond", "content", "height"]) fun _ _ _ _ _ _ us hl => match us, hl with | [_, _, _], _ => rfl
  have o_given_above : CalOk l.prog w K mg base ct0 1 c_given_above := cal_ok ⟨rfl, rfl⟩ (k := 0) F6 T (PySem.W.mg_of X G a6) b6 sc_given_above rfl rfl rfl m_given_above (by decide +kernel) (fun _ h => h) rfl ((fun _ h => nomatch h))
  have b7 := F7.binds (ps := ["pond", "content", "height"]) fun _ _ _ _ _ _ us hl => match us, hl with | [_, _, _], _ => rfl
  have o_taken_below : CalOk l.prog w K mg base ct0 1 c_taken_below := cal_ok ⟨rfl, rfl⟩ (k := 0) F7 T (PySem.W.mg_of X G a7) b7 sc_taken_below rfl rfl rfl m_taken_below (by decide +kernel) (fun _ h => h) rfl ((fun _ h => nomatch h))
  have b8 := F8.binds (ps := ["many"]) fun _ _ _ _ _ _ us hl => match us, hl with | [_], _ => rfl
  have o_choices : CalOk l.prog w K mg base ct0 1 c_choices := cal_ok ⟨rfl, rfl⟩ (k := 0) F8 T (PySem.W.mg_of X G a8) b8 sc_choices rfl rfl rfl m_choices (by decide +kernel) (fun _ h => h) rfl ((fun _ h => nomatch h))
  have b9 := F9.binds (ps := ["one", "other"]) fun _ _ _ _ _ _ us hl => match us, hl with | [_, _], _ => rfl
  have o_gates_moved : CalOk l.prog w K mg base ct0 1 c_gates_moved := cal_ok ⟨rfl, rfl⟩ (k := 0) F9 T (PySem.W.mg_of X G a9) b9 sc_gates_moved rfl rfl rfl m_gates_moved (by decide +kernel) (fun _ h => h) rfl ((fun _ h => nomatch h))
  have b10 := F10.binds (ps := ["_law_script", "_law_k"]) fun _ _ _ _ _ _ us hl => match us, hl with | [_, _], _ => rfl
  have o_l_cell_at : CalOk l.prog w K mg base ct0 1 c_l_cell_at := cal_ok ⟨rfl, rfl⟩ (k := 0) F10 T (PySem.W.mg_of X G a10) b10 sc_l_cell_at rfl rfl rfl m_l_cell_at (by decide +kernel) (fun _ h => h) rfl ((fun _ h => nomatch h))
  have b11 := F11.binds (ps := ["_law_number", "_law_turn", "_law_many"]) fun _ _ _ _ _ _ us hl => match us, hl with | [_, _, _], _ => rfl
  have o_l_pick : CalOk l.prog w K mg base ct0 1 c_l_pick := cal_ok ⟨rfl, rfl⟩ (k := 0) F11 T (PySem.W.mg_of X G a11) b11 sc_l_pick rfl rfl rfl m_l_pick (by decide +kernel) (fun _ h => h) rfl ((fun _ h => nomatch h))
  have b12 := F12.binds (ps := ["_law_mill", "_law_contents", "_law_side", "_law_turn"]) fun _ _ _ _ _ _ us hl => match us, hl with | [_, _, _, _], _ => rfl
  have o_l_top : CalOk l.prog w K mg base ct0 1 c_l_top := cal_ok ⟨rfl, rfl⟩ (k := 0) F12 T (PySem.W.mg_of X G a12) b12 sc_l_top rfl rfl rfl m_l_top (by decide +kernel) (fun _ h => h) rfl ((fun _ h => nomatch h))
  have b13 := F13.binds (ps := ["_law_one", "_law_other"]) fun _ _ _ _ _ _ us hl => match us, hl with | [_, _], _ => rfl
  have o_l_no_less : CalOk l.prog w K mg base ct0 1 c_l_no_less := cal_ok ⟨rfl, rfl⟩ (k := 0) F13 T (PySem.W.mg_of X G a13) b13 sc_l_no_less rfl rfl rfl m_l_no_less (by decide +kernel) (fun _ h => h) rfl ((fun _ h => nomatch h))
  have b14 := F14.binds (ps := ["_law_contents", "_law_giving", "_law_taking", "_law_many"]) fun _ _ _ _ _ _ us hl => match us, hl with | [_, _, _, _], _ => rfl
  have o_l_shifted : CalOk l.prog w K mg base ct0 1 c_l_shifted := cal_ok ⟨rfl, rfl⟩ (k := 0) F14 T (PySem.W.mg_of X G a14) b14 sc_l_shifted rfl rfl rfl m_l_shifted (by decide +kernel) (fun _ h => h) rfl ((fun _ h => nomatch h))
  have b15 := F15.binds (ps := ["_law_mill", "_law_behind", "_law_turn", "_law_giving", "_law_taking"]) fun _ _ _ _ _ _ us hl => match us, hl with | [_, _, _, _, _], _ => rfl
  have o_l_fits : CalOk l.prog w K mg base ct0 1 c_l_fits := cal_ok ⟨rfl, rfl⟩ (k := 0) F15 T (PySem.W.mg_of X G a15) b15 sc_l_fits rfl rfl rfl m_l_fits (by decide +kernel) (fun _ h => h) rfl ((fun _ h => nomatch h))
  have b16 := F16.binds (ps := ["_law_many"]) fun _ _ _ _ _ _ us hl => match us, hl with | [_], _ => rfl
  have o_l_ways : CalOk l.prog w K mg base ct0 1 c_l_ways := cal_ok ⟨rfl, rfl⟩ (k := 0) F16 T (PySem.W.mg_of X G a16) b16 sc_l_ways rfl rfl rfl m_l_ways (by decide +kernel) (fun _ h => h) rfl ((fun _ h => nomatch h))
  have b17 := F17.binds (ps := ["_law_one", "_law_other"]) fun _ _ _ _ _ _ us hl => match us, hl with | [_, _], _ => rfl
  have o_l_unlike : CalOk l.prog w K mg base ct0 1 c_l_unlike := cal_ok ⟨rfl, rfl⟩ (k := 0) F17 T (PySem.W.mg_of X G a17) b17 sc_l_unlike rfl rfl rfl m_l_unlike (by decide +kernel) (fun _ h => h) rfl ((fun _ h => nomatch h))
  have b18 := F18.binds (ps := ["_law_one"]) fun _ _ _ _ _ _ us hl => match us, hl with | [_], _ => rfl
  have o_l_whole : CalOk l.prog w K mg base ct0 1 c_l_whole := cal_ok ⟨rfl, rfl⟩ (k := 0) F18 T (PySem.W.mg_of X G a18) b18 sc_l_whole rfl rfl rfl m_l_whole (by decide +kernel) (fun _ h => h) rfl ((fun _ h => nomatch h))
  have b19 := F19.binds (ps := ["_law_found", "_law_many"]) fun _ _ _ _ _ _ us hl => match us, hl with | [_, _], _ => rfl
  have o_l_is_truths : CalOk l.prog w K mg base ct0 1 c_l_is_truths := cal_ok ⟨rfl, rfl⟩ (k := 0) F19 T (PySem.W.mg_of X G a19) b19 sc_l_is_truths rfl rfl rfl m_l_is_truths (by decide +kernel) (fun _ h => h) rfl ((fun _ h => nomatch h))
  have b20 := F20.binds (ps := ["sea", "turn"]) fun _ _ _ _ _ _ us hl => match us, hl with | [_, _], _ => rfl
  have o_sea_at : CalOk l.prog w K mg base ct0 2 c_sea_at := cal_ok ⟨rfl, rfl⟩ (k := 1) F20 T (PySem.W.mg_of X G a20) b20 sc_sea_at rfl rfl rfl m_sea_at (by decide +kernel) (fun _ h => h) rfl (List.forall_mem_cons.mpr ⟨o_ring_at.mono (by decide), (fun _ h => nomatch h)⟩)
  have b21 := F21.binds (ps := ["top", "under"]) fun _ _ _ _ _ _ us hl => match us, hl with | [_, _], _ => rfl
  have o_fraction : CalOk l.prog w K mg base ct0 2 c_fraction := cal_ok ⟨rfl, rfl⟩ (k := 1) F21 T (PySem.W.mg_of X G a21) b21 sc_fraction rfl rfl rfl m_fraction (by decide +kernel) (fun _ h => h) rfl (List.forall_mem_cons.mpr ⟨o_common.mono (by decide), (fun _ h => nomatch h)⟩)
  have b22 := F22.binds (ps := ["_law_cell", "_law_k", "_law_many", "_law_one"]) fun _ _ _ _ _ _ us hl => match us, hl with | [_, _, _, _], _ => rfl
  have o_l_unlike_side : CalOk l.prog w K mg base ct0 2 c_l_unlike_side := cal_ok ⟨rfl, rfl⟩ (k := 1) F22 T (PySem.W.mg_of X G a22) b22 sc_l_unlike_side rfl rfl rfl m_l_unlike_side (by decide +kernel) (fun _ h => h) rfl (List.forall_mem_cons.mpr ⟨o_l_pick.mono (by decide), (fun _ h => nomatch h)⟩)
  have b23 := F23.binds (ps := ["_law_cell", "_law_many"]) fun _ _ _ _ _ _ us hl => match us, hl with | [_, _], _ => rfl
  have o_l_some_ponds : CalOk l.prog w K mg base ct0 2 c_l_some_ponds := cal_ok ⟨rfl, rfl⟩ (k := 1) F23 T (PySem.W.mg_of X G a23) b23 sc_l_some_ponds rfl rfl rfl m_l_some_ponds (by decide +kernel) (fun _ h => h) rfl (List.forall_mem_cons.mpr ⟨o_l_pick.mono (by decide), (fun _ h => nomatch h)⟩)
  have b24 := F24.binds (ps := ["_law_mill", "_law_cell"]) fun _ _ _ _ _ _ us hl => match us, hl with | [_, _], _ => rfl
  have o_l_some_contents : CalOk l.prog w K mg base ct0 2 c_l_some_contents := cal_ok ⟨rfl, rfl⟩ (k := 1) F24 T (PySem.W.mg_of X G a24) b24 sc_l_some_contents rfl rfl rfl m_l_some_contents (by decide +kernel) (fun _ h => h) rfl (List.forall_mem_cons.mpr ⟨o_l_pick.mono (by decide), (fun _ h => nomatch h)⟩)
  have b25 := F25.binds (ps := ["_law_many", "_law_cell", "_law_k"]) fun _ _ _ _ _ _ us hl => match us, hl with | [_, _, _], _ => rfl
  have o_l_truths : CalOk l.prog w K mg base ct0 2 c_l_truths := cal_ok ⟨rfl, rfl⟩ (k := 1) F25 T (PySem.W.mg_of X G a25) b25 sc_l_truths rfl rfl rfl m_l_truths (by decide +kernel) (fun _ h => h) rfl (List.forall_mem_cons.mpr ⟨o_l_pick.mono (by decide), (fun _ h => nomatch h)⟩)
  have b26 := F26.binds (ps := ["_law_mill", "_law_contents", "_law_turn", "_law_gate"]) fun _ _ _ _ _ _ us hl => match us, hl with | [_, _, _, _], _ => rfl
  have o_l_passed : CalOk l.prog w K mg base ct0 2 c_l_passed := cal_ok ⟨rfl, rfl⟩ (k := 1) F26 T (PySem.W.mg_of X G a26) b26 sc_l_passed rfl rfl rfl m_l_passed (by decide +kernel) (fun _ h => h) rfl (List.forall_mem_cons.mpr ⟨o_l_top.mono (by decide), List.forall_mem_cons.mpr ⟨o_l_no_less.mono (by decide), List.forall_mem_cons.mpr ⟨o_l_shifted.mono (by decide), List.forall_mem_cons.mpr ⟨o_l_fits.mono (by decide), (fun _ h => nomatch h)⟩⟩⟩⟩)
  have b27 := F27.binds (ps := ["_law_mill", "_law_contents", "_law_turn", "_law_wheel"]) fun _ _ _ _ _ _ us hl => match us, hl with | [_, _, _, _], _ => rfl
  have o_l_can_turn : CalOk l.prog w K mg base ct0 2 c_l_can_turn := cal_ok ⟨rfl, rfl⟩ (k := 1) F27 T (PySem.W.mg_of X G a27) b27 sc_l_can_turn rfl rfl rfl m_l_can_turn (by decide +kernel) (fun _ h => h) rfl (List.forall_mem_cons.mpr ⟨o_l_top.mono (by decide), List.forall_mem_cons.mpr ⟨o_l_no_less.mono (by decide), List.forall_mem_cons.mpr ⟨o_l_fits.mono (by decide), List.forall_mem_cons.mpr ⟨o_l_shifted.mono (by decide), (fun _ h => nomatch h)⟩⟩⟩⟩)
  have b28 := F28.binds (ps := ["_law_mill", "_law_state"]) fun _ _ _ _ _ _ us hl => match us, hl with | [_, _], _ => rfl
  have o_l_is_state : CalOk l.prog w K mg base ct0 2 c_l_is_state := cal_ok ⟨rfl, rfl⟩ (k := 1) F28 T (PySem.W.mg_of X G a28) b28 sc_l_is_state rfl rfl rfl m_l_is_state (by decide +kernel) (fun _ h => h) rfl (List.forall_mem_cons.mpr ⟨o_l_is_truths.mono (by decide), List.forall_mem_cons.mpr ⟨o_l_whole.mono (by decide), (fun _ h => nomatch h)⟩⟩)
  have b29 := F29.binds (ps := ["pond", "content"]) fun _ _ _ _ _ _ us hl => match us, hl with | [_, _], _ => rfl
  have o_level : CalOk l.prog w K mg base ct0 3 c_level := cal_ok ⟨rfl, rfl⟩ (k := 2) F29 T (PySem.W.mg_of X G a29) b29 sc_level rfl rfl rfl m_level (by decide +kernel) (fun _ h => h) rfl (List.forall_mem_cons.mpr ⟨o_fraction.mono (by decide), (fun _ h => nomatch h)⟩)
  have b30 := F30.binds (ps := ["_law_cell", "_law_gates", "_law_wheels"]) fun _ _ _ _ _ _ us hl => match us, hl with | [_, _, _], _ => rfl
  have o_l_a_mill : CalOk l.prog w K mg base ct0 3 c_l_a_mill := cal_ok ⟨rfl, rfl⟩ (k := 2) F30 T (PySem.W.mg_of X G a30) b30 sc_l_a_mill rfl rfl rfl m_l_a_mill (by decide +kernel) (fun _ h => h) rfl (List.forall_mem_cons.mpr ⟨o_l_pick.mono (by decide), List.forall_mem_cons.mpr ⟨o_l_unlike_side.mono (by decide), List.forall_mem_cons.mpr ⟨o_l_some_ponds.mono (by decide), (fun _ h => nomatch h)⟩⟩⟩)
  have b31 := F31.binds (ps := ["_law_mill", "_law_contents", "_law_turn", "_law_setting", "_law_running"]) fun _ _ _ _ _ _ us hl => match us, hl with | [_, _, _, _, _], _ => rfl
  have o_l_turned : CalOk l.prog w K mg base ct0 3 c_l_turned := cal_ok ⟨rfl, rfl⟩ (k := 2) F31 T (PySem.W.mg_of X G a31) b31 sc_l_turned rfl rfl rfl m_l_turned (by decide +kernel) (fun _ h => h) rfl (List.forall_mem_cons.mpr ⟨o_l_passed.mono (by decide), List.forall_mem_cons.mpr ⟨o_l_shifted.mono (by decide), List.forall_mem_cons.mpr ⟨o_l_can_turn.mono (by decide), (fun _ h => nomatch h)⟩⟩⟩)
  have b32 := F32.binds (ps := ["_law_mill", "_law_script"]) fun _ _ _ _ _ _ us hl => match us, hl with | [_, _], _ => rfl
  have o_l_a_layer : CalOk l.prog w K mg base ct0 3 c_l_a_layer := cal_ok ⟨rfl, rfl⟩ (k := 2) F32 T (PySem.W.mg_of X G a32) b32 sc_l_a_layer rfl rfl rfl m_l_a_layer (by decide +kernel) (fun _ h => h) rfl (List.forall_mem_cons.mpr ⟨o_l_pick.mono (by decide), List.forall_mem_cons.mpr ⟨o_l_cell_at.mono (by decide), List.forall_mem_cons.mpr ⟨o_l_some_contents.mono (by decide), List.forall_mem_cons.mpr ⟨o_l_truths.mono (by decide), (fun _ h => nomatch h)⟩⟩⟩⟩)
  have b33 := F33.binds (ps := ["mill", "contents", "side", "turn"]) fun _ _ _ _ _ _ us hl => match us, hl with | [_, _, _, _], _ => rfl
  have o_side_level : CalOk l.prog w K mg base ct0 4 c_side_level := cal_ok ⟨rfl, rfl⟩ (k := 3) F33 T (PySem.W.mg_of X G a33) b33 sc_side_level rfl rfl rfl m_side_level (by decide +kernel) (fun _ h => h) rfl (List.forall_mem_cons.mpr ⟨o_sea_at.mono (by decide), List.forall_mem_cons.mpr ⟨o_level.mono (by decide), (fun _ h => nomatch h)⟩⟩)
  have b34 := F34.binds (ps := ["_law_mill", "_law_turn", "_law_layer_here"]) fun _ _ _ _ _ _ us hl => match us, hl with | [_, _, _], _ => rfl
  have o_l_layer : CalOk l.prog w K mg base ct0 4 c_l_layer := cal_ok ⟨rfl, rfl⟩ (k := 3) F34 T (PySem.W.mg_of X G a34) b34 sc_l_layer rfl rfl rfl m_l_layer (by decide +kernel) (fun _ h => h) rfl (List.forall_mem_cons.mpr ⟨o_l_ways.mono (by decide), List.forall_mem_cons.mpr ⟨o_l_turned.mono (by decide), List.forall_mem_cons.mpr ⟨o_l_unlike.mono (by decide), (fun _ h => nomatch h)⟩⟩⟩)
  have b35 := F35.binds (ps := ["mill", "contents", "one", "other", "turn"]) fun _ _ _ _ _ _ us hl => match us, hl with | [_, _, _, _, _], _ => rfl
  have o_fall_of : CalOk l.prog w K mg base ct0 5 c_fall_of := cal_ok ⟨rfl, rfl⟩ (k := 4) F35 T (PySem.W.mg_of X G a35) b35 sc_fall_of rfl rfl rfl m_fall_of (by decide +kernel) (fun _ h => h) rfl (List.forall_mem_cons.mpr ⟨o_side_level.mono (by decide), List.forall_mem_cons.mpr ⟨o_fraction.mono (by decide), (fun _ h => nomatch h)⟩⟩)
  have b36 := F36.binds (ps := ["mill", "contents", "giving", "taking", "turn"]) fun _ _ _ _ _ _ us hl => match us, hl with | [_, _, _, _, _], _ => rfl
  have o_until_even : CalOk l.prog w K mg base ct0 5 c_until_even := cal_ok ⟨rfl, rfl⟩ (k := 4) F36 T (PySem.W.mg_of X G a36) b36 sc_until_even rfl rfl rfl m_until_even (by decide +kernel) (fun _ h => h) rfl (List.forall_mem_cons.mpr ⟨o_taken_below.mono (by decide), List.forall_mem_cons.mpr ⟨o_side_level.mono (by decide), List.forall_mem_cons.mpr ⟨o_given_above.mono (by decide), (fun _ h => nomatch h)⟩⟩⟩)
  have b37 := F37.binds (ps := ["mill", "contents", "turn", "gate"]) fun _ _ _ _ _ _ us hl => match us, hl with | [_, _, _, _], _ => rfl
  have o_passing : CalOk l.prog w K mg base ct0 6 c_passing := cal_ok ⟨rfl, rfl⟩ (k := 5) F37 T (PySem.W.mg_of X G a37) b37 sc_passing rfl rfl rfl m_passing (by decide +kernel) (fun _ h => h) rfl (List.forall_mem_cons.mpr ⟨o_fall_of.mono (by decide), List.forall_mem_cons.mpr ⟨o_side_level.mono (by decide), List.forall_mem_cons.mpr ⟨o_at_least.mono (by decide), List.forall_mem_cons.mpr ⟨o_until_even.mono (by decide), List.forall_mem_cons.mpr ⟨o_given_above.mono (by decide), List.forall_mem_cons.mpr ⟨o_holds.mono (by decide), (fun _ h => nomatch h)⟩⟩⟩⟩⟩⟩)
  have b38 := F38.binds (ps := ["mill", "contents", "turn", "wheel"]) fun _ _ _ _ _ _ us hl => match us, hl with | [_, _, _, _], _ => rfl
  have o_can_turn : CalOk l.prog w K mg base ct0 6 c_can_turn := cal_ok ⟨rfl, rfl⟩ (k := 5) F38 T (PySem.W.mg_of X G a38) b38 sc_can_turn rfl rfl rfl m_can_turn (by decide +kernel) (fun _ h => h) rfl (List.forall_mem_cons.mpr ⟨o_at_least.mono (by decide), List.forall_mem_cons.mpr ⟨o_fall_of.mono (by decide), List.forall_mem_cons.mpr ⟨o_holds.mono (by decide), (fun _ h => nomatch h)⟩⟩⟩)
  have b39 := F39.binds (ps := ["mill", "contents", "turn", "setting"]) fun _ _ _ _ _ _ us hl => match us, hl with | [_, _, _, _], _ => rfl
  have o_gates_done : CalOk l.prog w K mg base ct0 7 c_gates_done := cal_ok ⟨rfl, rfl⟩ (k := 6) F39 T (PySem.W.mg_of X G a39) b39 sc_gates_done rfl rfl rfl m_gates_done (by decide +kernel) (fun _ h => h) rfl (List.forall_mem_cons.mpr ⟨o_passing.mono (by decide), List.forall_mem_cons.mpr ⟨o_shifted.mono (by decide), (fun _ h => nomatch h)⟩⟩)
  have b40 := F40.binds (ps := ["mill", "contents", "turn", "setting", "running"]) fun _ _ _ _ _ _ us hl => match us, hl with | [_, _, _, _, _], _ => rfl
  have o_turned : CalOk l.prog w K mg base ct0 8 c_turned := cal_ok ⟨rfl, rfl⟩ (k := 7) F40 T (PySem.W.mg_of X G a40) b40 sc_turned rfl rfl rfl m_turned (by decide +kernel) (fun _ h => h) rfl (List.forall_mem_cons.mpr ⟨o_gates_done.mono (by decide), List.forall_mem_cons.mpr ⟨o_can_turn.mono (by decide), List.forall_mem_cons.mpr ⟨o_shifted.mono (by decide), (fun _ h => nomatch h)⟩⟩⟩)
  have b41 := F41.binds (ps := ["mill", "turn", "layer"]) fun _ _ _ _ _ _ us hl => match us, hl with | [_, _, _], _ => rfl
  have o_next_layer : CalOk l.prog w K mg base ct0 9 c_next_layer := cal_ok ⟨rfl, rfl⟩ (k := 8) F41 T (PySem.W.mg_of X G a41) b41 sc_next_layer rfl rfl rfl m_next_layer (by decide +kernel) (fun _ h => h) rfl (List.forall_mem_cons.mpr ⟨o_choices.mono (by decide), List.forall_mem_cons.mpr ⟨o_turned.mono (by decide), List.forall_mem_cons.mpr ⟨o_gates_moved.mono (by decide), (fun _ h => nomatch h)⟩⟩⟩)
  exact law_ok ⟨rfl, rfl⟩ (k := 9) (c := c_law) F42 T sc_law rfl rfl m_law (by decide +kernel) (fun _ h => h) rfl (List.forall_mem_cons.mpr ⟨o_l_a_mill.mono (by decide), List.forall_mem_cons.mpr ⟨o_l_cell_at.mono (by decide), List.forall_mem_cons.mpr ⟨o_l_pick.mono (by decide), List.forall_mem_cons.mpr ⟨o_l_a_layer.mono (by decide), List.forall_mem_cons.mpr ⟨o_l_layer.mono (by decide), List.forall_mem_cons.mpr ⟨o_next_layer.mono (by decide), List.forall_mem_cons.mpr ⟨o_l_is_state.mono (by decide), (fun _ h => nomatch h)⟩⟩⟩⟩⟩⟩⟩)
end
end T60
open PySem PySem.W PyProof.Rows in
set_option maxRecDepth 100000 in
set_option maxHeartbeats 0 in
theorem PySem.Challenge.cw_tidepond_k60_next_layer_holds : PySem.Challenge.rw_tidepond_k60_next_layer.Holds := by
  w_on; o_law; k_head; (case hw => w_witness2)
  k_fill
  refine Rf.walk_rf (l := PySem.Challenge.rw_tidepond_k60_next_layer) (n := 63) (k := 10) (x := "_law_script") (ct := T60.ct0) (c := T60.c_law) rfl (by decide) rfl ⟨rfl, by decide, by decide⟩ rfl rfl T60.plain (fun w h Y => PySem.W.kIn_of Y) ?F
  case F =>
    intro w mg fa h KX G hmg
    refine' T60.facts KX G hmg ?a1 ?l1 ?c1 ?k1 ?a2 ?l2 ?c2 ?k2 ?a3 ?l3 ?c3 ?k3 ?a4 ?l4 ?c4 ?k4 ?a5 ?l5 ?c5 ?k5 ?a6 ?l6 ?c6 ?k6 ?a7 ?l7 ?c7 ?k7 ?a8 ?l8 ?c8 ?k8 ?a9 ?l9 ?c9 ?k9 ?a10 ?l10 ?c10 ?k10 ?a11 ?l11 ?c11 ?k11 ?a12 ?l12 ?c12 ?k12 ?a13 ?l13 ?c13 ?k13 ?a14 ?l14 ?c14 ?k14 ?a15 ?l15 ?c15 ?k15 ?a16 ?l16 ?c16 ?k16 ?a17 ?l17 ?c17 ?k17 ?a18 ?l18 ?c18 ?k18 ?a19 ?l19 ?c19 ?k19 ?a20 ?l20 ?c20 ?k20 ?a21 ?l21 ?c21 ?k21 ?a22 ?l22 ?c22 ?k22 ?a23 ?l23 ?c23 ?k23 ?a24 ?l24 ?c24 ?k24 ?a25 ?l25 ?c25 ?k25 ?a26 ?l26 ?c26 ?k26 ?a27 ?l27 ?c27 ?k27 ?a28 ?l28 ?c28 ?k28 ?a29 ?l29 ?c29 ?k29 ?a30 ?l30 ?c30 ?k30 ?a31 ?l31 ?c31 ?k31 ?a32 ?l32 ?c32 ?k32 ?a33 ?l33 ?c33 ?k33 ?a34 ?l34 ?c34 ?k34 ?a35 ?l35 ?c35 ?k35 ?a36 ?l36 ?c36 ?k36 ?a37 ?l37 ?c37 ?k37 ?a38 ?l38 ?c38 ?k38 ?a39 ?l39 ?c39 ?k39 ?a40 ?l40 ?c40 ?k40 ?a41 ?l41 ?c41 ?k41 ?a42 ?l42 ?c42 ?k42 ?z1 ?z2 ?z3 ?z4 ?z5 ?z6 ?z7 ?z8 ?z9 ?z10 ?z11 ?z12
    (case a1 => k_is)
    (case l1 => k_is)
    (case c1 => k_is)
    (case k1 => k_is)
    (case a2 => k_is)
    (case l2 => k_is)
    (case c2 => k_is)
    (case k2 => k_is)
    (case a3 => k_is)
    (case l3 => k_is)
    (case c3 => k_is)
    (case k3 => k_is)
    (case a4 => k_is)
    (case l4 => k_is)
    (case c4 => k_is)
    (case k4 => k_is)
    (case a5 => k_is)
    (case l5 => k_is)
    (case c5 => k_is)
    (case k5 => k_is)
    (case a6 => k_is)
    (case l6 => k_is)
    (case c6 => k_is)
    (case k6 => k_is)
    (case a7 => k_is)
    (case l7 => k_is)
    (case c7 => k_is)
    (case k7 => k_is)
    (case a8 => k_is)
    (case l8 => k_is)
    (case c8 => k_is)
    (case k8 => k_is)
    (case a9 => k_is)
    (case l9 => k_is)
    (case c9 => k_is)
    (case k9 => k_is)
    (case a10 => k_is)
    (case l10 => k_is)
    (case c10 => k_is)
    (case k10 => k_is)
    (case a11 => k_is)
    (case l11 => k_is)
    (case c11 => k_is)
    (case k11 => k_is)
    (case a12 => k_is)
    (case l12 => k_is)
    (case c12 => k_is)
    (case k12 => k_is)
    (case a13 => k_is)
    (case l13 => k_is)
    (case c13 => k_is)
    (case k13 => k_is)
    (case a14 => k_is)
    (case l14 => k_is)
    (case c14 => k_is)
    (case k14 => k_is)
    (case a15 => k_is)
    (case l15 => k_is)
    (case c15 => k_is)
    (case k15 => k_is)
    (case a16 => k_is)
    (case l16 => k_is)
    (case c16 => k_is)
    (case k16 => k_is)
    (case a17 => k_is)
    (case l17 => k_is)
    (case c17 => k_is)
    (case k17 => k_is)
    (case a18 => k_is)
    (case l18 => k_is)
    (case c18 => k_is)
    (case k18 => k_is)
    (case a19 => k_is)
    (case l19 => k_is)
    (case c19 => k_is)
    (case k19 => k_is)
    (case a20 => k_is)
    (case l20 => k_is)
    (case c20 => k_is)
    (case k20 => k_is)
    (case a21 => k_is)
    (case l21 => k_is)
    (case c21 => k_is)
    (case k21 => k_is)
    (case a22 => k_is)
    (case l22 => k_is)
    (case c22 => k_is)
    (case k22 => k_is)
    (case a23 => k_is)
    (case l23 => k_is)
    (case c23 => k_is)
    (case k23 => k_is)
    (case a24 => k_is)
    (case l24 => k_is)
    (case c24 => k_is)
    (case k24 => k_is)
    (case a25 => k_is)
    (case l25 => k_is)
    (case c25 => k_is)
    (case k25 => k_is)
    (case a26 => k_is)
    (case l26 => k_is)
    (case c26 => k_is)
    (case k26 => k_is)
    (case a27 => k_is)
    (case l27 => k_is)
    (case c27 => k_is)
    (case k27 => k_is)
    (case a28 => k_is)
    (case l28 => k_is)
    (case c28 => k_is)
    (case k28 => k_is)
    (case a29 => k_is)
    (case l29 => k_is)
    (case c29 => k_is)
    (case k29 => k_is)
    (case a30 => k_is)
    (case l30 => k_is)
    (case c30 => k_is)
    (case k30 => k_is)
    (case a31 => k_is)
    (case l31 => k_is)
    (case c31 => k_is)
    (case k31 => k_is)
    (case a32 => k_is)
    (case l32 => k_is)
    (case c32 => k_is)
    (case k32 => k_is)
    (case a33 => k_is)
    (case l33 => k_is)
    (case c33 => k_is)
    (case k33 => k_is)
    (case a34 => k_is)
    (case l34 => k_is)
    (case c34 => k_is)
    (case k34 => k_is)
    (case a35 => k_is)
    (case l35 => k_is)
    (case c35 => k_is)
    (case k35 => k_is)
    (case a36 => k_is)
    (case l36 => k_is)
    (case c36 => k_is)
    (case k36 => k_is)
    (case a37 => k_is)
    (case l37 => k_is)
    (case c37 => k_is)
    (case k37 => k_is)
    (case a38 => k_is)
    (case l38 => k_is)
    (case c38 => k_is)
    (case k38 => k_is)
    (case a39 => k_is)
    (case l39 => k_is)
    (case c39 => k_is)
    (case k39 => k_is)
    (case a40 => k_is)
    (case l40 => k_is)
    (case c40 => k_is)
    (case k40 => k_is)
    (case a41 => k_is)
    (case l41 => k_is)
    (case c41 => k_is)
    (case k41 => k_is)
    (case a42 => k_is)
    (case l42 => k_is)
    (case c42 => k_is)
    (case k42 => k_is)
    (case z1 => k_is)
    (case z2 => k_is)
    (case z3 => k_is)
    (case z4 => k_is)
    (case z5 => k_is)
    (case z6 => k_is)
    (case z7 => k_is)
    (case z8 => k_is)
    (case z9 => k_is)
    (case z10 => k_is)
    (case z11 => k_is)
    (case z12 => k_is)
