import PyProof.Rows.All
import Wide.All
import OpenK.AllK
import Wide.FinOn
import HandS.ForMost
import HandS.ForExc
import HandS.IsInst
import HandS.Wide
import HandS.WideBits
import HandS.TupAny
import HandS.TupMul
import HandS.Deep
import HandS.Zip
import HandS.Conv
import HandS.NoneIn
import HandS.Walk
import HandS.SetFor
import KE.GoesEnum
import HandS.EndBits
import PyProof.Rows.RegStrFacts
import PySem.Challenge.RW_sackloads_k63_bounds_of_two_prices
set_option Elab.async false
set_option linter.all false
set_option maxRecDepth 100000
set_option maxHeartbeats 1000000
set_option autoImplicit false
/-! FA: the functional layer, part A: data, slots, what represents them. -/
namespace FL
open PySem PySem.Spec L2

abbrev D := PyData
abbrev Frag := PySem.W.Frag

/-! ### data in an abstract heap that only grows -/
mutual
inductive Rp (K : Frag) (F : Hp) : V → D → Prop
  | non : Rp K F .non .none
  | bl (b : Bool) : Rp K F (.bl b) (.bool b)
  | int (i : Int) : Rp K F (.int i) (.int i)
  | str (x : Str) : Rp K F (.str x) (.str x)
  | lst {a : Addr} {vs : List V} {ds : List D} : F a = some (.lst vs) → RpAll K F vs ds → Rp K F (.ref a) (.list ds)
  | tup {a : Addr} {vs : List V} {ds : List D} : SqT K F a vs → RpAll K F vs ds → Rp K F (.ref a) (.tuple ds)
inductive RpAll (K : Frag) (F : Hp) : List V → List D → Prop
  | nil : RpAll K F [] []
  | cons {v : V} {vs : List V} {d : D} {ds : List D} : Rp K F v d → RpAll K F vs ds → RpAll K F (v :: vs) (d :: ds)
end

theorem sqT_same {K : Frag} {F F' : Hp} {a : Addr} {xs : List V} (e : Same F F') (h : SqT K F a xs) : SqT K F' a xs := by
  rcases h with (h | ⟨o, h⟩) | h
  · exact .inl (.inl (e _ _ h))
  · exact .inl (.inr ⟨o, e _ _ h⟩)
  · exact .inr h

section
variable {K : Frag} {F F' : Hp}
mutual
theorem Rp.mono (e : Same F F') : ∀ {d : D} {v : V}, Rp K F v d → Rp K F' v d
  | .none, _, h => by cases h; exact .non
  | .bool b, _, h => by cases h; exact .bl b
  | .int i, _, h => by cases h; exact .int i
  | .str x, _, h => by cases h; exact .str x
  | .list ds, _, h => by
    cases h with
    | lst h1 h2 => exact .lst (e _ _ h1) (RpAll.mono e h2)
  | .tuple ds, _, h => by
    cases h with
    | tup h1 h2 => exact .tup (sqT_same e h1) (RpAll.mono e h2)
  | .dict _, _, h => by cases h
theorem RpAll.mono (e : Same F F') : ∀ {ds : List D} {vs : List V}, RpAll K F vs ds → RpAll K F' vs ds
  | [], _, h => by cases h; exact .nil
  | d :: ds, _, h => by
    cases h with
    | cons h1 h2 => exact .cons (Rp.mono e h1) (RpAll.mono e h2)
end
mutual
theorem Rp.dp : ∀ {d : D} {v : V}, Rp K F v d → Dp K F v d
  | .none, _, h => by cases h; exact .non
  | .bool b, _, h => by cases h; exact .bl b
  | .int i, _, h => by cases h; exact .int i
  | .str x, _, h => by cases h; exact .str x
  | .list ds, _, h => by
    cases h with
    | lst h1 h2 => exact .lst (SqL.of h1) (RpAll.dp h2)
  | .tuple ds, _, h => by
    cases h with
    | tup h1 h2 => exact .tup h1 (RpAll.dp h2)
  | .dict _, _, h => by cases h
theorem RpAll.dp : ∀ {ds : List D} {vs : List V}, RpAll K F vs ds → DpAll K F vs ds
  | [], _, h => by cases h; exact .nil
  | d :: ds, _, h => by
    cases h with
    | cons h1 h2 => exact .cons (Rp.dp h1) (RpAll.dp h2)
end

theorem RpAll.len : ∀ {ds : List D} {vs : List V}, RpAll K F vs ds → vs.length = ds.length
  | [], _, h => by cases h; rfl
  | d :: ds, _, h => by
    cases h with
    | cons h1 h2 => simp only [List.length_cons, RpAll.len h2]
theorem RpAll.app : ∀ {ds : List D} {vs : List V} {es : List D} {us : List V}, RpAll K F vs ds → RpAll K F us es → RpAll K F (vs ++ us) (ds ++ es)
  | [], _, _, _, h, k => by cases h; exact k
  | d :: ds, _, _, _, h, k => by
    cases h with
    | cons h1 h2 => exact .cons h1 (RpAll.app h2 k)
theorem RpAll.one {v : V} {d : D} (h : Rp K F v d) : RpAll K F [v] [d] := .cons h .nil
theorem RpAll.at : ∀ {ds : List D} {vs : List V} {i : Nat} {d : D}, RpAll K F vs ds → ds[i]? = some d → ∃ v, vs[i]? = some v ∧ Rp K F v d
  | [], _, _, _, h, e => by simp at e
  | d :: ds, _, 0, _, h, e => by
    cases h with
    | cons h1 h2 => simp at e; subst e; exact ⟨_, rfl, h1⟩
  | d :: ds, _, i + 1, d', h, e => by
    cases h with
    | cons h1 h2 =>
      obtain ⟨v, e1, r⟩ := RpAll.at (i := i) h2 (by simpa using e)
      exact ⟨v, by simpa using e1, r⟩
theorem RpAll.atV : ∀ {ds : List D} {vs : List V} {i : Nat} {v : V}, RpAll K F vs ds → vs[i]? = some v → ∃ d, ds[i]? = some d ∧ Rp K F v d
  | [], _, _, _, h, e => by cases h; simp at e
  | d :: ds, _, 0, _, h, e => by
    cases h with
    | cons h1 h2 => simp at e; subst e; exact ⟨_, rfl, h1⟩
  | d :: ds, _, i + 1, d', h, e => by
    cases h with
    | cons h1 h2 =>
      obtain ⟨v, e1, r⟩ := RpAll.atV (i := i) h2 (by simpa using e)
      exact ⟨v, by simpa using e1, r⟩
theorem RpAll.set {v : V} {d : D} (h : Rp K F v d) : ∀ {ds : List D} {vs : List V} (i : Nat), RpAll K F vs ds → RpAll K F (vs.set i v) (ds.set i d)
  | [], _, _, h => by cases h; exact .nil
  | d :: ds, _, 0, h => by
    cases h with
    | cons h1 h2 => exact .cons ‹_› h2
  | d :: ds, _, i + 1, h => by
    cases h with
    | cons h1 h2 => exact .cons h1 (RpAll.set ‹_› i h2)
theorem RpAll.take : ∀ {ds : List D} {vs : List V} (n : Nat), RpAll K F vs ds → RpAll K F (vs.take n) (ds.take n)
  | _, _, 0, _ => .nil
  | [], _, n + 1, h => by cases h; exact .nil
  | d :: ds, _, n + 1, h => by
    cases h with
    | cons h1 h2 => exact .cons h1 (RpAll.take n h2)
theorem RpAll.drop : ∀ {ds : List D} {vs : List V} (n : Nat), RpAll K F vs ds → RpAll K F (vs.drop n) (ds.drop n)
  | _, _, 0, h => h
  | [], _, n + 1, h => by cases h; exact .nil
  | d :: ds, _, n + 1, h => by
    cases h with
    | cons h1 h2 => exact RpAll.drop n h2
theorem RpAll.erase : ∀ {ds : List D} {vs : List V} (n : Nat), RpAll K F vs ds → RpAll K F (vs.eraseIdx n) (ds.eraseIdx n)
  | [], _, _, h => by cases h; exact .nil
  | d :: ds, _, 0, h => by
    cases h with
    | cons h1 h2 => exact h2
  | d :: ds, _, n + 1, h => by
    cases h with
    | cons h1 h2 => exact .cons h1 (RpAll.erase n h2)
theorem RpAll.ints : ∀ {ns : List Int} {vs : List V}, RpAll K F vs (ns.map .int) → vs = ns.map V.int
  | [], _, h => by cases h; rfl
  | n :: ns, _, h => by
    cases h with
    | cons h1 h2 =>
      cases h1
      rw [RpAll.ints h2]
      rfl
theorem RpAll.bools : ∀ {ns : List Bool} {vs : List V}, RpAll K F vs (ns.map .bool) → vs = ns.map V.bl
  | [], _, h => by cases h; rfl
  | n :: ns, _, h => by
    cases h with
    | cons h1 h2 =>
      cases h1
      rw [RpAll.bools h2]
      rfl
theorem RpAll.strs : ∀ {ns : List Str} {vs : List V}, RpAll K F vs (ns.map .str) → vs = ns.map V.str
  | [], _, h => by cases h; rfl
  | n :: ns, _, h => by
    cases h with
    | cons h1 h2 =>
      cases h1
      rw [RpAll.strs h2]
      rfl
theorem RpAll.ofInts : ∀ (ns : List Int), RpAll K F (ns.map V.int) (ns.map .int)
  | [] => .nil
  | n :: ns => .cons (.int n) (RpAll.ofInts ns)
end

/-! ### the value a data read, decided -/
def isNone : D → Bool
  | .none => true
  | _ => false
theorem Rp.none_iff {K : Frag} {F : Hp} {v : V} {d : D} (h : Rp K F v d) : decide (v = .non) = isNone d := by
  cases h <;> simp [isNone]

/-! ### growing -/
/-- F grows to F', not within G -/
structure Adv (G F F' : Hp) : Prop where
  same : Same F F'
  out : ∀ a, G a ≠ none → F' a = F a
theorem Adv.refl (G F : Hp) : Adv G F F := ⟨Same.refl F, fun _ _ => rfl⟩
theorem Adv.trans {G F F1 F2 : Hp} (a : Adv G F F1) (b : Adv G F1 F2) : Adv G F F2 := ⟨a.same.trans b.same, fun x h => (b.out x h).trans (a.out x h)⟩
theorem same_upd' {F : Hp} {p : Addr} {o : HO} (h : F p = none) : Same F (upd F p o) := fun b x e => by
  rw [upd_ne (ne_of_none e h)]
  exact e
theorem Adv.new {G F : Hp} {p : Addr} {o : HO} (hF : F p = none) (hG : G p = none) : Adv G F (upd F p o) :=
  ⟨same_upd' hF, fun a h => upd_ne fun z => h (by rw [z]; exact hG)⟩
theorem same_upd2 {F H : Hp} {p : Addr} {o : HO} (e : Same F H) : Same (upd F p o) (upd H p o) := fun b x q => by
  by_cases hb : b = p
  · subst hb; rw [upd_same] at q ⊢; exact q
  · rw [upd_ne hb] at q ⊢; exact e _ _ q
theorem same_upd1 {F H : Hp} {p : Addr} {o : HO} (e : Same F H) (h : F p = none) : Same F (upd H p o) := fun b x q => by
  rw [upd_ne (ne_of_none q h)]; exact e _ _ q

/-! ### slots -/
inductive Sl where
  /-- frozen data -/
  | fz (d : D)
  /-- a list of one's own, that of a caller's name, one that is walked -/
  | ow (xs : List D) | io (xs : List D) | lk (xs : List D)
  /-- the script -/
  | scr (ns : List Int)
abbrev Ga := List (Option Sl)

/-- a list object apart: not frozen, not to be kept -/
def Own (K : Frag) (G F H : Hp) (a : Addr) (xs : List D) : Prop := ∃ vs, H a = some (.lst vs) ∧ RpAll K F vs xs ∧ F a = none ∧ G a = none
/-- a list that no code writes: the script -/
def SqS (K : Frag) (F : Hp) (a : Addr) (xs : List V) : Prop := (∃ o, F a = some (.frz o (.lst xs))) ∨ SqL K (fun _ => none) a xs
theorem SqS.l {K : Frag} {F : Hp} {a : Addr} {xs : List V} (h : SqS K F a xs) : SqL K F a xs := by
  rcases h with ⟨o, h⟩ | h
  · exact .inl (.inr ⟨o, h⟩)
  · exact Same.seq (fun _ _ z => by cases z) h
theorem SqS.mono {K : Frag} {F F' : Hp} {a : Addr} {xs : List V} (e : Same F F') (h : SqS K F a xs) : SqS K F' a xs := by
  rcases h with ⟨o, h⟩ | h
  · exact .inl ⟨o, e _ _ h⟩
  · exact .inr h
def SlR (K : Frag) (G F H : Hp) (v : V) : Sl → Prop
  | .fz d => Rp K F v d
  | .ow xs => ∃ a, v = .ref a ∧ Own K G F H a xs
  | .io xs => ∃ a, v = .ref a ∧ Own K G F H a xs
  | .lk xs => ∃ a vs, v = .ref a ∧ G a = some (.lst vs) ∧ RpAll K F vs xs ∧ F a = none
  | .scr ns => ∃ a, v = .ref a ∧ SqS K F a (ns.map V.int)
def Sl.owned : Sl → Bool
  | .ow _ => true
  | .io _ => true
  | .lk _ => true
  | _ => false
def Sl.pinned : Sl → Bool
  | .io _ => true
  | .lk _ => true
  | _ => false

theorem sqL_same {K : Frag} {F F' : Hp} {a : Addr} {xs : List V} (e : Same F F') (h : SqL K F a xs) : SqL K F' a xs := e.seq h

structure Rep (K : Frag) (G : Hp) (pn : List (Nat × Addr)) (Γ : Ga) (σ : St) (F H : Hp) : Prop where
  fh : Same F H
  gh : Same G H
  sl : ∀ (i : Nat) (s : Sl), Γ[i]? = some (some s) → ∃ v, σ[i]? = some (some v) ∧ SlR K G F H v s
  ap : ∀ (i j : Nat) (si sj : Sl) (a : Addr), Γ[i]? = some (some si) → Γ[j]? = some (some sj) → si.owned = true → sj.owned = true → σ[i]? = some (some (.ref a)) → σ[j]? = some (some (.ref a)) → i = j
  lkp : ∀ (i : Nat) (zs : List D), Γ[i]? = some (some (.lk zs)) → ∃ a, (i, a) ∈ pn
  pn : ∀ p, p ∈ pn → σ[p.1]? = some (some (.ref p.2)) ∧ ∃ s, Γ[p.1]? = some (some s) ∧ s.pinned = true
  len : Γ.length = σ.length

section
variable {K : Frag} {G : Hp} {pn : List (Nat × Addr)} {Γ : Ga} {σ : St} {F F' H H' : Hp}

theorem Own.frz {a : Addr} {xs : List D} (h : Own K G F H a xs) : ∃ vs, H a = some (.lst vs) ∧ RpAll K F vs xs := let ⟨vs, h1, h2, _⟩ := h; ⟨vs, h1, h2⟩
/-- the heap grows, what is frozen may too -/
theorem SlR.grow {v : V} {s : Sl} (h : SlR K G F H v s) (hF : Adv G F F') (hH : Same H H') (fr : ∀ (a : Addr), v = .ref a → s.owned = true → F' a = F a) : SlR K G F' H' v s := by
  cases s with
  | fz d => exact Rp.mono hF.same h
  | ow xs =>
    obtain ⟨a, rfl, vs, h1, h2, h3, h4⟩ := h
    exact ⟨a, rfl, vs, hH _ _ h1, RpAll.mono hF.same h2, by rw [fr a rfl rfl]; exact h3, h4⟩
  | io xs =>
    obtain ⟨a, rfl, vs, h1, h2, h3, h4⟩ := h
    exact ⟨a, rfl, vs, hH _ _ h1, RpAll.mono hF.same h2, by rw [fr a rfl rfl]; exact h3, h4⟩
  | lk xs =>
    obtain ⟨a, vs, rfl, h1, h2, h3⟩ := h
    exact ⟨a, vs, rfl, h1, RpAll.mono hF.same h2, by rw [fr a rfl rfl]; exact h3⟩
  | scr ns =>
    obtain ⟨a, rfl, h1⟩ := h
    exact ⟨a, rfl, h1.mono hF.same⟩
/-- an owned slot's object is known to the heap -/
theorem SlR.there {v : V} {s : Sl} (h : SlR K G F H v s) (gh : Same G H) (o : s.owned = true) : ∃ a vs, v = .ref a ∧ H a = some (.lst vs) ∧ F a = none := by
  cases s with
  | fz d => cases o
  | ow xs =>
    obtain ⟨a, rfl, vs, h1, h2, h3, h4⟩ := h
    exact ⟨a, vs, rfl, h1, h3⟩
  | io xs =>
    obtain ⟨a, rfl, vs, h1, h2, h3, h4⟩ := h
    exact ⟨a, vs, rfl, h1, h3⟩
  | lk xs =>
    obtain ⟨a, vs, rfl, h1, h2, h3⟩ := h
    exact ⟨a, vs, rfl, gh _ _ h1, h3⟩
  | scr ns => cases o
/-- a new object is laid, frozen or not -/
theorem Rep.new {p : Addr} {o : HO} (R : Rep K G pn Γ σ F H) (hp : H p = none) : Rep K G pn Γ σ F (upd H p o) where
  fh := same_upd1 R.fh (R.fh.free hp)
  gh := same_upd1 R.gh (R.gh.free hp)
  sl := fun i s e => by
    obtain ⟨v, e1, h⟩ := R.sl i s e
    exact ⟨v, e1, h.grow (Adv.refl G F) (same_upd' hp) fun _ _ _ => rfl⟩
  ap := R.ap
  pn := R.pn
  len := R.len
  lkp := R.lkp
theorem Rep.newF {p : Addr} {o : HO} (R : Rep K G pn Γ σ F H) (hp : H p = none) : Rep K G pn Γ σ (upd F p o) (upd H p o) where
  fh := same_upd2 R.fh
  gh := same_upd1 R.gh (R.gh.free hp)
  sl := fun i s e => by
    obtain ⟨v, e1, h⟩ := R.sl i s e
    refine ⟨v, e1, h.grow (Adv.new (R.fh.free hp) (R.gh.free hp)) (same_upd' hp) fun a ev ow => ?_⟩
    obtain ⟨a', vs', e2, h2, _⟩ := h.there R.gh ow
    rw [ev] at e2; cases e2
    exact upd_ne (ne_of_none h2 hp)
  ap := R.ap
  pn := R.pn
  len := R.len
  lkp := R.lkp
theorem Rep.advNew {p : Addr} {o : HO} (R : Rep K G pn Γ σ F H) (hp : H p = none) : Adv G F (upd F p o) := Adv.new (R.fh.free hp) (R.gh.free hp)
end

/-! ### setting a slot -/
section
variable {K : Frag} {G : Hp} {pn : List (Nat × Addr)} {Γ : Ga} {σ : St} {F F' H H' : Hp}
/-- may the slot be stored to -/
def freeAt (Γ : Ga) (i : Nat) : Bool := match Γ[i]? with
  | some (some s) => !s.pinned
  | some none => true
  | none => false
theorem get_set {α : Type} {l : List α} {i j : Nat} {x y : α} (h : (l.set i x)[j]? = some y) : (j = i ∧ y = x ∧ i < l.length) ∨ (j ≠ i ∧ l[j]? = some y) := by
  rw [List.getElem?_set] at h
  split at h
  · rename_i e
    split at h
    · rename_i hl
      exact .inl ⟨e.symm, (Option.some.inj h).symm, hl⟩
    · cases h
  · rename_i e
    exact .inr ⟨fun z => e z.symm, h⟩
/-- slot i takes the value v, which is apart from what the others own -/
theorem Rep.set {i : Nat} {v : V} {s : Sl} (R : Rep K G pn Γ σ F H) (hi : freeAt Γ i = true) (h : SlR K G F H v s) (np : s.pinned = false)
    (hap : s.owned = true → ∀ j sj, j ≠ i → Γ[j]? = some (some sj) → sj.owned = true → σ[j]? ≠ some (some v)) : Rep K G pn (Γ.set i (some s)) (σ.set i (some v)) F H where
  fh := R.fh
  gh := R.gh
  sl := fun j t e => by
    rcases get_set e with ⟨e1, e2, hl⟩ | ⟨e1, e2⟩
    · subst e1
      obtain rfl : t = s := Option.some.inj e2
      exact ⟨v, by rw [List.getElem?_set_self (by rw [← R.len]; exact hl)], h⟩
    · obtain ⟨u, q1, q2⟩ := R.sl j t e2
      exact ⟨u, by rw [List.getElem?_set_ne (Ne.symm e1)]; exact q1, q2⟩
  ap := fun j k sj sk a e1 e2 o1 o2 q1 q2 => by
    rcases get_set e1 with ⟨z1, z2, hl⟩ | ⟨z1, z2⟩
    · rcases get_set e2 with ⟨y1, y2, _⟩ | ⟨y1, y2⟩
      · rw [z1, y1]
      · exfalso
        obtain rfl : sj = s := Option.some.inj z2
        subst z1
        rw [List.getElem?_set_ne (Ne.symm y1)] at q2
        rw [List.getElem?_set_self (by rw [← R.len]; exact hl)] at q1
        have q1' : v = .ref a := Option.some.inj (Option.some.inj q1)
        exact hap o1 k sk y1 y2 o2 (by rw [q1']; exact q2)
    · rcases get_set e2 with ⟨y1, y2, hl⟩ | ⟨y1, y2⟩
      · exfalso
        obtain rfl : sk = s := Option.some.inj y2
        subst y1
        rw [List.getElem?_set_ne (Ne.symm z1)] at q1
        rw [List.getElem?_set_self (by rw [← R.len]; exact hl)] at q2
        have q2' : v = .ref a := Option.some.inj (Option.some.inj q2)
        exact hap o2 j sj z1 z2 o1 (by rw [q2']; exact q1)
      · rw [List.getElem?_set_ne (Ne.symm z1)] at q1
        rw [List.getElem?_set_ne (Ne.symm y1)] at q2
        exact R.ap j k sj sk a z2 y2 o1 o2 q1 q2
  pn := fun p hp => by
    obtain ⟨q1, s', q2, q3⟩ := R.pn p hp
    have ne : p.1 ≠ i := fun z => by
      subst z
      unfold freeAt at hi
      rw [q2] at hi
      simp [q3] at hi
    exact ⟨by rw [List.getElem?_set_ne (Ne.symm ne)]; exact q1, s', by rw [List.getElem?_set_ne (Ne.symm ne)]; exact q2, q3⟩
  len := by simp [R.len]
  lkp := fun j zs e => by
    rcases get_set e with ⟨e1, e2, hl⟩ | ⟨e1, e2⟩
    · rw [← Option.some.inj e2] at np; cases np
    · exact R.lkp j zs e2
/-- slot i is wiped -/
theorem Rep.unset {i : Nat} (R : Rep K G pn Γ σ F H) (hi : ∀ s, Γ[i]? = some (some s) → s.pinned = false) : Rep K G pn (Γ.set i none) (σ.set i none) F H where
  fh := R.fh
  gh := R.gh
  sl := fun j t e => by
    rcases get_set e with ⟨e1, e2, hl⟩ | ⟨e1, e2⟩
    · cases e2
    · obtain ⟨u, q1, q2⟩ := R.sl j t e2
      exact ⟨u, by rw [List.getElem?_set_ne (Ne.symm e1)]; exact q1, q2⟩
  ap := fun j k sj sk a e1 e2 o1 o2 q1 q2 => by
    rcases get_set e1 with ⟨z1, z2, hl⟩ | ⟨z1, z2⟩
    · cases z2
    · rcases get_set e2 with ⟨y1, y2, hl⟩ | ⟨y1, y2⟩
      · cases y2
      · rw [List.getElem?_set_ne (Ne.symm z1)] at q1
        rw [List.getElem?_set_ne (Ne.symm y1)] at q2
        exact R.ap j k sj sk a z2 y2 o1 o2 q1 q2
  pn := fun p hp => by
    obtain ⟨q1, s', q2, q3⟩ := R.pn p hp
    have ne : p.1 ≠ i := fun z => by
      subst z
      have := hi _ q2
      rw [q3] at this
      cases this
    exact ⟨by rw [List.getElem?_set_ne (Ne.symm ne)]; exact q1, s', by rw [List.getElem?_set_ne (Ne.symm ne)]; exact q2, q3⟩
  len := by simp [R.len]
  lkp := fun j zs e => by
    rcases get_set e with ⟨e1, e2, hl⟩ | ⟨e1, e2⟩
    · cases e2
    · exact R.lkp j zs e2
/-- the slot's content is told otherwise, its value stays -/
theorem Rep.retell {i : Nat} {v : V} {s s' : Sl} (R : Rep K G pn Γ σ F H) (hs : Γ[i]? = some (some s)) (hv : σ[i]? = some (some v)) (h : SlR K G F H v s') (ho : s'.owned = true → s.owned = true) (hpn : s.pinned = true → s'.pinned = true) (hlk : ∀ zs, s' = .lk zs → ∃ a, (i, a) ∈ pn) :
    Rep K G pn (Γ.set i (some s')) σ F H where
  fh := R.fh
  gh := R.gh
  sl := fun j t e => by
    rcases get_set e with ⟨e1, e2, hl⟩ | ⟨e1, e2⟩
    · subst e1
      obtain rfl : t = s' := Option.some.inj e2
      exact ⟨v, hv, h⟩
    · exact R.sl j t e2
  ap := fun j k sj sk a e1 e2 o1 o2 q1 q2 => by
    have f : ∀ (j : Nat) (sj : Sl), (Γ.set i (some s'))[j]? = some (some sj) → sj.owned = true → ∃ t, Γ[j]? = some (some t) ∧ t.owned = true := fun j sj e o => by
      rcases get_set e with ⟨z1, z2, hl⟩ | ⟨z1, z2⟩
      · subst z1
        exact ⟨s, hs, ho (by rw [← Option.some.inj z2]; exact o)⟩
      · exact ⟨sj, z2, o⟩
    obtain ⟨t1, y1, y2⟩ := f j sj e1 o1
    obtain ⟨t2, y3, y4⟩ := f k sk e2 o2
    exact R.ap j k t1 t2 a y1 y3 y2 y4 q1 q2
  pn := fun p hp => by
    obtain ⟨q1, t, q2, q3⟩ := R.pn p hp
    refine ⟨q1, ?_⟩
    by_cases z : p.1 = i
    · have hl : i < Γ.length := by
        rcases Nat.lt_or_ge i Γ.length with h | h
        · exact h
        · rw [List.getElem?_eq_none h] at hs; cases hs
      have q2' : Γ[i]? = some (some t) := by rw [← z]; exact q2
      rw [hs] at q2'
      obtain rfl : s = t := Option.some.inj (Option.some.inj q2')
      exact ⟨s', by rw [z, List.getElem?_set_self hl], hpn q3⟩
    · exact ⟨t, by rw [List.getElem?_set_ne (Ne.symm z)]; exact q2, q3⟩
  len := by simp [R.len]
  lkp := fun j zs e => by
    rcases get_set e with ⟨e1, e2, hl⟩ | ⟨e1, e2⟩
    · subst e1; exact hlk zs (Option.some.inj e2).symm
    · exact R.lkp j zs e2
/-- the object of an owned slot is written: slot i owns a, which holds vs' from now on -/
theorem Rep.write {i : Nat} {a : Addr} {s s' : Sl} {vs' : List V} {xs' : List D} (R : Rep K G pn Γ σ F H) (hs : Γ[i]? = some (some s)) (hv : σ[i]? = some (some (.ref a))) (hF : F a = none) (hG : G a = none)
    (hc : (s.pinned = false ∧ s.owned = true ∧ s' = .ow xs') ∨ ((∃ ys, s = .io ys) ∧ s' = .io xs')) (hr : RpAll K F vs' xs') : Rep K G pn (Γ.set i (some s')) σ F (upd H a (.lst vs')) where
  fh := same_upd1 R.fh hF
  gh := same_upd1 R.gh hG
  sl := fun j t e => by
    rcases get_set e with ⟨e1, e2, hl⟩ | ⟨e1, e2⟩
    · subst e1
      obtain rfl : t = s' := Option.some.inj e2
      refine ⟨_, hv, ?_⟩
      rcases hc with ⟨_, _, rfl⟩ | ⟨_, rfl⟩
      · exact ⟨a, rfl, vs', upd_same, hr, hF, hG⟩
      · exact ⟨a, rfl, vs', upd_same, hr, hF, hG⟩
    · obtain ⟨u, q1, q2⟩ := R.sl j t e2
      refine ⟨u, q1, ?_⟩
      have ow : s.owned = true := by
        rcases hc with ⟨_, z, _⟩ | ⟨⟨_, z⟩, _⟩
        · exact z
        · rw [z]; rfl
      have other : ∀ b, u = .ref b → t.owned = true → b ≠ a := fun b eb ot z => by
        subst eb; subst z
        exact e1 (R.ap j i t s b e2 hs ot ow q1 hv)
      cases t with
      | fz d => exact q2
      | ow xs =>
        obtain ⟨b, rfl, ws, h1, h2, h3, h4⟩ := q2
        exact ⟨b, rfl, ws, by rw [upd_ne (other b rfl rfl)]; exact h1, h2, h3, h4⟩
      | io xs =>
        obtain ⟨b, rfl, ws, h1, h2, h3, h4⟩ := q2
        exact ⟨b, rfl, ws, by rw [upd_ne (other b rfl rfl)]; exact h1, h2, h3, h4⟩
      | lk xs => exact q2
      | scr ns => exact q2
  ap := fun j k sj sk b e1 e2 o1 o2 q1 q2 => by
    have ow : s.owned = true := by
      rcases hc with ⟨_, z, _⟩ | ⟨⟨_, z⟩, _⟩
      · exact z
      · rw [z]; rfl
    have f : ∀ (j : Nat) (sj : Sl), (Γ.set i (some s'))[j]? = some (some sj) → sj.owned = true → ∃ t, Γ[j]? = some (some t) ∧ t.owned = true := fun j sj e o => by
      rcases get_set e with ⟨e1, e2, hl⟩ | ⟨e1, e2⟩
      · subst e1
        exact ⟨s, hs, ow⟩
      · exact ⟨sj, e2, o⟩
    obtain ⟨t1, y1, y2⟩ := f j sj e1 o1
    obtain ⟨t2, y3, y4⟩ := f k sk e2 o2
    exact R.ap j k t1 t2 b y1 y3 y2 y4 q1 q2
  pn := fun p hp => by
    obtain ⟨q1, t, q2, q3⟩ := R.pn p hp
    refine ⟨q1, ?_⟩
    by_cases z : p.1 = i
    · have hl : i < Γ.length := by
        rcases Nat.lt_or_ge i Γ.length with h | h
        · exact h
        · rw [List.getElem?_eq_none h] at hs; cases hs
      have q2' : Γ[i]? = some (some t) := by rw [← z]; exact q2
      rw [hs] at q2'
      obtain rfl : s = t := Option.some.inj (Option.some.inj q2')
      refine ⟨s', by rw [z, List.getElem?_set_self hl], ?_⟩
      rcases hc with ⟨z1, _, _⟩ | ⟨_, rfl⟩
      · rw [q3] at z1; cases z1
      · rfl
    · exact ⟨t, by rw [List.getElem?_set_ne (Ne.symm z)]; exact q2, q3⟩
  len := by simp [R.len]
  lkp := fun j zs e => by
    rcases get_set e with ⟨e1, e2, hl⟩ | ⟨e1, e2⟩
    · rcases hc with ⟨_, _, rfl⟩ | ⟨_, rfl⟩ <;> cases e2
    · exact R.lkp j zs e2
/-- an owned list is frozen -/
theorem Rep.freeze {i : Nat} {xs : List D} (R : Rep K G pn Γ σ F H) (hs : Γ[i]? = some (some (.ow xs))) : ∃ F' v, Adv G F F' ∧ Rep K G pn (Γ.set i (some (.fz (.list xs)))) σ F' H ∧ σ[i]? = some (some v) ∧ Rp K F' v (.list xs) := by
  obtain ⟨v, hv, a, rfl, vs, h1, h2, h3, h4⟩ := R.sl i _ hs
  have A : Adv G F (upd F a (.lst vs)) := Adv.new h3 h4
  have rp : Rp K (upd F a (.lst vs)) (.ref a) (.list xs) := .lst upd_same (RpAll.mono A.same h2)
  refine ⟨upd F a (.lst vs), .ref a, A, ⟨fun b o e => ?_, R.gh, fun j t e => ?_, fun j k sj sk b e1 e2 o1 o2 q1 q2 => ?_, fun j zs e => ?_, fun p hp => ?_, by simp [R.len]⟩, hv, rp⟩
  · by_cases hb : b = a
    · subst hb; rw [upd_same] at e; cases e; exact h1
    · rw [upd_ne hb] at e; exact R.fh _ _ e
  · rcases get_set e with ⟨e1, e2, hl⟩ | ⟨e1, e2⟩
    · subst e1
      obtain rfl : t = _ := Option.some.inj e2
      exact ⟨_, hv, rp⟩
    · obtain ⟨u, q1, q2⟩ := R.sl j t e2
      refine ⟨u, q1, q2.grow A (Same.refl H) fun b eb ot => upd_ne fun z => ?_⟩
      subst eb; subst z
      exact e1 (R.ap j i t _ b e2 hs ot rfl q1 hv)
  · rcases get_set e1 with ⟨z1, z2, hl⟩ | ⟨z1, z2⟩
    · obtain rfl : sj = _ := Option.some.inj z2
      cases o1
    · rcases get_set e2 with ⟨y1, y2, hl⟩ | ⟨y1, y2⟩
      · obtain rfl : sk = _ := Option.some.inj y2
        cases o2
      · exact R.ap j k sj sk b z2 y2 o1 o2 q1 q2
  · rcases get_set e with ⟨e1, e2, hl⟩ | ⟨e1, e2⟩
    · cases e2
    · exact R.lkp j zs e2
  · obtain ⟨q1, t, q2, q3⟩ := R.pn p hp
    have ne : p.1 ≠ i := fun z => by
      rw [z, hs] at q2
      cases q2
      cases q3
    exact ⟨q1, t, by rw [List.getElem?_set_ne (Ne.symm ne)]; exact q2, q3⟩
end
end FL

/-! FB: the judgements of the functional layer; names, constants, operators, tests. -/
namespace FL
open PySem PySem.Spec L2

structure Exc where
  cls : Str
  fld : Option Int
/-- how a piece of code ends: with a value, with an error, or so that nothing is told of it -/
inductive Rs (α : Type) where
  | ok (a : α) | exc (e : Exc) | bad
def Rs.bind {α β : Type} (x : Rs α) (f : α → Rs β) : Rs β := match x with
  | .ok a => f a
  | .exc e => .exc e
  | .bad => .bad
@[simp] theorem Rs.bind_ok {α β : Type} (a : α) (f : α → Rs β) : (Rs.ok a).bind f = f a := rfl
@[simp] theorem Rs.bind_exc {α β : Type} (e : Exc) (f : α → Rs β) : (Rs.exc e : Rs α).bind f = .exc e := rfl
@[simp] theorem Rs.bind_bad {α β : Type} (f : α → Rs β) : (Rs.bad : Rs α).bind f = .bad := rfl
/-- data; a list made just now; a name's own list (read when it is used) -/
inductive RV where
  | d (x : D) | ow (xs : List D) | sl (i : Nat)
abbrev FnE := Ga → Rs (RV × Ga)
abbrev FnT := Ga → Rs (Bool × Ga)
abbrev FnA := Ga → Rs (List RV × Ga)
def RV.fz : RV → RV
  | .ow xs => .d (.list xs)
  | r => r
def RV.still : RV → Bool
  | .ow _ => false
  | _ => true
def Sl.data : Sl → D
  | .fz d => d
  | .ow xs => .list xs
  | .io xs => .list xs
  | .lk xs => .list xs
  | .scr ns => .list (ns.map .int)
def RV.get (Γ : Ga) : RV → Option D
  | .d x => some x
  | .ow xs => some (.list xs)
  | .sl i => match Γ[i]? with
    | some (some s) => some s.data
    | _ => none

/-- an error as it flies: its class, its fields -/
def ExR (mg : Str → Option Value) (K : Frag) (F H : Hp) (e : Exc) (c : Value) (d : Option Addr) : Prop := ∃ C, mg e.cls = some (.ref C) ∧ c = .ref C ∧
  match e.fld with
  | none => d = none
  | some n => ∃ dx, d = some dx ∧ H dx = some (.xd [("at", .int n)])

def RvR (K : Frag) (G F H : Hp) (Γ : Ga) (σ : St) (v : V) : RV → Prop
  | .d x => Rp K F v x
  | .ow xs => ∃ a, v = .ref a ∧ Own K G F H a xs ∧ ∀ (j : Nat) (sj : Sl), Γ[j]? = some (some sj) → sj.owned = true → σ[j]? ≠ some (some v)
  | .sl i => σ[i]? = some (some v)
inductive RvAll (K : Frag) (F : Hp) (σ : St) : List V → List RV → Prop
  | nil : RvAll K F σ [] []
  | d {v : V} {x : D} {vs : List V} {rs : List RV} : Rp K F v x → RvAll K F σ vs rs → RvAll K F σ (v :: vs) (.d x :: rs)
  | sl {v : V} {i : Nat} {vs : List V} {rs : List RV} : σ[i]? = some (some v) → RvAll K F σ vs rs → RvAll K F σ (v :: vs) (.sl i :: rs)

def PostX (K : Frag) (mg : Str → Option Value) (E : WX) (G : Hp) (σ : St) (F : Hp) (e : Exc) : Prop := ∀ c d F' H', Adv G F F' → Same F' H' → Same G H' → ExR mg K F' H' e c d → E c d σ H'
def PostE (K : Frag) (mg : Str → Option Value) (E : WX) (G : Hp) (pn : List (Nat × Addr)) (σ : St) (F : Hp) (Q : VK) : Rs (RV × Ga) → Prop
  | .ok (rv, Γ') => ∀ v F' H', Adv G F F' → Rep K G pn Γ' σ F' H' → RvR K G F' H' Γ' σ v rv → Q v H'
  | .exc e => PostX K mg E G σ F e
  | .bad => False
def PostT (K : Frag) (mg : Str → Option Value) (E : WX) (G : Hp) (pn : List (Nat × Addr)) (σ : St) (F : Hp) (Q : Bool → Hp → Prop) : Rs (Bool × Ga) → Prop
  | .ok (b, Γ') => ∀ F' H', Adv G F F' → Rep K G pn Γ' σ F' H' → Q b H'
  | .exc e => PostX K mg E G σ F e
  | .bad => False
def PostA (K : Frag) (mg : Str → Option Value) (E : WX) (G : Hp) (pn : List (Nat × Addr)) (σ : St) (F : Hp) (Q : List V → Hp → Prop) : Rs (List RV × Ga) → Prop
  | .ok (rs, Γ') => ∀ vs F' H', Adv G F F' → Rep K G pn Γ' σ F' H' → RvAll K F' σ vs rs → Q vs H'
  | .exc e => PostX K mg E G σ F e
  | .bad => False
def tE (K : Frag) (mg : Str → Option Value) (E : WX) (f : FnE) : TE := fun σ H Q => ∃ G pn F Γ, Rep K G pn Γ σ F H ∧ PostE K mg E G pn σ F Q (f Γ)
def tT (K : Frag) (mg : Str → Option Value) (E : WX) (f : FnT) : TT := fun σ H Q => ∃ G pn F Γ, Rep K G pn Γ σ F H ∧ PostT K mg E G pn σ F Q (f Γ)
def tA (K : Frag) (mg : Str → Option Value) (E : WX) (f : FnA) : TA := fun σ H Q => ∃ G pn F Γ, Rep K G pn Γ σ F H ∧ PostA K mg E G pn σ F Q (f Γ)
abbrev FE (X : Cx) (E : WX) (e : Expr) (f : FnE) : Prop := PE X e (tE X.K X.mg E f)
abbrev FT (X : Cx) (E : WX) (e : Expr) (f : FnT) : Prop := PT X e (tT X.K X.mg E f)
abbrev FA (X : Cx) (E : WX) (es : List Expr) (f : FnA) : Prop := PA X es (tA X.K X.mg E f)

/-! ### weaker readings -/
theorem pe_imp {X : Cx} {e : Expr} {t t' : TE} (h : PE X e t) (k : ∀ σ H Q, t' σ H Q → t σ H Q) : PE X e t' := ⟨fun pins s σ H Q I q => h.run pins s σ H Q I (k _ _ _ q)⟩
theorem pt_imp {X : Cx} {e : Expr} {t t' : TT} (h : PT X e t) (k : ∀ σ H Q, t' σ H Q → t σ H Q) : PT X e t' := ⟨fun pins s σ H Q I q => h.run pins s σ H Q I (k _ _ _ q)⟩
theorem pw_imp {X : Cx} {e : Expr} {t t' : TT} (h : PW X e t) (k : ∀ σ H Q, t' σ H Q → t σ H Q) : PW X e t' := ⟨fun wh pins s σ H Q I q => h.run wh pins s σ H Q I (k _ _ _ q)⟩
theorem pa_imp {X : Cx} {e : List Expr} {t t' : TA} (h : PA X e t) (k : ∀ σ H Q, t' σ H Q → t σ H Q) : PA X e t' := ⟨fun pos pins s σ H Q I q => h.run pos pins s σ H Q I (k _ _ _ q)⟩
theorem ps_imp {X : Cx} {e : Stmt} {t t' : TS} (h : PS X e t) (k : ∀ Dn σ H, t' Dn σ H → t Dn σ H) : PS X e t' := ⟨fun pins s σ H Dn I q => h.run pins s σ H Dn I (k _ _ _ q)⟩
theorem pss_imp {X : Cx} {e : List Stmt} {t t' : TS} (h : PSs X e t) (k : ∀ Dn σ H, t' Dn σ H → t Dn σ H) : PSs X e t' := ⟨fun pins s σ H Dn I q => h.run pins s σ H Dn I (k _ _ _ q)⟩

section
variable {K : Frag} {mg : Str → Option Value} {E : WX} {G : Hp} {pn : List (Nat × Addr)} {Γ : Ga} {σ : St} {F F' H H' : Hp}

theorem PostX.adv {e : Exc} (h : PostX K mg E G σ F e) (A : Adv G F F') : PostX K mg E G σ F' e := fun c d F2 H2 a s g r => h c d F2 H2 (A.trans a) s g r
theorem PostE.adv {Q : VK} {r : Rs (RV × Ga)} (h : PostE K mg E G pn σ F Q r) (A : Adv G F F') : PostE K mg E G pn σ F' Q r := by
  cases r with
  | ok p => obtain ⟨rv, Γ'⟩ := p; exact fun v F2 H2 a R rv => h v F2 H2 (A.trans a) R rv
  | exc e => exact PostX.adv h A
  | bad => exact h
theorem PostT.adv {Q : Bool → Hp → Prop} {r : Rs (Bool × Ga)} (h : PostT K mg E G pn σ F Q r) (A : Adv G F F') : PostT K mg E G pn σ F' Q r := by
  cases r with
  | ok p => obtain ⟨rv, Γ'⟩ := p; exact fun F2 H2 a R => h F2 H2 (A.trans a) R
  | exc e => exact PostX.adv h A
  | bad => exact h
theorem PostA.adv {Q : List V → Hp → Prop} {r : Rs (List RV × Ga)} (h : PostA K mg E G pn σ F Q r) (A : Adv G F F') : PostA K mg E G pn σ F' Q r := by
  cases r with
  | ok p => obtain ⟨rv, Γ'⟩ := p; exact fun v F2 H2 a R rv => h v F2 H2 (A.trans a) R rv
  | exc e => exact PostX.adv h A
  | bad => exact h
theorem PostX.imp {E' : WX} {e : Exc} (h : PostX K mg E G σ F e) (k : ∀ c d σ H, E c d σ H → E' c d σ H) : PostX K mg E' G σ F e := fun c d F' H' a s g r => k _ _ _ _ (h c d F' H' a s g r)

/-! ### a list made just now is frozen where it is an operand -/
def eOp (f : FnE) : FnE := fun Γ => (f Γ).bind fun p => .ok (p.1.fz, p.2)
/-- a list that no slot owns is frozen -/
theorem Rep.freezeAt {a : Addr} {vs : List V} (R : Rep K G pn Γ σ F H) (ha : H a = some (.lst vs)) (hF : F a = none) (hG : G a = none) (hap : ∀ (j : Nat) (sj : Sl), Γ[j]? = some (some sj) → sj.owned = true → σ[j]? ≠ some (some (.ref a))) :
    Rep K G pn Γ σ (upd F a (.lst vs)) H where
  fh := fun b o e => by
    by_cases hb : b = a
    · subst hb; rw [upd_same] at e; cases e; exact ha
    · rw [upd_ne hb] at e; exact R.fh _ _ e
  gh := R.gh
  sl := fun j t e => by
    obtain ⟨u, q1, q2⟩ := R.sl j t e
    refine ⟨u, q1, q2.grow (Adv.new hF hG) (Same.refl H) fun b eb ot => upd_ne fun z => ?_⟩
    subst eb; subst z
    exact hap j t e ot q1
  ap := R.ap
  pn := R.pn
  len := R.len
  lkp := R.lkp
theorem RvR.fz {v : V} {rv : RV} (R : Rep K G pn Γ σ F H) (h : RvR K G F H Γ σ v rv) : ∃ F', Adv G F F' ∧ Rep K G pn Γ σ F' H ∧ RvR K G F' H Γ σ v rv.fz := by
  cases rv with
  | d x => exact ⟨F, Adv.refl G F, R, h⟩
  | sl i => exact ⟨F, Adv.refl G F, R, h⟩
  | ow xs =>
    obtain ⟨a, rfl, ⟨vs, h1, h2, h3, h4⟩, hap⟩ := h
    have A : Adv G F (upd F a (.lst vs)) := Adv.new h3 h4
    exact ⟨upd F a (.lst vs), A, R.freezeAt h1 h3 h4 hap, .lst upd_same (RpAll.mono A.same h2)⟩
theorem tE_op {f : FnE} : ∀ σ H Q, tE K mg E (eOp f) σ H Q → tE K mg E f σ H Q := fun σ H Q ⟨G, pn, F, Γ, R, h⟩ => by
  refine ⟨G, pn, F, Γ, R, ?_⟩
  unfold eOp at h
  cases e : f Γ with
  | bad => rw [e] at h; exact h
  | exc x => rw [e] at h; exact h
  | ok p =>
    obtain ⟨rv, Γ'⟩ := p
    rw [e] at h
    intro v F' H' A R' rr
    obtain ⟨F2, A2, R2, r2⟩ := rr.fz R'
    exact h v F2 H' (A.trans A2) R2 r2
theorem RvR.keep {Γ' : Ga} {v : V} {rv : RV} (h : RvR K G F H Γ σ v rv) (st : rv.still = true) (A : Same F F') : RvR K G F' H' Γ' σ v rv := by
  cases rv with
  | d x => exact Rp.mono A h
  | sl i => exact h
  | ow xs => cases st
theorem RV.fz_still (rv : RV) : rv.fz.still = true := by cases rv <;> rfl
theorem RvAll.keep {vs : List V} {rs : List RV} (h : RvAll K F σ vs rs) (A : Same F F') : RvAll K F' σ vs rs := by
  induction h with
  | nil => exact .nil
  | d h _ ih => exact .d (Rp.mono A h) ih
  | sl h _ ih => exact .sl h ih

/-! ### reading -/
theorem slr_list {v : V} {s : Sl} {xs : List D} (R : Rep K G pn Γ σ F H) (h : SlR K G F H v s) (e : s.data = .list xs) : ∃ a vs, v = .ref a ∧ SqL K H a vs ∧ RpAll K F vs xs := by
  cases s with
  | fz d =>
    cases e
    cases h with
    | lst h1 h2 => exact ⟨_, _, rfl, SqL.of (R.fh _ _ h1), h2⟩
  | ow ys => cases e; obtain ⟨a, rfl, vs, h1, h2, _⟩ := h; exact ⟨a, vs, rfl, SqL.of h1, h2⟩
  | io ys => cases e; obtain ⟨a, rfl, vs, h1, h2, _⟩ := h; exact ⟨a, vs, rfl, SqL.of h1, h2⟩
  | lk ys => cases e; obtain ⟨a, vs, rfl, h1, h2, _⟩ := h; exact ⟨a, vs, rfl, SqL.of (R.gh _ _ h1), h2⟩
  | scr ns => cases e; obtain ⟨a, rfl, h1⟩ := h; exact ⟨a, _, rfl, sqL_same R.fh h1.l, RpAll.ofInts ns⟩
theorem rv_list {v : V} {rv : RV} {xs : List D} (R : Rep K G pn Γ σ F H) (h : RvR K G F H Γ σ v rv) (e : rv.get Γ = some (.list xs)) : ∃ a vs, v = .ref a ∧ SqL K H a vs ∧ RpAll K F vs xs := by
  cases rv with
  | d x =>
    cases e
    cases h with
    | lst h1 h2 => exact ⟨_, _, rfl, SqL.of (R.fh _ _ h1), h2⟩
  | ow ys => cases e; obtain ⟨a, rfl, ⟨vs, h1, h2, _⟩, _⟩ := h; exact ⟨a, vs, rfl, SqL.of h1, h2⟩
  | sl i =>
    unfold RV.get at e
    cases q : Γ[i]? with
    | none => simp [q] at e
    | some o =>
      cases o with
      | none => simp [q] at e
      | some s =>
        simp [q] at e
        obtain ⟨u, e1, e2⟩ := R.sl i s q
        obtain rfl : u = v := Option.some.inj (Option.some.inj (e1.symm.trans h))
        exact slr_list R e2 e
theorem rv_tup {v : V} {rv : RV} {xs : List D} (R : Rep K G pn Γ σ F H) (h : RvR K G F H Γ σ v rv) (e : rv.get Γ = some (.tuple xs)) : ∃ a vs, v = .ref a ∧ SqT K H a vs ∧ RpAll K F vs xs ∧ SqT K F a vs := by
  cases rv with
  | d x =>
    cases e
    cases h with
    | tup h1 h2 => exact ⟨_, _, rfl, sqT_same R.fh h1, h2, h1⟩
  | ow ys => cases e
  | sl i =>
    unfold RV.get at e
    cases q : Γ[i]? with
    | none => simp [q] at e
    | some o =>
      cases o with
      | none => simp [q] at e
      | some s =>
        simp [q] at e
        obtain ⟨u, e1, e2⟩ := R.sl i s q
        obtain rfl : u = v := Option.some.inj (Option.some.inj (e1.symm.trans h))
        cases s with
        | fz d =>
          cases e
          cases e2 with
          | tup h1 h2 => exact ⟨_, _, rfl, sqT_same R.fh h1, h2, h1⟩
        | _ => cases e
theorem rv_get {v : V} {rv : RV} {x : D} (R : Rep K G pn Γ σ F H) (h : RvR K G F H Γ σ v rv) (e : rv.get Γ = some x) : Dp K H v x := by
  cases x with
  | list xs => obtain ⟨a, vs, rfl, h1, h2⟩ := rv_list R h e; exact .lst h1 (RpAll.dp (RpAll.mono R.fh h2))
  | tuple xs => obtain ⟨a, vs, rfl, h1, h2, _⟩ := rv_tup R h e; exact .tup h1 (RpAll.dp (RpAll.mono R.fh h2))
  | _ =>
    cases rv with
    | d y => cases e; exact Rp.dp (Rp.mono R.fh h)
    | ow ys => cases e
    | sl i =>
      unfold RV.get at e
      cases q : Γ[i]? with
      | none => simp [q] at e
      | some o =>
        cases o with
        | none => simp [q] at e
        | some s =>
          simp [q] at e
          obtain ⟨u, e1, e2⟩ := R.sl i s q
          obtain rfl : u = v := Option.some.inj (Option.some.inj (e1.symm.trans h))
          cases s with
          | fz d => cases e; exact Rp.dp (Rp.mono R.fh e2)
          | _ => cases e
end

/-! ### names and constants -/
def eC (x : D) : FnE := fun Γ => .ok (.d x, Γ)
def eVar (i : Nat) : FnE := fun Γ => match Γ[i]? with
  | some (some (.fz d)) => .ok (.d d, Γ)
  | some (some _) => .ok (.sl i, Γ)
  | _ => .bad
section
variable {X : Cx} {E : WX}
theorem fe_c {e : Expr} {v : V} {x : D} (h : PE X e (tC v)) (r : ∀ F, Rp X.K F v x) : FE X E e (eC x) := pe_imp h fun σ H Q ⟨G, pn, F, Γ, R, q⟩ => q v F H (Adv.refl G F) R (r F)
theorem fe_int {i : Int} {j : Nat} {pos : Pos} : FE X E (.Constant (.int i) j pos) (eC (.int i)) := fe_c pe_int fun _ => .int i
theorem fe_bl {b : Bool} {j : Nat} {pos : Pos} : FE X E (.Constant (.bool b) j pos) (eC (.bool b)) := fe_c pe_bl fun _ => .bl b
theorem fe_non {j : Nat} {pos : Pos} : FE X E (.Constant .none j pos) (eC .none) := fe_c pe_non fun _ => .non
theorem fe_str {x : Str} {j : Nat} {pos : Pos} : FE X E (.Constant (.str x) j pos) (eC (.str x)) := fe_c pe_str fun _ => .str x
theorem fe_var {e : Expr} {i : Nat} (h : PE X e (tVar i)) : FE X E e (eVar i) := pe_imp h fun σ H Q ⟨G, pn, F, Γ, R, q⟩ => by
  unfold eVar at q
  cases e1 : Γ[i]? with
  | none => simp only [e1] at q; exact q.elim
  | some o =>
    cases o with
    | none => simp only [e1] at q; exact q.elim
    | some s =>
      obtain ⟨v, h1, h2⟩ := R.sl i s e1
      refine ⟨v, h1, ?_⟩
      cases s with
      | fz d => simp only [e1] at q; exact q v F H (Adv.refl G F) R h2
      | ow xs => simp only [e1] at q; exact q v F H (Adv.refl G F) R h1
      | io xs => simp only [e1] at q; exact q v F H (Adv.refl G F) R h1
      | lk xs => simp only [e1] at q; exact q v F H (Adv.refl G F) R h1
      | scr xs => simp only [e1] at q; exact q v F H (Adv.refl G F) R h1
/-- a module's constant -/
theorem fe_glob {x : Str} {v : V} {u : Value} {d : D} {pos : Pos} (hg : Gl X x) (hm : X.mg x = some u) (r : RelV v u) (rp : ∀ F, Rp X.K F v d) (hd : (x == ("__debug__" : Str)) = false := by decide) : FE X E (.Name x pos) (eC d) := fe_c (pe_glob hg hm r hd) rp
end

/-! ### two operands -/
def eBin (g : RV → RV → Ga → Rs (RV × Ga)) (fa fb : FnE) : FnE := fun Γ => (eOp fa Γ).bind fun p => (eOp fb p.2).bind fun q => g p.1 q.1 q.2
theorem tE_bin {K : Frag} {mg : Str → Option Value} {E : WX} {fa fb : FnE} {g : RV → RV → Ga → Rs (RV × Ga)} {r : R2}
    (key : ∀ (G : Hp) (pn : List (Nat × Addr)) (F : Hp) (Γ : Ga) (σ : St) (H : Hp) (x y : V) (ra rb : RV) (Q : VK), Rep K G pn Γ σ F H → RvR K G F H Γ σ x ra → RvR K G F H Γ σ y rb → PostE K mg E G pn σ F Q (g ra rb Γ) → r x y H Q) :
    ∀ σ H Q, tE K mg E (eBin g fa fb) σ H Q → tOp r (tE K mg E fa) (tE K mg E fb) σ H Q := fun σ H Q ⟨G, pn, F, Γ, R, h⟩ => by
  refine tE_op _ _ _ ⟨G, pn, F, Γ, R, ?_⟩
  unfold eBin at h
  cases e : eOp fa Γ with
  | bad => rw [e] at h; exact h
  | exc x => rw [e] at h; exact h
  | ok p =>
    obtain ⟨ra, Γ1⟩ := p
    rw [e] at h
    have sa : ra.still = true := by
      unfold eOp at e
      cases e2 : fa Γ with
      | bad => rw [e2] at e; cases e
      | exc x => rw [e2] at e; cases e
      | ok p2 => rw [e2] at e; cases e; exact RV.fz_still _
    intro v F1 H1 A1 R1 r1
    refine tE_op _ _ _ ⟨G, pn, F1, Γ1, R1, ?_⟩
    simp only [Rs.bind_ok] at h
    cases e2 : eOp fb Γ1 with
    | bad => rw [e2] at h; exact h
    | exc x => rw [e2] at h; exact PostX.adv h A1
    | ok p2 =>
      obtain ⟨rb, Γ2⟩ := p2
      rw [e2] at h
      intro u F2 H2 A2 R2 r2
      exact key G pn F2 Γ2 σ H2 v u ra rb Q R2 (r1.keep sa A2.same) r2 (PostE.adv h (A1.trans A2))
/-- one operand -/
def eUn (g : RV → Ga → Rs (RV × Ga)) (fa : FnE) : FnE := fun Γ => (eOp fa Γ).bind fun p => g p.1 p.2
theorem tE_un {K : Frag} {mg : Str → Option Value} {E : WX} {fa : FnE} {g : RV → Ga → Rs (RV × Ga)} {r : V → Hp → VK → Prop}
    (key : ∀ (G : Hp) (pn : List (Nat × Addr)) (F : Hp) (Γ : Ga) (σ : St) (H : Hp) (x : V) (ra : RV) (Q : VK), Rep K G pn Γ σ F H → RvR K G F H Γ σ x ra → PostE K mg E G pn σ F Q (g ra Γ) → r x H Q) :
    ∀ σ H Q, tE K mg E (eUn g fa) σ H Q → tUn r (tE K mg E fa) σ H Q := fun σ H Q ⟨G, pn, F, Γ, R, h⟩ => by
  refine tE_op _ _ _ ⟨G, pn, F, Γ, R, ?_⟩
  unfold eUn at h
  cases e : eOp fa Γ with
  | bad => rw [e] at h; exact h
  | exc x => rw [e] at h; exact h
  | ok p =>
    obtain ⟨ra, Γ1⟩ := p
    rw [e] at h
    intro v F1 H1 A1 R1 r1
    exact key G pn F1 Γ1 σ H1 v ra Q R1 r1 (PostE.adv h A1)

/-! ### what an operation on data gives -/
/-- data out of two data -/
def g2 (op : D → D → Option D) : RV → RV → Ga → Rs (RV × Ga) := fun a b Γ => match a.get Γ, b.get Γ with
  | some x, some y => (match op x y with
    | some z => .ok (.d z, Γ)
    | none => .bad)
  | _, _ => .bad
theorem post_g2 {K : Frag} {mg : Str → Option Value} {E : WX} {G : Hp} {pn : List (Nat × Addr)} {σ : St} {F : Hp} {Q : VK} {op : D → D → Option D} {a b : RV} {Γ : Ga} (h : PostE K mg E G pn σ F Q (g2 op a b Γ)) :
    ∃ x y z, a.get Γ = some x ∧ b.get Γ = some y ∧ op x y = some z ∧ PostE K mg E G pn σ F Q (.ok (.d z, Γ)) := by
  unfold g2 at h
  cases e1 : a.get Γ with
  | none => simp only [e1] at h; exact h.elim
  | some x =>
    cases e2 : b.get Γ with
    | none => simp only [e1, e2] at h; exact h.elim
    | some y =>
      simp only [e1, e2] at h
      cases e3 : op x y with
      | none => simp only [e3] at h; exact h.elim
      | some z => simp only [e3] at h; exact ⟨x, y, z, rfl, rfl, e3, h⟩
def g1 (op : D → Option D) : RV → Ga → Rs (RV × Ga) := fun a Γ => match a.get Γ with
  | some x => (match op x with
    | some z => .ok (.d z, Γ)
    | none => .bad)
  | _ => .bad
theorem post_g1 {K : Frag} {mg : Str → Option Value} {E : WX} {G : Hp} {pn : List (Nat × Addr)} {σ : St} {F : Hp} {Q : VK} {op : D → Option D} {a : RV} {Γ : Ga} (h : PostE K mg E G pn σ F Q (g1 op a Γ)) :
    ∃ x z, a.get Γ = some x ∧ op x = some z ∧ PostE K mg E G pn σ F Q (.ok (.d z, Γ)) := by
  unfold g1 at h
  cases e1 : a.get Γ with
  | none => simp only [e1] at h; exact h.elim
  | some x =>
    simp only [e1] at h
    cases e3 : op x with
    | none => simp only [e3] at h; exact h.elim
    | some z => simp only [e3] at h; exact ⟨x, z, rfl, e3, h⟩

theorem dp_int {K : Frag} {H : Hp} {v : V} {i : Int} (h : Dp K H v (.int i)) : v = .int i := by cases h; rfl
theorem dp_str {K : Frag} {H : Hp} {v : V} {i : Str} (h : Dp K H v (.str i)) : v = .str i := by cases h; rfl
theorem dp_bl {K : Frag} {H : Hp} {v : V} {i : Bool} (h : Dp K H v (.bool i)) : v = .bl i := by cases h; rfl
theorem dp_non {K : Frag} {H : Hp} {v : V} (h : Dp K H v .none) : v = .non := by cases h; rfl
end FL

/-! FC: operators, comparisons, tests, displays, subscripts. -/
namespace FL
open PySem PySem.Spec L2

abbrev lim : Nat := 16777216
theorem lim_eq : sizeLine = lim := sizeLine_eq

section
variable {K : Frag} {mg : Str → Option Value} {E : WX} {G : Hp} {pn : List (Nat × Addr)} {Γ : Ga} {σ : St} {F F' H H' : Hp} {Q : VK}
theorem post_d {z : D} {v : V} (R : Rep K G pn Γ σ F H) (h : PostE K mg E G pn σ F Q (.ok (.d z, Γ))) (r : Rp K F v z) : Q v H := h v F H (Adv.refl G F) R r
theorem post_tup {xs : List D} {vs : List V} {p : Addr} (R : Rep K G pn Γ σ F H) (h : PostE K mg E G pn σ F Q (.ok (.d (.tuple xs), Γ))) (r : RpAll K F vs xs) (hp : H p = none) : Q (.ref p) (upd H p (.tup vs)) :=
  h _ _ _ (R.advNew hp) (R.newF hp) (.tup (SqT.of upd_same) (RpAll.mono (R.advNew (o := .tup vs) hp).same r))
theorem post_ow {xs : List D} {vs : List V} {p : Addr} (R : Rep K G pn Γ σ F H) (h : PostE K mg E G pn σ F Q (.ok (.ow xs, Γ))) (r : RpAll K F vs xs) (hp : H p = none) : Q (.ref p) (upd H p (.lst vs)) :=
  h _ F _ (Adv.refl G F) (R.new hp) ⟨p, rfl, ⟨vs, upd_same, r, R.fh.free hp, R.gh.free hp⟩, fun j sj e o q => by
    obtain ⟨v, q1, q2⟩ := R.sl j sj e
    obtain ⟨a, ws, rfl, q3, _⟩ := q2.there R.gh o
    rw [q] at q1
    cases q1
    rw [hp] at q3; cases q3⟩
end

/-! ### lists that may be written, or copied -/
def RV.lst (Γ : Ga) : RV → Option (List D)
  | .d (.list xs) => some xs
  | .d _ => none
  | .ow xs => some xs
  | .sl i => match Γ[i]? with
    | some (some (.ow xs)) => some xs
    | some (some (.io xs)) => some xs
    | some (some (.lk xs)) => some xs
    | some (some (.fz (.list xs))) => some xs
    | _ => none
theorem rv_lst {K : Frag} {G : Hp} {pn : List (Nat × Addr)} {Γ : Ga} {σ : St} {F H : Hp} {v : V} {rv : RV} {xs : List D} (R : Rep K G pn Γ σ F H) (h : RvR K G F H Γ σ v rv) (e : rv.lst Γ = some xs) : ∃ a vs, v = .ref a ∧ H a = some (.lst vs) ∧ RpAll K F vs xs := by
  cases rv with
  | d x =>
    cases x with
    | list ys =>
      cases e
      cases h with
      | lst h1 h2 => exact ⟨_, _, rfl, R.fh _ _ h1, h2⟩
    | _ => cases e
  | ow ys => cases e; obtain ⟨a, rfl, ⟨vs, h1, h2, _⟩, _⟩ := h; exact ⟨a, vs, rfl, h1, h2⟩
  | sl i =>
    unfold RV.lst at e
    cases q : Γ[i]? with
    | none => simp [q] at e
    | some o =>
      cases o with
      | none => simp [q] at e
      | some s =>
        obtain ⟨u, e1, e2⟩ := R.sl i s q
        obtain rfl : u = v := Option.some.inj (Option.some.inj (e1.symm.trans h))
        cases s with
        | fz d =>
          cases d with
          | list ys =>
            simp [q] at e; subst e
            cases e2 with
            | lst h1 h2 => exact ⟨_, _, rfl, R.fh _ _ h1, h2⟩
          | _ => simp [q] at e
        | ow ys => simp [q] at e; subst e; obtain ⟨a, rfl, vs, h1, h2, _⟩ := e2; exact ⟨a, vs, rfl, h1, h2⟩
        | io ys => simp [q] at e; subst e; obtain ⟨a, rfl, vs, h1, h2, _⟩ := e2; exact ⟨a, vs, rfl, h1, h2⟩
        | lk ys => simp [q] at e; subst e; obtain ⟨a, vs, rfl, h1, h2, _⟩ := e2; exact ⟨a, vs, rfl, R.gh _ _ h1, h2⟩
        | scr ys => simp [q] at e

/-! ### + - * // % ** -/
def addD : D → D → Option D
  | .int a, .int b => some (.int (a + b))
  | .str a, .str b => if a.length + b.length ≤ lim then some (.str (a ++ b)) else none
  | .tuple a, .tuple b => if a.length + b.length ≤ lim then some (.tuple (a ++ b)) else none
  | _, _ => none
def gAdd (a b : RV) : Ga → Rs (RV × Ga) := fun Γ => match a.lst Γ, b.lst Γ with
  | some xs, some ys => if xs.length + ys.length ≤ lim then .ok (.ow (xs ++ ys), Γ) else .bad
  | _, _ => g2 addD a b Γ
def subD : D → D → Option D
  | .int a, .int b => some (.int (a - b))
  | _, _ => none
def mulOk (i j : Int) : Bool := decide (i.natAbs.log2 + j.natAbs.log2 < 1000000)
def mulD : D → D → Option D
  | .int a, .int b => if mulOk a b then some (.int (a * b)) else none
  | .tuple a, .int b => if !a.isEmpty && decide (2 ≤ b) && decide (b ≤ 1000) && decide (a.length ≤ 1000) then some (.tuple (List.replicate b.toNat a).flatten) else none
  | _, _ => none
def gMul (a b : RV) : Ga → Rs (RV × Ga) := fun Γ => match a.lst Γ, b.get Γ with
  | some xs, some (.int k) => if -(2 ^ 63) ≤ k ∧ k < 2 ^ 63 ∧ xs.length * k.toNat ≤ lim then .ok (.ow (List.replicate k.toNat xs).flatten, Γ) else .bad
  | _, _ => g2 mulD a b Γ
theorem mulOk_wide {i j : Int} (h : mulOk i j = true) : CMulW i j := by
  unfold mulOk at h
  unfold CMulW
  simpa using h
def fdivOk (j : Int) : Bool := decide (0 < j) && decide (j.natAbs.log2 < 9000)
def fdivD : D → D → Option D
  | .int a, .int b => if fdivOk b then some (.int (a / b)) else none
  | _, _ => none
def modD : D → D → Option D
  | .int a, .int b => if 0 < b then some (.int (a % b)) else none
  | _, _ => none
def powD : D → D → Option D
  | .int a, .int b => if 0 ≤ b ∧ b ≤ 1000000 ∧ a.natAbs < 2 ^ 64 then some (.int (a ^ b.toNat)) else none
  | _, _ => none
def negD : D → Option D
  | .int a => some (.int (-a))
  | _ => none
theorem rep_all {K : Frag} {F : Hp} {vs : List V} {xs : List D} (h : RpAll K F vs xs) : ∀ n : Nat, RpAll K F (List.replicate n vs).flatten (List.replicate n xs).flatten
  | 0 => .nil
  | n + 1 => by
    rw [List.replicate_succ, List.replicate_succ, List.flatten_cons, List.flatten_cons]
    exact RpAll.app h (rep_all h n)
section
variable {X : Cx} {E : WX} {a b : Expr} {fa fb : FnE} {pos : Pos}
theorem fe_add (ha : FE X E a fa) (hb : FE X E b fb) : FE X E (.BinOp a .Add b pos) (eBin gAdd fa fb) :=
  pe_imp (pe_op (op_add.or (op_add_str.or (op_catA.or op_cat))) ha hb) (tE_bin fun G pn F Γ σ H x y ra rb Q R r1 r2 h => by
    unfold gAdd at h
    split at h
    · rename_i xs ys e1 e2
      split at h
      · rename_i hz
        obtain ⟨l, vs, rfl, h1, h2⟩ := rv_lst R r1 e1
        obtain ⟨m, us, rfl, h3, h4⟩ := rv_lst R r2 e2
        exact .inr (.inr (.inr ⟨l, m, vs, us, rfl, rfl, h1, h3, by rw [lim_eq, h2.len, h4.len]; exact hz, fun p hp => post_ow R h (h2.app h4) hp⟩))
      · exact h.elim
    · obtain ⟨d, e, z, q1, q2, q3, h⟩ := post_g2 h
      have k1 := rv_get R r1 q1
      have k2 := rv_get R r2 q2
      unfold addD at q3
      split at q3
      · cases q3
        exact .inl ⟨_, _, dp_int k1, dp_int k2, post_d R h (.int _)⟩
      · split at q3
        · rename_i hz
          cases q3
          exact .inr (.inl ⟨_, _, dp_str k1, dp_str k2, by rw [lim_eq]; exact hz, post_d R h (.str _)⟩)
        · cases q3
      · split at q3
        · rename_i hz
          cases q3
          obtain ⟨l, vs, rfl, h1, h2, f1⟩ := rv_tup R r1 q1
          obtain ⟨m, us, rfl, h3, h4, f2⟩ := rv_tup R r2 q2
          refine .inr (.inr (.inl ⟨l, m, vs, us, rfl, rfl, h1, h3, by rw [lim_eq, h2.len, h4.len]; exact hz, fun z => ?_, fun _ z => ?_, fun _ _ p hp => post_tup R h (h2.app h4) hp⟩))
          · subst z
            cases h2
            exact post_d R h (.tup f2 h4)
          · subst z
            cases h4
            rw [List.append_nil] at h
            exact post_d R h (.tup f1 h2)
        · cases q3
      · cases q3)
theorem fe_sub (ha : FE X E a fa) (hb : FE X E b fb) : FE X E (.BinOp a .Sub b pos) (eBin (g2 subD) fa fb) :=
  pe_imp (pe_op op_sub ha hb) (tE_bin fun G pn F Γ σ H x y ra rb Q R r1 r2 h => by
    obtain ⟨d, e, z, q1, q2, q3, h⟩ := post_g2 h
    unfold subD at q3
    split at q3
    · cases q3
      exact ⟨_, _, dp_int (rv_get R r1 q1), dp_int (rv_get R r2 q2), post_d R h (.int _)⟩
    · cases q3)
theorem fe_mul (ha : FE X E a fa) (hb : FE X E b fb) : FE X E (.BinOp a .Mult b pos) (eBin gMul fa fb) :=
  pe_imp (pe_op (op_mulW.or (op_repT.or op_rep)) ha hb) (tE_bin fun G pn F Γ σ H x y ra rb Q R r1 r2 h => by
    unfold gMul at h
    split at h
    · rename_i xs k e1 e2
      split at h
      · rename_i hz
        obtain ⟨l, vs, rfl, h1, h2⟩ := rv_lst R r1 e1
        exact .inr (.inr ⟨l, k, vs, rfl, dp_int (rv_get R r2 e2), h1, hz.1, hz.2.1, by rw [lim_eq, h2.len]; exact hz.2.2, fun p hp => post_ow R h (rep_all h2 _) hp⟩)
      · exact h.elim
    · obtain ⟨d, e, z, q1, q2, q3, h⟩ := post_g2 h
      unfold mulD at q3
      split at q3
      · split at q3
        · rename_i hz
          cases q3
          exact .inl ⟨_, _, dp_int (rv_get R r1 q1), dp_int (rv_get R r2 q2), mulOk_wide hz, post_d R h (.int _)⟩
        · cases q3
      · split at q3
        · rename_i hz
          cases q3
          obtain ⟨l, vs, rfl, h1, h2, f1⟩ := rv_tup R r1 q1
          simp only [Bool.and_eq_true, decide_eq_true_eq] at hz
          obtain ⟨⟨⟨z1, z2⟩, z3⟩, z4⟩ := hz
          refine .inr (.inl ⟨l, _, vs, rfl, dp_int (rv_get R r2 q2), h1, fun z => ?_, z2, z3, by rw [h2.len]; exact z4, fun p hp => post_tup R h (rep_all h2 _) hp⟩)
          subst z
          cases h2
          simp at z1
        · cases q3
      · cases q3)
theorem fe_fdiv (ha : FE X E a fa) (hb : FE X E b fb) : FE X E (.BinOp a .FloorDiv b pos) (eBin (g2 fdivD) fa fb) :=
  pe_imp (pe_op op_fdivW ha hb) (tE_bin fun G pn F Γ σ H x y ra rb Q R r1 r2 h => by
    obtain ⟨d, e, z, q1, q2, q3, h⟩ := post_g2 h
    unfold fdivD at q3
    split at q3
    · split at q3
      · rename_i hz
        cases q3
        simp only [fdivOk, Bool.and_eq_true, decide_eq_true_eq] at hz
        exact ⟨_, _, dp_int (rv_get R r1 q1), dp_int (rv_get R r2 q2), hz, post_d R h (.int _)⟩
      · cases q3
    · cases q3)
theorem fe_mod (ha : FE X E a fa) (hb : FE X E b fb) : FE X E (.BinOp a .Mod b pos) (eBin (g2 modD) fa fb) :=
  pe_imp (pe_op op_mod ha hb) (tE_bin fun G pn F Γ σ H x y ra rb Q R r1 r2 h => by
    obtain ⟨d, e, z, q1, q2, q3, h⟩ := post_g2 h
    unfold modD at q3
    split at q3
    · split at q3
      · rename_i hz
        cases q3
        exact ⟨_, _, dp_int (rv_get R r1 q1), dp_int (rv_get R r2 q2), hz, post_d R h (.int _)⟩
      · cases q3
    · cases q3)
theorem fe_pow (ha : FE X E a fa) (hb : FE X E b fb) : FE X E (.BinOp a .Pow b pos) (eBin (g2 powD) fa fb) :=
  pe_imp (pe_op op_pow ha hb) (tE_bin fun G pn F Γ σ H x y ra rb Q R r1 r2 h => by
    obtain ⟨d, e, z, q1, q2, q3, h⟩ := post_g2 h
    unfold powD at q3
    split at q3
    · split at q3
      · rename_i hz
        cases q3
        exact ⟨_, _, dp_int (rv_get R r1 q1), dp_int (rv_get R r2 q2), hz, post_d R h (.int _)⟩
      · cases q3
    · cases q3)
theorem fe_neg (ha : FE X E a fa) : FE X E (.UnaryOp .USub a pos) (eUn (g1 negD) fa) :=
  pe_imp (pe_un un_neg ha) (tE_un fun G pn F Γ σ H x ra Q R r1 h => by
    obtain ⟨d, z, q1, q3, h⟩ := post_g1 h
    unfold negD at q3
    split at q3
    · cases q3
      exact ⟨_, dp_int (rv_get R r1 q1), post_d R h (.int _)⟩
    · cases q3)
end

/-! ### comparisons: their rules on values -/
def ltD : D → D → Option Bool
  | .int a, .int b => some (decide (a < b))
  | _, _ => none
def leD : D → D → Option Bool
  | .int a, .int b => some (decide (a ≤ b))
  | _, _ => none
def gtD : D → D → Option Bool
  | .int a, .int b => some (decide (b < a))
  | _, _ => none
def geD : D → D → Option Bool
  | .int a, .int b => some (decide (b ≤ a))
  | _, _ => none
def eqD (x y : D) : Option Bool := if SeqAt.shaped x && SeqAt.shaped y then some (PyData.eqv x y) else none
def neD (x y : D) : Option Bool := (eqD x y).map (!·)
def flatD : D → Bool
  | .none => true
  | .bool _ => true
  | .int _ => true
  | .str _ => true
  | _ => false
def inD (x y : D) : Option Bool := match y with
  | .list ds => if SeqAt.shaped x && SeqAt.shaped (.list ds) then some (ds.any fun z => PyData.eqv z x) else none
  | .tuple ds => if flatD x && ds.all flatD then some (ds.any fun z => PyData.eqv z x) else none
  | .str z => (match x with
    | .str ⟨⟨[c]⟩⟩ => some (decide (c ∈ z.cps.toList))
    | _ => none)
  | _ => none
def notInD (x y : D) : Option Bool := (inD x y).map (!·)
def isND (x y : D) : Option Bool := match y with
  | .none => some (isNone x)
  | _ => none
def isNotND (x y : D) : Option Bool := match y with
  | .none => some (!isNone x)
  | _ => none
def gB (op : D → D → Option Bool) : RV → RV → Ga → Rs (RV × Ga) := g2 fun x y => (op x y).map .bool
theorem post_gB {K : Frag} {mg : Str → Option Value} {E : WX} {G : Hp} {pn : List (Nat × Addr)} {σ : St} {F H : Hp} {Q : VK} {op : D → D → Option Bool} {a b : RV} {Γ : Ga} (R : Rep K G pn Γ σ F H) (h : PostE K mg E G pn σ F Q (gB op a b Γ)) :
    ∃ x y z, a.get Γ = some x ∧ b.get Γ = some y ∧ op x y = some z ∧ Q (.bl z) H := by
  obtain ⟨x, y, z, q1, q2, q3, h⟩ := post_g2 h
  cases e : op x y with
  | none => rw [e] at q3; cases q3
  | some c =>
    rw [e] at q3
    cases q3
    exact ⟨x, y, c, q1, q2, e, post_d R h (.bl c)⟩
/-- a rule for a comparison, told on data -/
def CmpF (X : Cx) (op : CmpOp) (f : D → D → Option Bool) (r : R2) : Prop := OpR X (compareOp op) r ∧ ∀ (K : Frag) (_ : K = X.K) (H : Hp) (x y : V) (d e : D) (z : Bool) (Q : VK), Dp K H x d → Dp K H y e → f d e = some z → Q (.bl z) H → r x y H Q

theorem flat_dp {K : Frag} {H : Hp} {v : V} {d : D} (h : Dp K H v d) (f : flatD d = true) : flatV v = true := by
  cases h <;> first | rfl | cases f
theorem eqV_dp {K : Frag} {H : Hp} {v u : V} {d e : D} (h : Dp K H v d) (k : Dp K H u e) (f : flatD d = true) (f2 : flatD e = true) : eqV v u = PyData.eqv d e := by
  cases h <;> first | (cases f; done) | (cases k <;> first | (cases f2; done) | (unfold PyData.eqv; rfl))
theorem inV_dp {K : Frag} {H : Hp} {u : V} {e : D} (k : Dp K H u e) (f2 : flatD e = true) : ∀ {vs : List V} {ds : List D}, DpAll K H vs ds → ds.all flatD = true → inV u vs = ds.any fun z => PyData.eqv z e
  | _, [], h, _ => by cases h; rfl
  | _, d :: ds, h, f => by
    cases h with
    | cons h1 h2 =>
      rw [List.all_cons, Bool.and_eq_true] at f
      have ih := inV_dp k f2 h2 f.2
      unfold inV at ih ⊢
      rw [List.any_cons, List.any_cons, ih, eqV_dp h1 k f.1 f2]
theorem flats_dp {K : Frag} {H : Hp} : ∀ {vs : List V} {ds : List D}, DpAll K H vs ds → ds.all flatD = true → vs.all flatV = true
  | _, [], h, _ => by cases h; rfl
  | _, d :: ds, h, f => by
    cases h with
    | cons h1 h2 =>
      rw [List.all_cons, Bool.and_eq_true] at f
      rw [List.all_cons, Bool.and_eq_true]
      exact ⟨flat_dp h1 f.1, flats_dp h2 f.2⟩

section
variable {X : Cx}
theorem cf_lt : CmpF X .Lt ltD (rI0 fun i j => .bl (decide (i < j))) := ⟨op_lt, fun K eK H x y d e z Q h1 h2 f q => by
  unfold ltD at f
  split at f
  · cases f; exact ⟨_, _, dp_int h1, dp_int h2, q⟩
  · cases f⟩
theorem cf_le : CmpF X .LtE leD (rI0 fun i j => .bl (decide (i ≤ j))) := ⟨op_le, fun K eK H x y d e z Q h1 h2 f q => by
  unfold leD at f
  split at f
  · cases f; exact ⟨_, _, dp_int h1, dp_int h2, q⟩
  · cases f⟩
theorem cf_gt : CmpF X .Gt gtD (rI0 fun i j => .bl (decide (j < i))) := ⟨op_gt, fun K eK H x y d e z Q h1 h2 f q => by
  unfold gtD at f
  split at f
  · cases f; exact ⟨_, _, dp_int h1, dp_int h2, q⟩
  · cases f⟩
theorem cf_ge : CmpF X .GtE geD (rI0 fun i j => .bl (decide (j ≤ i))) := ⟨op_ge, fun K eK H x y d e z Q h1 h2 f q => by
  unfold geD at f
  split at f
  · cases f; exact ⟨_, _, dp_int h1, dp_int h2, q⟩
  · cases f⟩
theorem cf_eq (hu : X.A.units + 64 < cLine) : CmpF X .Eq eqD (rEqD X.K) := ⟨op_eqD hu, fun K eK H x y d e z Q h1 h2 f q => by
  subst eK
  unfold eqD at f
  split at f
  · rename_i hs
    cases f
    rw [Bool.and_eq_true] at hs
    exact ⟨d, e, h1, h2, hs.1, hs.2, q⟩
  · cases f⟩
theorem cf_ne (hu : X.A.units + 64 < cLine) : CmpF X .NotEq neD (rNeD X.K) := ⟨op_neD hu, fun K eK H x y d e z Q h1 h2 f q => by
  subst eK
  unfold neD eqD at f
  split at f
  · rename_i hs
    cases f
    rw [Bool.and_eq_true] at hs
    exact ⟨d, e, h1, h2, hs.1, hs.2, q⟩
  · cases f⟩
def rInA (K : Frag) : R2 := fun x y H Q => rInD K x y H Q ∨ rIn K false x y H Q ∨ ∃ (c : Nat) (z : Str), x = .str ⟨#[c]⟩ ∧ y = .str z ∧ Q (.bl (decide (c ∈ z.cps.toList))) H
def rNotInA (K : Frag) : R2 := fun x y H Q => rNotInD K x y H Q ∨ rIn K true x y H Q ∨ ∃ (c : Nat) (z : Str), x = .str ⟨#[c]⟩ ∧ y = .str z ∧ Q (.bl (!decide (c ∈ z.cps.toList))) H
theorem cf_in (hu : X.A.units + 65 < cLine) : CmpF X .In inD (rInA X.K) := ⟨(op_inD hu).or (op_in_seq.or op_in_sign), fun K eK H x y d e z Q h1 h2 f q => by
  subst eK
  unfold inD at f
  split at f
  · split at f
    · rename_i hs
      cases f
      rw [Bool.and_eq_true] at hs
      exact .inl ⟨_, _, h1, h2, hs.1, hs.2, q⟩
    · cases f
  · split at f
    · rename_i hs
      cases f
      rw [Bool.and_eq_true] at hs
      cases h2 with
      | tup g1 g2 => exact .inr (.inl ⟨_, _, rfl, .inr g1, flat_dp h1 hs.1, flats_dp g2 hs.2, by rw [if_neg Bool.false_ne_true, inV_dp h1 hs.1 g2 hs.2]; exact q⟩)
    · cases f
  · split at f
    · cases f
      exact .inr (.inr ⟨_, _, dp_str h1, dp_str h2, q⟩)
    · cases f
  · cases f⟩
theorem cf_notIn (hu : X.A.units + 65 < cLine) : CmpF X .NotIn notInD (rNotInA X.K) := ⟨(op_notInD hu).or (op_notIn_seq.or op_notIn_sign), fun K eK H x y d e z Q h1 h2 f q => by
  subst eK
  unfold notInD inD at f
  split at f
  · split at f
    · rename_i hs
      cases f
      rw [Bool.and_eq_true] at hs
      exact .inl ⟨_, _, h1, h2, hs.1, hs.2, q⟩
    · cases f
  · split at f
    · rename_i hs
      cases f
      rw [Bool.and_eq_true] at hs
      cases h2 with
      | tup g1 g2 => exact .inr (.inl ⟨_, _, rfl, .inr g1, flat_dp h1 hs.1, flats_dp g2 hs.2, by rw [if_pos rfl, inV_dp h1 hs.1 g2 hs.2]; exact q⟩)
    · cases f
  · split at f
    · cases f
      exact .inr (.inr ⟨_, _, dp_str h1, dp_str h2, q⟩)
    · cases f
  · cases f⟩
theorem none_dp {K : Frag} {H : Hp} {v : V} {d : D} (h : Dp K H v d) : decide (v = .non) = isNone d := by
  cases h <;> simp [isNone]
theorem cf_is : CmpF X .Is isND (fun x y H Q => y = .non ∧ Q (.bl (decide (x = .non))) H) := ⟨op_isN, fun K eK H x y d e z Q h1 h2 f q => by
  unfold isND at f
  split at f
  · cases f
    exact ⟨dp_non h2, by rw [none_dp h1]; exact q⟩
  · cases f⟩
theorem cf_isNot : CmpF X .IsNot isNotND (fun x y H Q => y = .non ∧ Q (.bl (!decide (x = .non))) H) := ⟨op_notN, fun K eK H x y d e z Q h1 h2 f q => by
  unfold isNotND at f
  split at f
  · cases f
    exact ⟨dp_non h2, by rw [none_dp h1]; exact q⟩
  · cases f⟩

variable {E : WX} {a b : Expr} {fa fb : FnE} {pos : Pos} {op : CmpOp} {f : D → D → Option Bool} {r : R2}
theorem key_cmp (c : CmpF X op f r) : ∀ σ H Q, tE X.K X.mg E (eBin (gB f) fa fb) σ H Q → tOp r (tE X.K X.mg E fa) (tE X.K X.mg E fb) σ H Q :=
  tE_bin fun G pn F Γ σ H x y ra rb Q R r1 r2 h => by
    obtain ⟨d, e, z, q1, q2, q3, h⟩ := post_gB R h
    exact c.2 X.K rfl H x y d e z Q (rv_get R r1 q1) (rv_get R r2 q2) q3 h
theorem fe_cmp (c : CmpF X op f r) (ha : FE X E a fa) (hb : FE X E b fb) (hm : behindInMarks op b = false) : FE X E (.Compare a [op] [b] pos) (eBin (gB f) fa fb) := pe_imp (pe_cmpR c.1 ha hb hm) (key_cmp c)

/-! ### tests -/
/-- a value as a test: it is a truth -/
def tst (f : FnE) : FnT := fun Γ => (f Γ).bind fun p => match p.1 with
  | .d (.bool b) => .ok (b, p.2)
  | _ => .bad
theorem tT_tst {K : Frag} {mg : Str → Option Value} {f : FnE} : ∀ σ H Q, tT K mg E (tst f) σ H Q → tTest (tE K mg E f) σ H Q := fun σ H Q ⟨G, pn, F, Γ, R, h⟩ => by
  refine ⟨G, pn, F, Γ, R, ?_⟩
  unfold tst at h
  cases e : f Γ with
  | bad => rw [e] at h; exact h
  | exc x => rw [e] at h; exact h
  | ok p =>
    obtain ⟨rv, Γ'⟩ := p
    rw [e] at h
    intro v F' H' A R' rr
    cases rv with
    | ow xs => exact h.elim
    | sl i => exact h.elim
    | d x =>
      cases x with
      | bool c => cases rr; exact ⟨c, rfl, h F' H' A R'⟩
      | _ => exact h.elim
theorem tTest_mono {t t' : TE} (h : ∀ σ H Q, t' σ H Q → t σ H Q) : ∀ σ H Q, tTest t' σ H Q → tTest t σ H Q := fun σ H Q q => h _ _ _ q
theorem ft_cmp (c : CmpF X op f r) (ha : FE X E a fa) (hb : FE X E b fb) (hm : behindInMarks op b = false) : FT X E (.Compare a [op] [b] pos) (tst (eBin (gB f) fa fb)) :=
  pt_imp (pt_cmpR c.1 ha hb hm) fun σ H Q h => tTest_mono (key_cmp c) σ H Q (tT_tst σ H Q h)
theorem ft_val {e : Expr} {g : FnE} (h : FE X E e g) (he : ∀ whole, isTrue e X.env whole = (do let v ← whole; standAt e.pos; holding [v] (truthy v)) := by intro _; rfl) : FT X E e (tst g) :=
  pt_imp (pt_val h he) fun σ H Q q => tT_tst σ H Q q
def fNot (f : FnT) : FnT := fun Γ => (f Γ).bind fun p => .ok (!p.1, p.2)
def fAnd (f g : FnT) : FnT := fun Γ => (f Γ).bind fun p => if p.1 then g p.2 else .ok (false, p.2)
def fOr (f g : FnT) : FnT := fun Γ => (f Γ).bind fun p => if p.1 then .ok (true, p.2) else g p.2
variable {ft gt : FnT} {rest : List Expr}
theorem ft_not (ha : FT X E a ft) : FT X E (.UnaryOp .Not a pos) (fNot ft) := pt_imp (pt_not ha) fun σ H Q ⟨G, pn, F, Γ, R, h⟩ => by
  refine ⟨G, pn, F, Γ, R, ?_⟩
  unfold fNot at h
  cases e : ft Γ with
  | bad => rw [e] at h; exact h
  | exc x => rw [e] at h; exact h
  | ok p => rw [e] at h; exact h
theorem tT_bind {K : Frag} {mg : Str → Option Value} {f g h : FnT} {G : Hp} {pn : List (Nat × Addr)} {F : Hp} {Γ : Ga} {σ : St} {H : Hp} {Q Q' : Bool → Hp → Prop} {k : Bool → FnT} (R : Rep K G pn Γ σ F H)
    (q : PostT K mg E G pn σ F Q ((f Γ).bind fun p => k p.1 p.2)) (step : ∀ c Γ' F' H', Rep K G pn Γ' σ F' H' → PostT K mg E G pn σ F' Q (k c Γ') → Q' c H') : PostT K mg E G pn σ F Q' (f Γ) := by
  cases e : f Γ with
  | bad => rw [e] at q; exact q
  | exc x => rw [e] at q; exact q
  | ok p =>
    obtain ⟨c, Γ'⟩ := p
    rw [e] at q
    exact fun F' H' A R' => step c Γ' F' H' R' (PostT.adv q A)
theorem fw_and1 (ha : FT X E a ft) : PW X (.BoolOp .And [a] pos) (tT X.K X.mg E ft) := pw_and1 ha
theorem fw_or1 (ha : FT X E a ft) : PW X (.BoolOp .Or [a] pos) (tT X.K X.mg E ft) := pw_or1 ha
theorem fw_and (ha : FT X E a ft) (hb : PW X (.BoolOp .And (b :: rest) pos) (tT X.K X.mg E gt)) : PW X (.BoolOp .And (a :: b :: rest) pos) (tT X.K X.mg E (fAnd ft gt)) :=
  pw_imp (pw_and ha hb) fun σ H Q ⟨G, pn, F, Γ, R, h⟩ => ⟨G, pn, F, Γ, R, tT_bind (f := ft) (g := ft) (h := ft) (k := fun c Γ => if c then gt Γ else .ok (false, Γ)) R h fun c Γ' F' H' R' q => by
    cases c with
    | true => exact ⟨G, pn, F', Γ', R', q⟩
    | false => exact q F' H' (Adv.refl G F') R'⟩
theorem fw_or (ha : FT X E a ft) (hb : PW X (.BoolOp .Or (b :: rest) pos) (tT X.K X.mg E gt)) : PW X (.BoolOp .Or (a :: b :: rest) pos) (tT X.K X.mg E (fOr ft gt)) :=
  pw_imp (pw_or ha hb) fun σ H Q ⟨G, pn, F, Γ, R, h⟩ => ⟨G, pn, F, Γ, R, tT_bind (f := ft) (g := ft) (h := ft) (k := fun c Γ => if c then .ok (true, Γ) else gt Γ) R h fun c Γ' F' H' R' q => by
    cases c with
    | true => exact q F' H' (Adv.refl G F') R'
    | false => exact ⟨G, pn, F', Γ', R', q⟩⟩

/-! ### and, or, not as values (truths) -/
def eAnd (f g : FnE) : FnE := fun Γ => (tst f Γ).bind fun p => if p.1 then g p.2 else .ok (.d (.bool false), p.2)
def eOr (f g : FnE) : FnE := fun Γ => (tst f Γ).bind fun p => if p.1 then .ok (.d (.bool true), p.2) else g p.2
def eNot (f : FnE) : FnE := fun Γ => (tst f Γ).bind fun p => .ok (.d (.bool (!p.1)), p.2)
theorem tE_tst {K : Frag} {mg : Str → Option Value} {f : FnE} {G : Hp} {pn : List (Nat × Addr)} {F : Hp} {Γ : Ga} {σ : St} {H : Hp} {Q Q' : VK} {k : Bool → FnE} (R : Rep K G pn Γ σ F H)
    (q : PostE K mg E G pn σ F Q ((tst f Γ).bind fun p => k p.1 p.2)) (step : ∀ c Γ' F' H', Rep K G pn Γ' σ F' H' → PostE K mg E G pn σ F' Q (k c Γ') → Q' (.bl c) H') : PostE K mg E G pn σ F Q' (f Γ) := by
  unfold tst at q
  cases e : f Γ with
  | bad => rw [e] at q; exact q
  | exc x => rw [e] at q; exact q
  | ok p =>
    obtain ⟨rv, Γ'⟩ := p
    rw [e] at q
    intro v F' H' A R' rr
    cases rv with
    | ow xs => exact q.elim
    | sl i => exact q.elim
    | d x =>
      cases x with
      | bool c => cases rr; exact step c Γ' F' H' R' (PostE.adv q A)
      | _ => exact q.elim
theorem fe_one {opb : BoolOp} (ha : FE X E a fa) : FE X E (.BoolOp opb [a] pos) fa := pe_one ha
theorem fe_and (ha : FE X E a fa) (hb : FE X E (.BoolOp .And (b :: rest) pos) fb) : FE X E (.BoolOp .And (a :: b :: rest) pos) (eAnd fa fb) :=
  pe_imp (pe_and ha hb) fun σ H Q ⟨G, pn, F, Γ, R, h⟩ => ⟨G, pn, F, Γ, R, tE_tst (k := fun c Γ => if c then fb Γ else .ok (.d (.bool false), Γ)) R h fun c Γ' F' H' R' q => by
    refine ⟨c, rfl, ?_⟩
    cases c with
    | true => exact ⟨G, pn, F', Γ', R', q⟩
    | false => exact post_d R' q (.bl false)⟩
theorem fe_or (ha : FE X E a fa) (hb : FE X E (.BoolOp .Or (b :: rest) pos) fb) : FE X E (.BoolOp .Or (a :: b :: rest) pos) (eOr fa fb) :=
  pe_imp (pe_or ha hb) fun σ H Q ⟨G, pn, F, Γ, R, h⟩ => ⟨G, pn, F, Γ, R, tE_tst (k := fun c Γ => if c then .ok (.d (.bool true), Γ) else fb Γ) R h fun c Γ' F' H' R' q => by
    refine ⟨c, rfl, ?_⟩
    cases c with
    | true => exact post_d R' q (.bl true)
    | false => exact ⟨G, pn, F', Γ', R', q⟩⟩
theorem fe_not (ha : FE X E a fa) : FE X E (.UnaryOp .Not a pos) (eNot fa) :=
  pe_imp (pe_not ha) fun σ H Q ⟨G, pn, F, Γ, R, h⟩ => ⟨G, pn, F, Γ, R, tE_tst (k := fun c Γ => .ok (.d (.bool (!c)), Γ)) R h fun c Γ' F' H' R' q => ⟨c, rfl, post_d R' q (.bl _)⟩⟩
def eIf (t : FnT) (f g : FnE) : FnE := fun Γ => (t Γ).bind fun p => if p.1 then f p.2 else g p.2
theorem fe_if {c : Expr} (hc : FT X E c ft) (ha : FE X E a fa) (hb : FE X E b fb) : FE X E (.IfExp c a b pos) (eIf ft fa fb) :=
  pe_imp (pe_ifExp hc ha hb) fun σ H Q ⟨G, pn, F, Γ, R, h⟩ => by
    refine ⟨G, pn, F, Γ, R, ?_⟩
    unfold eIf at h
    cases e : ft Γ with
    | bad => rw [e] at h; exact h
    | exc x => rw [e] at h; exact h
    | ok p =>
      obtain ⟨c, Γ'⟩ := p
      rw [e] at h
      intro F' H' A R'
      cases c with
      | true => exact ⟨G, pn, F', Γ', R', PostE.adv h A⟩
      | false => exact ⟨G, pn, F', Γ', R', PostE.adv h A⟩
end

/-! ### lists of expressions -/
def aNil : FnA := fun Γ => .ok ([], Γ)
def aCons (f : FnE) (g : FnA) : FnA := fun Γ => (eOp f Γ).bind fun p => (g p.2).bind fun q => .ok (p.1 :: q.1, q.2)
section
variable {X : Cx} {E : WX} {e : Expr} {es : List Expr} {f : FnE} {g : FnA} {pos : Pos}
theorem fa_nil : FA X E [] aNil := pa_imp pa_nil fun σ H Q ⟨G, pn, F, Γ, R, h⟩ => h [] F H (Adv.refl G F) R .nil
theorem eOp_still {Γ Γ' : Ga} {rv : RV} (h : eOp f Γ = .ok (rv, Γ')) : rv.still = true := by
  unfold eOp at h
  cases e : f Γ with
  | bad => rw [e] at h; cases h
  | exc x => rw [e] at h; cases h
  | ok p => rw [e] at h; cases h; exact RV.fz_still _
theorem fa_cons (ha : FE X E e f) (hr : FA X E es g) (hs : starEach (e :: es) X.env = (false, eval e X.env) :: starEach es X.env := by rfl) : FA X E (e :: es) (aCons f g) :=
  pa_imp (pa_cons ha hr hs) fun σ H Q ⟨G, pn, F, Γ, R, h⟩ => by
    refine tE_op _ _ _ ⟨G, pn, F, Γ, R, ?_⟩
    unfold aCons at h
    cases q : eOp f Γ with
    | bad => rw [q] at h; exact h
    | exc x => rw [q] at h; exact h
    | ok p =>
      obtain ⟨rv, Γ1⟩ := p
      rw [q] at h
      have st := eOp_still q
      intro v F1 H1 A1 R1 r1
      refine ⟨G, pn, F1, Γ1, R1, ?_⟩
      simp only [Rs.bind_ok] at h
      cases q2 : g Γ1 with
      | bad => rw [q2] at h; exact h
      | exc x => rw [q2] at h; exact PostX.adv h A1
      | ok p2 =>
        obtain ⟨rs, Γ2⟩ := p2
        rw [q2] at h
        intro vs F2 H2 A2 R2 r2
        refine h (v :: vs) F2 H2 (A1.trans A2) R2 ?_
        cases rv with
        | ow xs => cases st
        | d x => exact .d (Rp.mono A2.same r1) r2
        | sl i => exact .sl r1 r2

/-- what each argument holds, frozen -/
def rvFz (Γ : Ga) : RV → Option (D × Ga)
  | .d x => some (x, Γ)
  | .ow xs => some (.list xs, Γ)
  | .sl i => match Γ[i]? with
    | some (some (.ow xs)) => some (.list xs, Γ.set i (some (.fz (.list xs))))
    | some (some (.fz d)) => some (d, Γ)
    | _ => none
def rvsFz : List RV → Ga → Option (List D × Ga)
  | [], Γ => some ([], Γ)
  | r :: rs, Γ => match rvFz Γ r with
    | some (x, Γ1) => (match rvsFz rs Γ1 with
      | some (xs, Γ2) => some (x :: xs, Γ2)
      | none => none)
    | none => none
section
variable {K : Frag} {G : Hp} {pn : List (Nat × Addr)} {Γ Γ' : Ga} {σ : St} {F F' H H' : Hp}
theorem rvFz_ok {v : V} {r : RV} {x : D} (R : Rep K G pn Γ σ F H) (h : (∃ d, r = .d d ∧ Rp K F v d) ∨ ∃ i, r = .sl i ∧ σ[i]? = some (some v)) (e : rvFz Γ r = some (x, Γ')) : ∃ F', Adv G F F' ∧ Rep K G pn Γ' σ F' H ∧ Rp K F' v x := by
  rcases h with ⟨d, rfl, h⟩ | ⟨i, rfl, h⟩
  · cases e
    exact ⟨F, Adv.refl G F, R, h⟩
  · unfold rvFz at e
    cases q : Γ[i]? with
    | none => simp [q] at e
    | some o =>
      cases o with
      | none => simp [q] at e
      | some s =>
        cases s with
        | ow xs =>
          simp only [q] at e
          cases e
          obtain ⟨F', v', A, R', hv, rp⟩ := R.freeze q
          rw [h] at hv
          cases hv
          exact ⟨F', A, R', rp⟩
        | fz d =>
          simp only [q] at e
          cases e
          obtain ⟨u, e1, e2⟩ := R.sl i _ q
          rw [h] at e1
          cases e1
          exact ⟨F, Adv.refl G F, R, e2⟩
        | _ => simp [q] at e
theorem rvsFz_ok {vs : List V} {rs : List RV} {xs : List D} (R : Rep K G pn Γ σ F H) (h : RvAll K F σ vs rs) (e : rvsFz rs Γ = some (xs, Γ')) : ∃ F', Adv G F F' ∧ Rep K G pn Γ' σ F' H ∧ RpAll K F' vs xs := by
  induction rs generalizing vs xs Γ F with
  | nil =>
    cases h
    cases e
    exact ⟨F, Adv.refl G F, R, .nil⟩
  | cons r rs ih =>
    unfold rvsFz at e
    cases q : rvFz Γ r with
    | none => simp [q] at e
    | some p =>
      obtain ⟨x, Γ1⟩ := p
      simp only [q] at e
      cases q2 : rvsFz rs Γ1 with
      | none => simp [q2] at e
      | some p2 =>
        obtain ⟨ys, Γ2⟩ := p2
        simp only [q2] at e
        cases e
        have : ∃ v us, vs = v :: us ∧ ((∃ d, r = .d d ∧ Rp K F v d) ∨ ∃ i, r = .sl i ∧ σ[i]? = some (some v)) ∧ RvAll K F σ us rs := by
          cases h with
          | d h1 h2 => exact ⟨_, _, rfl, .inl ⟨_, rfl, h1⟩, h2⟩
          | sl h1 h2 => exact ⟨_, _, rfl, .inr ⟨_, rfl, h1⟩, h2⟩
        obtain ⟨v, us, rfl, h1, h2⟩ := this
        obtain ⟨F1, A1, R1, rp⟩ := rvFz_ok R h1 q
        obtain ⟨F2, A2, R2, rps⟩ := ih R1 (h2.keep A1.same) q2
        exact ⟨F2, A1.trans A2, R2, .cons (Rp.mono A2.same rp) rps⟩
end

/-- a tuple, a list of written items -/
def eTup (g : FnA) : FnE := fun Γ => (g Γ).bind fun p => match rvsFz p.1 p.2 with
  | some (xs, Γ') => if xs.length ≤ lim then .ok (.d (.tuple xs), Γ') else .bad
  | none => .bad
def eLst (g : FnA) : FnE := fun Γ => (g Γ).bind fun p => match rvsFz p.1 p.2 with
  | some (xs, Γ') => if xs.length ≤ lim then .ok (.ow xs, Γ') else .bad
  | none => .bad
theorem fe_tup {k : Nat} (h : FA X E es g) : FE X E (.Tuple es k pos) (eTup g) := pe_imp (pe_tup h) fun σ H Q ⟨G, pn, F, Γ, R, h⟩ => by
  refine ⟨G, pn, F, Γ, R, ?_⟩
  unfold eTup at h
  cases q : g Γ with
  | bad => rw [q] at h; exact h
  | exc x => rw [q] at h; exact h
  | ok p =>
    obtain ⟨rs, Γ1⟩ := p
    rw [q] at h
    intro vs F1 H1 A1 R1 r1
    simp only [Rs.bind_ok] at h
    cases q2 : rvsFz rs Γ1 with
    | none => simp only [q2] at h; exact h.elim
    | some p2 =>
      obtain ⟨xs, Γ2⟩ := p2
      simp only [q2] at h
      split at h
      · rename_i hz
        obtain ⟨F2, A2, R2, rp⟩ := rvsFz_ok R1 r1 q2
        exact ⟨by rw [lim_eq, rp.len]; exact hz, fun p hp => post_tup R2 (PostE.adv h (A1.trans A2)) rp hp⟩
      · exact h.elim
theorem fe_lst (h : FA X E es g) : FE X E (.List es pos) (eLst g) := pe_imp (pe_lst h) fun σ H Q ⟨G, pn, F, Γ, R, h⟩ => by
  refine ⟨G, pn, F, Γ, R, ?_⟩
  unfold eLst at h
  cases q : g Γ with
  | bad => rw [q] at h; exact h
  | exc x => rw [q] at h; exact h
  | ok p =>
    obtain ⟨rs, Γ1⟩ := p
    rw [q] at h
    intro vs F1 H1 A1 R1 r1
    simp only [Rs.bind_ok] at h
    cases q2 : rvsFz rs Γ1 with
    | none => simp only [q2] at h; exact h.elim
    | some p2 =>
      obtain ⟨xs, Γ2⟩ := p2
      simp only [q2] at h
      split at h
      · rename_i hz
        obtain ⟨F2, A2, R2, rp⟩ := rvsFz_ok R1 r1 q2
        exact ⟨by rw [lim_eq, rp.len]; exact hz, fun p hp => post_ow R2 (PostE.adv h (A1.trans A2)) rp hp⟩
      · exact h.elim
end

/-! ### subscripts -/
def ixD : D → D → Option D
  | .list xs, .int i => atI xs i
  | .tuple xs, .int i => atI xs i
  | .str z, .int i => if z.length ≤ lim then (atI z.cps.toList i).map fun c => .str ⟨#[c]⟩ else none
  | _, _ => none
theorem atI_rp {K : Frag} {F : Hp} {vs : List V} {xs : List D} {i : Int} {x : D} (h : RpAll K F vs xs) (e : atI xs i = some x) : ∃ v, atI vs i = some v ∧ Rp K F v x := by
  unfold atI at e ⊢
  rw [h.len]
  cases q : ixN xs.length i with
  | none => rw [q] at e; cases e
  | some j =>
    rw [q] at e
    exact h.at e
/-- lo:hi of a list -/
def cutD (xs : List D) (lo hi : Option Int) : List D := (xs.drop (HT.sIx xs.length 0 lo)).take (HT.sIx xs.length xs.length hi - HT.sIx xs.length 0 lo)
theorem cut_rp {K : Frag} {F : Hp} {vs : List V} {xs : List D} {lo hi : Option Int} (h : RpAll K F vs xs) : RpAll K F (cutV vs lo hi) (cutD xs lo hi) := by
  unfold cutV cutD
  rw [h.len]
  exact RpAll.take _ (RpAll.drop _ h)
abbrev FnO := Ga → Rs (Option Int × Ga)
def PostO (K : Frag) (mg : Str → Option Value) (E : WX) (G : Hp) (pn : List (Nat × Addr)) (σ : St) (F : Hp) (Q : Option Int → Hp → Prop) : Rs (Option Int × Ga) → Prop
  | .ok (b, Γ') => ∀ F' H', Adv G F F' → Rep K G pn Γ' σ F' H' → Q b H'
  | .exc e => PostX K mg E G σ F e
  | .bad => False
def tO (K : Frag) (mg : Str → Option Value) (E : WX) (f : FnO) : TO := fun σ H Q => ∃ G pn F Γ, Rep K G pn Γ σ F H ∧ PostO K mg E G pn σ F Q (f Γ)
abbrev FO (X : Cx) (E : WX) (e : Option Expr) (f : FnO) : Prop := PO X e (tO X.K X.mg E f)
theorem po_imp {X : Cx} {e : Option Expr} {t t' : TO} (h : PO X e t) (k : ∀ σ H Q, t' σ H Q → t σ H Q) : PO X e t' := ⟨fun pins s σ H Q I q => h.run pins s σ H Q I (k _ _ _ q)⟩
theorem PostO.adv {K : Frag} {mg : Str → Option Value} {E : WX} {G : Hp} {pn : List (Nat × Addr)} {σ : St} {F F' : Hp} {Q : Option Int → Hp → Prop} {r : Rs (Option Int × Ga)} (h : PostO K mg E G pn σ F Q r) (A : Adv G F F') : PostO K mg E G pn σ F' Q r := by
  cases r with
  | ok p => obtain ⟨rv, Γ'⟩ := p; exact fun F2 H2 a R => h F2 H2 (A.trans a) R
  | exc e => exact PostX.adv h A
  | bad => exact h
def oNone : FnO := fun Γ => .ok (none, Γ)
def oSome (f : FnE) : FnO := fun Γ => (f Γ).bind fun p => match p.1 with
  | .d (.int i) => .ok (some i, p.2)
  | _ => .bad
def eSl (f : FnE) (lo hi : FnO) : FnE := fun Γ => (eOp f Γ).bind fun p => (lo p.2).bind fun q => (hi q.2).bind fun r => match p.1.lst r.2 with
  | some xs => .ok (.ow (cutD xs q.1 r.1), r.2)
  | none => match p.1.get r.2 with
    | some (.tuple xs) => .ok (.d (.tuple (cutD xs q.1 r.1)), r.2)
    | some (.str z) => if z.length ≤ lim then .ok (.d (.str (cutS z q.1 r.1)), r.2) else .bad
    | _ => .bad
section
variable {X : Cx} {E : WX} {a b e : Expr} {fa fb f : FnE} {lo hi : Option Expr} {gl gh : FnO} {pos p2 : Pos}
theorem fe_ix (ha : FE X E a fa) (hb : FE X E b fb) (hs : PlainIx b) : FE X E (.Subscript a b pos) (eBin (g2 ixD) fa fb) :=
  pe_imp (pe_ix ix_seq ha hb hs) (tE_bin fun G pn F Γ σ H x y ra rb Q R r1 r2 h => by
    obtain ⟨d, e, z, q1, q2, q3, h⟩ := post_g2 h
    unfold ixD at q3
    split at q3
    · obtain ⟨l, vs, rfl, h1, h2⟩ := rv_list R r1 q1
      obtain ⟨v, e1, e2⟩ := atI_rp h2 q3
      exact .inl ⟨l, vs, _, v, rfl, dp_int (rv_get R r2 q2), h1, e1, post_d R h e2⟩
    · obtain ⟨l, vs, rfl, h1, h2, _⟩ := rv_tup R r1 q1
      obtain ⟨v, e1, e2⟩ := atI_rp h2 q3
      exact .inr (.inl ⟨l, vs, _, v, rfl, dp_int (rv_get R r2 q2), h1, e1, post_d R h e2⟩)
    · split at q3
      · rename_i hz
        cases q : atI _ _ with
        | none => rw [q] at q3; cases q3
        | some c =>
          rw [q] at q3
          cases q3
          exact .inr (.inr ⟨_, _, c, dp_str (rv_get R r1 q1), dp_int (rv_get R r2 q2), by rw [lim_eq]; exact hz, q, post_d R h (.str _)⟩)
      · cases q3
    · cases q3)
theorem fo_none : FO X E none oNone := po_imp po_none fun σ H Q ⟨G, pn, F, Γ, R, h⟩ => h F H (Adv.refl G F) R
theorem fo_some (he : FE X E e f) : FO X E (some e) (oSome f) := po_imp (po_some he) fun σ H Q ⟨G, pn, F, Γ, R, h⟩ => by
  refine ⟨G, pn, F, Γ, R, ?_⟩
  unfold oSome at h
  cases q : f Γ with
  | bad => rw [q] at h; exact h
  | exc x => rw [q] at h; exact h
  | ok p =>
    obtain ⟨rv, Γ1⟩ := p
    rw [q] at h
    intro v F1 H1 A1 R1 r1
    cases rv with
    | ow xs => exact h.elim
    | sl i => exact h.elim
    | d x =>
      cases x with
      | int i => cases r1; exact ⟨i, rfl, h F1 H1 A1 R1⟩
      | _ => exact h.elim
theorem fe_slice (he : FE X E e f) (hl : FO X E lo gl) (hh : FO X E hi gh) : FE X E (.Subscript e (.Slice lo hi none p2) pos) (eSl f gl gh) :=
  pe_imp (pe_slice (sl_list.or (sl_tupA.or sl_str)) he hl hh) fun σ H Q ⟨G, pn, F, Γ, R, h⟩ => by
    refine tE_op _ _ _ ⟨G, pn, F, Γ, R, ?_⟩
    unfold eSl at h
    cases q : eOp f Γ with
    | bad => rw [q] at h; exact h
    | exc x => rw [q] at h; exact h
    | ok p =>
      obtain ⟨rv, Γ1⟩ := p
      rw [q] at h
      have st := eOp_still q
      intro v F1 H1 A1 R1 r1
      refine ⟨G, pn, F1, Γ1, R1, ?_⟩
      simp only [Rs.bind_ok] at h
      cases q2 : gl Γ1 with
      | bad => rw [q2] at h; exact h
      | exc x => rw [q2] at h; exact PostX.adv h A1
      | ok p2 =>
        obtain ⟨l, Γ2⟩ := p2
        rw [q2] at h
        intro F2 H2 A2 R2
        refine ⟨G, pn, F2, Γ2, R2, ?_⟩
        simp only [Rs.bind_ok] at h
        cases q3 : gh Γ2 with
        | bad => rw [q3] at h; exact h
        | exc x => rw [q3] at h; exact PostX.adv h (A1.trans A2)
        | ok p3 =>
          obtain ⟨u, Γ3⟩ := p3
          rw [q3] at h
          intro F3 H3 A3 R3
          simp only [Rs.bind_ok] at h
          have r3 : RvR X.K G F3 H3 Γ3 σ v rv := r1.keep st (A2.trans A3).same
          have A := (A1.trans A2).trans A3
          split at h
          · rename_i xs e1
            obtain ⟨a, vs, rfl, h1, h2⟩ := rv_lst R3 r3 e1
            exact .inl ⟨a, vs, rfl, SqL.of h1, fun p hp => post_ow R3 (PostE.adv h A) (cut_rp h2) hp⟩
          · split at h
            · rename_i xs e1
              obtain ⟨a, vs, rfl, h1, h2, h3⟩ := rv_tup R3 r3 e1
              refine .inr (.inl ⟨a, vs, rfl, h1, fun z => post_d R3 (PostE.adv h A) ?_, fun _ p hp => post_tup R3 (PostE.adv h A) (cut_rp h2) hp⟩)
              have e2 : cutD xs l u = xs := by
                unfold cutD
                rw [← h2.len, z.1, z.2, List.drop_zero, Nat.sub_zero, h2.len, List.take_length]
              rw [e2]
              exact .tup h3 h2
            · rename_i z e1
              split at h
              · rename_i hz
                exact .inr (.inr ⟨z, dp_str (rv_get R3 r3 e1), by rw [lim_eq]; exact hz, post_d R3 (PostE.adv h A) (.str _)⟩)
              · exact h.elim
            · exact h.elim
end
end FL

/-! FD: targets, statements, loops. -/
namespace FL
open PySem PySem.Spec L2

inductive SR where
  | nx (Γ : Ga) | bk (Γ : Ga) | ct (Γ : Ga) | ret (d : D) (Γ : Ga) | exc (e : Exc) | bad
abbrev FnS := Ga → SR
def PostXS (K : Frag) (mg : Str → Option Value) (E : WX) (G : Hp) (n : Nat) (F : Hp) (e : Exc) : Prop := ∀ c d σ' F' H', σ'.length = n → Adv G F F' → Same F' H' → Same G H' → ExR mg K F' H' e c d → E c d σ' H'
def PostS (K : Frag) (mg : Str → Option Value) (E : WX) (G : Hp) (pn : List (Nat × Addr)) (n : Nat) (F : Hp) (Dn : Ends) : SR → Prop
  | .nx Γ' => ∀ σ' F' H', Adv G F F' → Rep K G pn Γ' σ' F' H' → σ'.length = n → Dn.nx σ' H'
  | .bk Γ' => ∀ σ' F' H', Adv G F F' → Rep K G pn Γ' σ' F' H' → σ'.length = n → Dn.bk σ' H'
  | .ct Γ' => ∀ σ' F' H', Adv G F F' → Rep K G pn Γ' σ' F' H' → σ'.length = n → Dn.ct σ' H'
  | .ret d Γ' => ∀ v σ' F' H', Adv G F F' → Rep K G pn Γ' σ' F' H' → Rp K F' v d → Dn.rt v H'
  | .exc e => PostXS K mg E G n F e
  | .bad => False
def tS (K : Frag) (mg : Str → Option Value) (E : WX) (f : FnS) : TS := fun Dn σ H => ∃ G pn F Γ, Rep K G pn Γ σ F H ∧ PostS K mg E G pn σ.length F Dn (f Γ)
abbrev FS (X : Cx) (E : WX) (st : Stmt) (f : FnS) : Prop := PS X st (tS X.K X.mg E f)
abbrev FSs (X : Cx) (E : WX) (st : List Stmt) (f : FnS) : Prop := PSs X st (tS X.K X.mg E f)
section
variable {K : Frag} {mg : Str → Option Value} {E : WX} {G : Hp} {pn : List (Nat × Addr)} {Γ : Ga} {σ : St} {F F' H H' : Hp} {n : Nat} {Dn : Ends}
theorem PostXS.adv {e : Exc} (h : PostXS K mg E G n F e) (A : Adv G F F') : PostXS K mg E G n F' e := fun c d s F2 H2 l a x y r => h c d s F2 H2 l (A.trans a) x y r
theorem PostXS.at {e : Exc} (h : PostXS K mg E G σ.length F e) : PostX K mg E G σ F e := fun c d F' H' a s g r => h c d σ F' H' rfl a s g r
theorem PostS.adv {r : SR} (h : PostS K mg E G pn n F Dn r) (A : Adv G F F') : PostS K mg E G pn n F' Dn r := by
  cases r with
  | nx Γ => exact fun σ' F2 H2 a R l => h σ' F2 H2 (A.trans a) R l
  | bk Γ => exact fun σ' F2 H2 a R l => h σ' F2 H2 (A.trans a) R l
  | ct Γ => exact fun σ' F2 H2 a R l => h σ' F2 H2 (A.trans a) R l
  | ret d Γ => exact fun v σ' F2 H2 a R r => h v σ' F2 H2 (A.trans a) R r
  | exc e => exact PostXS.adv h A
  | bad => exact h
theorem PostS.ends {Dm : Ends} {r : SR} (h : PostS K mg E G pn n F Dn r) (k1 : ∀ σ H, Dn.nx σ H → Dm.nx σ H) (k2 : ∀ σ H, Dn.bk σ H → Dm.bk σ H) (k3 : ∀ σ H, Dn.ct σ H → Dm.ct σ H) (k4 : ∀ v H, Dn.rt v H → Dm.rt v H) : PostS K mg E G pn n F Dm r := by
  cases r with
  | nx Γ => exact fun σ' F2 H2 a R l => k1 _ _ (h σ' F2 H2 a R l)
  | bk Γ => exact fun σ' F2 H2 a R l => k2 _ _ (h σ' F2 H2 a R l)
  | ct Γ => exact fun σ' F2 H2 a R l => k3 _ _ (h σ' F2 H2 a R l)
  | ret d Γ => exact fun v σ' F2 H2 a R r => k4 _ _ (h v σ' F2 H2 a R r)
  | exc e => exact h
  | bad => exact h
end

/-! ### blocks -/
def sNil : FnS := fun Γ => .nx Γ
def sSeq (f g : FnS) : FnS := fun Γ => match f Γ with
  | .nx Γ' => g Γ'
  | r => r
/-- from a result of an expression to a statement's -/
def Rs.toS {α : Type} (x : Rs α) (f : α → SR) : SR := match x with
  | .ok a => f a
  | .exc e => .exc e
  | .bad => .bad
@[simp] theorem Rs.toS_ok {α : Type} (a : α) (f : α → SR) : (Rs.ok a).toS f = f a := rfl
@[simp] theorem Rs.toS_exc {α : Type} (e : Exc) (f : α → SR) : (Rs.exc e : Rs α).toS f = .exc e := rfl
@[simp] theorem Rs.toS_bad {α : Type} (f : α → SR) : (Rs.bad : Rs α).toS f = .bad := rfl
section
variable {X : Cx} {E : WX} {st : Stmt} {rest : List Stmt} {f g : FnS} {e : Expr} {fe : FnE} {ft : FnT} {pos : Pos}
theorem fs_nil : FSs X E [] sNil := pss_imp pss_nil fun Dn σ H ⟨G, pn, F, Γ, R, h⟩ => h σ F H (Adv.refl G F) R rfl
theorem fs_cons (h1 : FS X E st f) (h2 : FSs X E rest g) : FSs X E (st :: rest) (sSeq f g) := pss_imp (pss_cons h1 h2) fun Dn σ H ⟨G, pn, F, Γ, R, h⟩ => by
  refine ⟨G, pn, F, Γ, R, ?_⟩
  unfold sSeq at h
  cases q : f Γ with
  | nx Γ1 =>
    simp only [q] at h
    exact fun σ' F' H' A R' l => ⟨G, pn, F', Γ1, R', by rw [l]; exact PostS.adv h A⟩
  | bk Γ1 => simp only [q] at h; exact h
  | ct Γ1 => simp only [q] at h; exact h
  | ret d Γ1 => simp only [q] at h; exact h
  | exc e => simp only [q] at h; exact h
  | bad => simp only [q] at h; exact h
theorem fs_one (h1 : FS X E st f) : FSs X E [st] f := pss_one h1
def sBreak : FnS := fun Γ => .bk Γ
def sCont : FnS := fun Γ => .ct Γ
theorem fs_pass : FS X E (.Pass pos) sNil := ps_imp ps_pass fun Dn σ H ⟨G, pn, F, Γ, R, h⟩ => h σ F H (Adv.refl G F) R rfl
theorem fs_doc {x : Str} {j : Nat} {pos pos' : Pos} : FS X E (.Expr (.Constant (.str x) j pos) pos') sNil := ps_imp ps_doc fun Dn σ H ⟨G, pn, F, Γ, R, h⟩ => h σ F H (Adv.refl G F) R rfl
theorem fs_break : FS X E (.Break pos) sBreak := ps_imp ps_break fun Dn σ H ⟨G, pn, F, Γ, R, h⟩ => h σ F H (Adv.refl G F) R rfl
theorem fs_cont : FS X E (.Continue pos) sCont := ps_imp ps_continue fun Dn σ H ⟨G, pn, F, Γ, R, h⟩ => h σ F H (Adv.refl G F) R rfl
def sExpr (f : FnE) : FnS := fun Γ => (f Γ).toS fun p => .nx p.2
theorem fs_expr (he : FE X E e fe) (hs : swapsWith e none pos.line X.env = pure false := by rfl) : FS X E (.Expr e pos) (sExpr fe) := ps_imp (ps_expr he hs) fun Dn σ H ⟨G, pn, F, Γ, R, h⟩ => by
  refine ⟨G, pn, F, Γ, R, ?_⟩
  unfold sExpr at h
  cases q : fe Γ with
  | bad => rw [q] at h; exact h
  | exc x => rw [q] at h; exact h.at
  | ok p => rw [q] at h; exact fun v F' H' A R' rr => h σ F' H' A R' rfl
theorem rvFz_any {K : Frag} {G : Hp} {pn : List (Nat × Addr)} {Γ Γ' : Ga} {σ : St} {F H : Hp} {v : V} {r : RV} {x : D} (R : Rep K G pn Γ σ F H) (h : RvR K G F H Γ σ v r) (e : rvFz Γ r = some (x, Γ')) : ∃ F', Adv G F F' ∧ Rep K G pn Γ' σ F' H ∧ Rp K F' v x := by
  cases r with
  | d y => exact rvFz_ok R (.inl ⟨y, rfl, h⟩) e
  | sl i => exact rvFz_ok R (.inr ⟨i, rfl, h⟩) e
  | ow xs =>
    cases e
    obtain ⟨F', A, R', h'⟩ := h.fz R
    exact ⟨F', A, R', h'⟩
def sRet (f : FnE) : FnS := fun Γ => (f Γ).toS fun p => match rvFz p.2 p.1 with
  | some (d, Γ') => .ret d Γ'
  | none => .bad
theorem fs_ret (he : FE X E e fe) : FS X E (.Return (some e) pos) (sRet fe) := ps_imp (ps_ret he) fun Dn σ H ⟨G, pn, F, Γ, R, h⟩ => by
  refine ⟨G, pn, F, Γ, R, ?_⟩
  unfold sRet at h
  cases q : fe Γ with
  | bad => rw [q] at h; exact h
  | exc x => rw [q] at h; exact h.at
  | ok p =>
    obtain ⟨rv, Γ1⟩ := p
    rw [q] at h
    intro v F' H' A R' rr
    simp only [Rs.toS_ok] at h
    cases q2 : rvFz Γ1 rv with
    | none => simp only [q2] at h; exact h.elim
    | some p2 =>
      obtain ⟨d, Γ2⟩ := p2
      simp only [q2] at h
      obtain ⟨F2, A2, R2, rp⟩ := rvFz_any R' rr q2
      exact h v σ F2 H' (A.trans A2) R2 rp
def sRetN : FnS := fun Γ => .ret .none Γ
theorem fs_retN : FS X E (.Return none pos) sRetN := ps_imp ps_retN fun Dn σ H ⟨G, pn, F, Γ, R, h⟩ => h .non σ F H (Adv.refl G F) R .non
def sIf (t : FnT) (f g : FnS) : FnS := fun Γ => (t Γ).toS fun p => if p.1 then f p.2 else g p.2
theorem fs_if {c : Expr} {a b : List Stmt} (hc : FT X E c ft) (ha : FSs X E a f) (hb : FSs X E b g) : FS X E (.If c a b pos) (sIf ft f g) := ps_imp (ps_if hc ha hb) fun Dn σ H ⟨G, pn, F, Γ, R, h⟩ => by
  refine ⟨G, pn, F, Γ, R, ?_⟩
  unfold sIf at h
  cases q : ft Γ with
  | bad => rw [q] at h; exact h
  | exc x => rw [q] at h; exact h.at
  | ok p =>
    obtain ⟨c, Γ1⟩ := p
    rw [q] at h
    intro F' H' A R'
    cases c with
    | true => exact ⟨G, pn, F', Γ1, R', PostS.adv h A⟩
    | false => exact ⟨G, pn, F', Γ1, R', PostS.adv h A⟩
/-- raise C('..'), an error of the program's own -/
def sRaise (x : Str) : FnS := fun _ => .exc ⟨x, none⟩
theorem fs_raise {x m : Str} {C : Addr} {j : Nat} {p p2 p3 pos : Pos} {bmB : List Value} {B newId initId : String} (hc : X.calm = true) (tk : Takes X E) (Fx : ExcBaseFacts B newId initId bmB) (q : PySem.W.excIn X.K C bmB newId = true) (gC : X.mg x = some (.ref C))
    (kC : PySem.W.keepIn X.K (.ref C) = true) (r : Raises X (.ref C)) (hg : Gl X x) (hdb : (x == ("__debug__" : Str)) = false := by decide) : FS X E (.Raise (some (.Call (.Name x p) [.Constant (.str m) j p2] [] p3)) none pos) (sRaise x) :=
  ps_imp (ps_raise hc tk (pmk_own Fx q gC kC r hg hdb)) fun Dn σ H ⟨G, pn, F, Γ, R, h⟩ => h (.ref C) none σ F H rfl (Adv.refl G F) R.fh R.gh ⟨C, gC, rfl, rfl⟩
end

/-! ### targets -/
abbrev FnG := RV → Ga → Option Ga
def tG (K : Frag) (g : FnG) : TG := fun v σ H Qs => ∃ G pn F Γ rv, Rep K G pn Γ σ F H ∧ RvR K G F H Γ σ v rv ∧ match g rv Γ with
  | some Γ' => ∀ σ' F' H', Adv G F F' → Rep K G pn Γ' σ' F' H' → σ'.length = σ.length → Qs σ' H'
  | none => False
abbrev FG (X : Cx) (tg : Expr) (g : FnG) : Prop := PG X tg (tG X.K g)
theorem pg_imp {X : Cx} {e : Expr} {t t' : TG} (h : PG X e t) (k : ∀ v σ H Q, t' v σ H Q → t v σ H Q) : PG X e t' := ⟨fun pins s σ H v u Q I r q => h.run pins s σ H v u Q I r (k _ _ _ _ q)⟩
theorem pgs_imp {X : Cx} {e : List Expr} {t t' : TGs} (h : PGs X e t) (k : ∀ v σ H Q, t' v σ H Q → t v σ H Q) : PGs X e t' := ⟨fun pins s σ H v u Q I r q => h.run pins s σ H v u Q I r (k _ _ _ _ q)⟩
def gN (i : Nat) : FnG := fun rv Γ => match rv with
  | .ow xs => if freeAt Γ i then some (Γ.set i (some (.ow xs))) else none
  | rv => match rvFz Γ rv with
    | some (d, Γ') => if freeAt Γ' i then some (Γ'.set i (some (.fz d))) else none
    | none => none
section
variable {K : Frag} {G : Hp} {pn : List (Nat × Addr)} {Γ Γ' : Ga} {σ : St} {F F' H H' : Hp}
theorem gN_ok {i : Nat} {v : V} {rv : RV} (R : Rep K G pn Γ σ F H) (h : RvR K G F H Γ σ v rv) (e : gN i rv Γ = some Γ') : ∃ F', Adv G F F' ∧ Rep K G pn Γ' (σ.set i (some v)) F' H := by
  have other : ∀ {d : D} {Γ1 : Ga}, rvFz Γ rv = some (d, Γ1) → freeAt Γ1 i = true → Γ' = Γ1.set i (some (.fz d)) → ∃ F', Adv G F F' ∧ Rep K G pn Γ' (σ.set i (some v)) F' H := fun {d Γ1} e1 e2 e3 => by
    obtain ⟨F1, A1, R1, rp⟩ := rvFz_any R h e1
    rw [e3]
    exact ⟨F1, A1, R1.set e2 rp rfl fun z => by cases z⟩
  cases rv with
  | ow xs =>
    unfold gN at e
    simp only at e
    split at e
    · rename_i hf
      cases e
      obtain ⟨a, rfl, o, hap⟩ := h
      exact ⟨F, Adv.refl G F, R.set hf ⟨a, rfl, o⟩ rfl fun _ j sj _ e1 e2 => hap j sj e1 e2⟩
    · cases e
  | d x =>
    unfold gN at e
    simp only at e
    cases q : rvFz Γ (.d x) with
    | none => simp [q] at e
    | some p =>
      obtain ⟨d, Γ1⟩ := p
      simp only [q] at e
      split at e
      · rename_i hf
        cases e
        exact other q hf rfl
      · cases e
  | sl j =>
    unfold gN at e
    simp only at e
    cases q : rvFz Γ (.sl j) with
    | none => simp [q] at e
    | some p =>
      obtain ⟨d, Γ1⟩ := p
      simp only [q] at e
      split at e
      · rename_i hf
        cases e
        exact other q hf rfl
      · cases e
end
/-- several targets -/
abbrev FnGs := List D → Ga → Option Ga
def gsNil : FnGs := fun ds Γ => match ds with
  | [] => some Γ
  | _ => none
def gsCons (g : FnG) (gs : FnGs) : FnGs := fun ds Γ => match ds with
  | d :: r => (g (.d d) Γ).bind fun Γ' => gs r Γ'
  | [] => none
def gT (gs : FnGs) : FnG := fun rv Γ => match rv with
  | .d (.tuple ds) => gs ds Γ
  | _ => none
def tGs (K : Frag) (g : FnGs) : TGs := fun vs σ H Qs => ∃ G pn F Γ ds, Rep K G pn Γ σ F H ∧ RpAll K F vs ds ∧ match g ds Γ with
  | some Γ' => ∀ σ' F' H', Adv G F F' → Rep K G pn Γ' σ' F' H' → σ'.length = σ.length → Qs σ' H'
  | none => False
abbrev FGs (X : Cx) (tg : List Expr) (g : FnGs) : Prop := PGs X tg (tGs X.K g)
section
variable {X : Cx} {E : WX} {pos : Pos} {e : Expr} {es : List Expr} {fe : FnE} {g : FnG} {gs : FnGs}
theorem fg_name {i : Nat} (h : PG X e (gName i)) : FG X e (gN i) := pg_imp h fun v σ H Q ⟨G, pn, F, Γ, rv, R, rr, q⟩ => by
  cases e1 : gN i rv Γ with
  | none => simp only [e1] at q
  | some Γ' =>
    simp only [e1] at q
    obtain ⟨F', A, R'⟩ := gN_ok R rr e1
    exact q _ F' H A R' (by simp)
theorem fgs_nil : FGs X [] gsNil := pgs_imp pgs_nil fun vs σ H Q ⟨G, pn, F, Γ, ds, R, rr, q⟩ => by
  cases ds with
  | nil => cases rr; exact ⟨rfl, q σ F H (Adv.refl G F) R rfl⟩
  | cons d r => exact q.elim
theorem fgs_cons (h1 : FG X e g) (h2 : FGs X es gs) (hs : (assignEach (e :: es) X.env).map (·.2) = assign e X.env :: (assignEach es X.env).map (·.2) := by rfl) : FGs X (e :: es) (gsCons g gs) :=
  pgs_imp (pgs_cons h1 h2 hs) fun vs σ H Q ⟨G, pn, F, Γ, ds, R, rr, q⟩ => by
    cases ds with
    | nil => exact q.elim
    | cons d r =>
      cases rr with
      | cons r1 r2 =>
        unfold gsCons at q
        simp only at q
        refine ⟨_, _, rfl, G, pn, F, Γ, .d d, R, r1, ?_⟩
        cases e1 : g (.d d) Γ with
        | none => rw [e1] at q; exact q.elim
        | some Γ1 =>
          rw [e1] at q
          simp only [Option.bind_some] at q
          intro σ' F' H' A R' l
          refine ⟨G, pn, F', Γ1, r, R', RpAll.mono A.same r2, ?_⟩
          cases e2 : gs r Γ1 with
          | none => simp only [e2] at q
          | some Γ2 =>
            simp only [e2] at q ⊢
            exact fun σ2 F2 H2 A2 R2 l2 => q σ2 F2 H2 (A.trans A2) R2 (l2.trans l)
theorem gs_len : ∀ {ds : List D} {Γ Γ' : Ga} {K : Frag} {es : List Expr} {X : Cx}, True := trivial
theorem fg_tup {k n : Nat} (hc : X.calm = true) (h : FGs X es gs) (hl : ∀ ds Γ Γ', gs ds Γ = some Γ' → ds.length = n) (hn : (assignEach es X.env).length = n := by rfl) (hst : (assignEach es X.env).findIdx? (·.1) = none := by rfl) :
    FG X (.Tuple es k pos) (gT gs) := pg_imp (pg_tup hc h hn hst) fun v σ H Q ⟨G, pn, F, Γ, rv, R, rr, q⟩ => by
  unfold gT at q
  cases rv with
  | ow xs => exact q.elim
  | sl i => exact q.elim
  | d x =>
    cases x with
    | tuple ds =>
      simp only at q
      cases rr with
      | tup h1 h2 =>
        refine ⟨_, _, rfl, sqT_same R.fh h1, ?_, G, pn, F, Γ, ds, R, h2, q⟩
        cases e1 : gs ds Γ with
        | none => simp only [e1] at q
        | some Γ' => rw [h2.len]; exact hl _ _ _ e1
    | _ => exact q.elim
theorem gsNil_len : ∀ ds Γ Γ', gsNil ds Γ = some Γ' → ds.length = 0 := fun ds Γ Γ' h => by
  cases ds with
  | nil => rfl
  | cons d r => cases h
theorem gsCons_len {g : FnG} {gs : FnGs} {n : Nat} (h : ∀ ds Γ Γ', gs ds Γ = some Γ' → ds.length = n) : ∀ ds Γ Γ', gsCons g gs ds Γ = some Γ' → ds.length = n + 1 := fun ds Γ Γ' e => by
  cases ds with
  | nil => cases e
  | cons d r =>
    unfold gsCons at e
    simp only at e
    cases q : g (.d d) Γ with
    | none => rw [q] at e; cases e
    | some Γ1 =>
      rw [q] at e
      simp only [Option.bind_some] at e
      rw [List.length_cons, h _ _ _ e]

/-! ### assignments -/
def sAsg (f : FnE) (g : FnG) : FnS := fun Γ => (f Γ).toS fun p => match g p.1 p.2 with
  | some Γ' => .nx Γ'
  | none => .bad
theorem key_asg {K : Frag} {mg : Str → Option Value} {te : TE} {tg : TG} (k1 : ∀ σ H Q, tE K mg E fe σ H Q → te σ H Q) (k2 : ∀ v σ H Q, tG K g v σ H Q → tg v σ H Q) (m1 : ∀ σ H Q Q', (∀ v H', Q v H' → Q' v H') → te σ H Q → te σ H Q') :
    ∀ Dn σ H, tS K mg E (sAsg fe g) Dn σ H → tAsg te tg Dn σ H := fun Dn σ H ⟨G, pn, F, Γ, R, h⟩ => by
  refine m1 σ H _ _ (fun v H' q => k2 v σ H' _ q) (k1 σ H _ ⟨G, pn, F, Γ, R, ?_⟩)
  unfold sAsg at h
  cases q : fe Γ with
  | bad => rw [q] at h; exact h
  | exc x => rw [q] at h; exact h.at
  | ok p =>
    obtain ⟨rv, Γ1⟩ := p
    rw [q] at h
    intro v F' H' A R' rr
    refine ⟨G, pn, F', Γ1, rv, R', rr, ?_⟩
    simp only [Rs.toS_ok] at h
    cases q2 : g rv Γ1 with
    | none => simp only [q2] at h; exact h.elim
    | some Γ2 =>
      simp only [q2] at h ⊢
      exact fun σ2 F2 H2 A2 R2 l2 => h σ2 F2 H2 (A.trans A2) R2 l2
theorem tE_mono {K : Frag} {mg : Str → Option Value} : ∀ σ H Q Q', (∀ v H', Q v H' → Q' v H') → tE K mg E fe σ H Q → tE K mg E fe σ H Q' := fun σ H Q Q' k ⟨G, pn, F, Γ, R, h⟩ => by
  refine ⟨G, pn, F, Γ, R, ?_⟩
  cases q : fe Γ with
  | bad => rw [q] at h; exact h
  | exc x => rw [q] at h; exact h
  | ok p => rw [q] at h; exact fun v F' H' A R' rr => k _ _ (h v F' H' A R' rr)
theorem fs_asg {tg : Expr} (he : FE X E e fe) (hg : FG X tg g) (hs : swapsWithSole [tg] e pos.line X.env = pure false := by rfl) (hw : swappedStores [tg] e X.env = pure none := by rfl)
    (h1 : (assignEach [tg] X.env).map (·.2) = [assign tg X.env] := by rfl) : FS X E (.Assign [tg] e pos) (sAsg fe g) := ps_imp (ps_asg he hg hs hw h1) (key_asg (fun _ _ _ h => h) (fun _ _ _ _ h => h) tE_mono)
theorem fs_set {i : Nat} {x : Str} {pos' : Pos} (hN : X.N.Nodup) (hi : X.N[i]? = some x) (hx : Loc X.env.scope x) (he : FE X E e fe) (hs : swapsWith e (some (.Name x pos')) pos.line X.env = pure false := by rfl) (hf : X.fn x = true ∨ X.env.scope.names.lookup x = some .local := by first | exact .inl rfl | exact .inr rfl | assumption) :
    FS X E (.Assign [.Name x pos'] e pos) (sAsg fe (gN i)) := ps_imp (ps_set hN hi hx he hs hf) (key_asg (fun _ _ _ h => h) (fun v σ H Q ⟨G, pn, F, Γ, rv, R, rr, q⟩ => by
      cases e1 : gN i rv Γ with
      | none => simp only [e1] at q
      | some Γ' =>
        simp only [e1] at q
        obtain ⟨F', A, R'⟩ := gN_ok R rr e1
        exact q _ F' H A R' (by simp)) tE_mono)
/-- a, b = e1, e2 with local names -/
def sPar (i j : Nat) (f : FnA) : FnS := fun Γ => (f Γ).toS fun p => match rvsFz p.1 p.2 with
  | some ([x, y], Γ1) => if freeAt Γ1 i && freeAt Γ1 j then .nx ((Γ1.set i (some (.fz x))).set j (some (.fz y))) else .bad
  | _ => .bad
theorem freeAt_set {Γ : Ga} {i j : Nat} {s : Sl} (h : freeAt Γ j = true) (np : s.pinned = false) : freeAt (Γ.set i (some s)) j = true := by
  unfold freeAt at h ⊢
  by_cases e : i = j
  · subst e
    by_cases hl : i < Γ.length
    · rw [List.getElem?_set_self hl]
      simp [np]
    · rw [List.getElem?_eq_none (Nat.le_of_not_lt hl)] at h
      exact absurd h (by simp)
  · rw [List.getElem?_set_ne e]
    exact h
theorem fs_par {i j : Nat} {x y : Str} {a b : Expr} {fa : FnA} {px py pt : Pos} {kt k2 : Nat} {pt2 : Pos} (hc : X.calm = true) (hN : X.N.Nodup) (hi : X.N[i]? = some x) (hj : X.N[j]? = some y) (hij : i ≠ j)
    (hx : X.env.scope.names.lookup x = some .local) (hy : X.env.scope.names.lookup y = some .local) (ha : FA X E [a, b] fa)
    (hw : swappedStores [.Tuple [.Name x px, .Name y py] kt pt] (.Tuple [a, b] k2 pt2) X.env = pure (some [x, y]) := by rfl)
    (hs : swapsWithSole [.Tuple [.Name x px, .Name y py] kt pt] (.Tuple [a, b] k2 pt2) pos.line X.env = pure false := by rfl) :
    FS X E (.Assign [.Tuple [.Name x px, .Name y py] kt pt] (.Tuple [a, b] k2 pt2) pos) (sPar i j fa) := ps_imp (ps_par hc hN hi hj hij hx hy ha hw hs) fun Dn σ H ⟨G, pn, F, Γ, R, h⟩ => by
  refine ⟨G, pn, F, Γ, R, ?_⟩
  unfold sPar at h
  cases q : fa Γ with
  | bad => rw [q] at h; exact h
  | exc x => rw [q] at h; exact h.at
  | ok p =>
    obtain ⟨rs, Γ1⟩ := p
    rw [q] at h
    intro vs F' H' A R' rr
    simp only [Rs.toS_ok] at h
    split at h
    · rename_i x y Γ2 e1
      split at h
      · rename_i hf
        rw [Bool.and_eq_true] at hf
        obtain ⟨F2, A2, R2, rp⟩ := rvsFz_ok R' rr e1
        cases rp with
        | cons r1 r2 =>
          cases r2 with
          | cons r2 r3 =>
            cases r3
            refine ⟨_, _, rfl, ?_⟩
            exact h _ F2 H' (A.trans A2) ((R2.set hf.1 (s := .fz x) r1 rfl fun z => by cases z).set (freeAt_set hf.2 rfl) (s := .fz y) r2 rfl fun z => by cases z) (by simp)
      · exact h.elim
    · exact h.elim
/-- the slot's list is written -/
def slWrite (Γ : Ga) (i : Nat) (f : List D → Option (List D)) : Option Ga := match Γ[i]? with
  | some (some (.ow xs)) => (f xs).map fun ys => Γ.set i (some (.ow ys))
  | some (some (.io xs)) => (f xs).map fun ys => Γ.set i (some (.io ys))
  | _ => none
def hasAt (Γ : Ga) (i : Nat) : Bool := match Γ[i]? with
  | some (some _) => true
  | _ => false
theorem hasAt_ok {K : Frag} {G : Hp} {pn : List (Nat × Addr)} {Γ : Ga} {σ : St} {F H : Hp} {i : Nat} (R : Rep K G pn Γ σ F H) (h : hasAt Γ i = true) : ∃ u, σ[i]? = some (some u) := by
  unfold hasAt at h
  split at h
  · rename_i s e
    obtain ⟨u, e1, _⟩ := R.sl i s e
    exact ⟨u, e1⟩
  · cases h
/-- what a write of the slot's list is -/
theorem slWrite_ok {K : Frag} {G : Hp} {pn : List (Nat × Addr)} {Γ Γ' : Ga} {σ : St} {F H : Hp} {i : Nat} {v : V} {f : List D → Option (List D)} (R : Rep K G pn Γ σ F H) (hv : σ[i]? = some (some v)) (e : slWrite Γ i f = some Γ') :
    ∃ a vs xs ys, v = .ref a ∧ H a = some (.lst vs) ∧ RpAll K F vs xs ∧ f xs = some ys ∧ ∀ vs', RpAll K F vs' ys → Rep K G pn Γ' σ F (upd H a (.lst vs')) := by
  unfold slWrite at e
  split at e
  · rename_i xs q
    cases q2 : f xs with
    | none => rw [q2] at e; cases e
    | some ys =>
      rw [q2] at e
      cases e
      obtain ⟨u, e1, a, rfl, vs, h1, h2, h3, h4⟩ := R.sl i _ q
      rw [hv] at e1
      cases e1
      exact ⟨a, vs, xs, ys, rfl, h1, h2, q2, fun vs' r => R.write q hv h3 h4 (.inl ⟨rfl, rfl, rfl⟩) r⟩
  · rename_i xs q
    cases q2 : f xs with
    | none => rw [q2] at e; cases e
    | some ys =>
      rw [q2] at e
      cases e
      obtain ⟨u, e1, a, rfl, vs, h1, h2, h3, h4⟩ := R.sl i _ q
      rw [hv] at e1
      cases e1
      exact ⟨a, vs, xs, ys, rfl, h1, h2, q2, fun vs' r => R.write q hv h3 h4 (.inr ⟨⟨xs, rfl⟩, rfl⟩) r⟩
  · cases e
/-- xs[k] = e at a name -/
def sSetIx (i : Nat) (fk fe : FnE) : FnS := fun Γ => (eOp fe Γ).toS fun p => if hasAt p.2 i then (fk p.2).toS fun q => (match rvFz q.2 p.1, q.1 with
  | some (x, Γ2), .d (.int k) => (match slWrite Γ2 i fun xs => (ixN xs.length k).map fun j => xs.set j x with
    | some Γ3 => .nx Γ3
    | none => .bad)
  | _, _ => .bad) else .bad
theorem fs_setIx {i : Nat} {o k : Expr} {fk : FnE} {pos' : Pos} (ho : PE X o (tVar i)) (hk : FE X E k fk) (he : FE X E e fe)
    (ha : ∀ v, assign (.Subscript o k pos') X.env v = (do
      let ov ← holding [v] (eval o X.env)
      let iv ← holding [v, ov] (eval k X.env)
      standAt pos'
      holding [v, ov, iv] (setItem ov iv v)
      release [v, ov, iv] []) := by intro _; rfl)
    (hs : swapsWithSole [.Subscript o k pos'] e pos.line X.env = pure false := by rfl) (hw : swappedStores [.Subscript o k pos'] e X.env = pure none := by rfl)
    (h1 : (assignEach [.Subscript o k pos'] X.env).map (·.2) = [assign (.Subscript o k pos') X.env] := by rfl) : FS X E (.Assign [.Subscript o k pos'] e pos) (sSetIx i fk fe) :=
  ps_imp (ps_asg he (pg_sub ho hk set_list ha) hs hw h1) fun Dn σ H ⟨G, pn, F, Γ, R, h⟩ => by
    refine tE_op _ _ _ ⟨G, pn, F, Γ, R, ?_⟩
    unfold sSetIx at h
    cases q : eOp fe Γ with
    | bad => rw [q] at h; exact h
    | exc x => rw [q] at h; exact h.at
    | ok p =>
      obtain ⟨rv, Γ1⟩ := p
      rw [q] at h
      have st := eOp_still q
      intro v F1 H1 A1 R1 r1
      simp only [Rs.toS_ok] at h
      split at h
      · rename_i hh
        obtain ⟨u, hu⟩ := hasAt_ok R1 hh
        refine ⟨u, hu, G, pn, F1, Γ1, R1, ?_⟩
        cases q2 : fk Γ1 with
        | bad => rw [q2] at h; exact h
        | exc x => rw [q2] at h; exact (PostXS.adv h A1).at
        | ok p2 =>
          obtain ⟨rk, Γ2⟩ := p2
          rw [q2] at h
          intro w F2 H2 A2 R2 r2
          simp only [Rs.toS_ok] at h
          split at h
          · rename_i x Γ3 k e1
            obtain ⟨F3, A3, R3, rp⟩ := rvFz_any R2 (r1.keep st A2.same) e1
            split at h
            · rename_i Γ4 e2
              obtain ⟨a, vs, xs, ys, rfl, g1, g2, g3, g4⟩ := slWrite_ok R3 hu e2
              cases r2
              cases q3 : ixN xs.length k with
              | none => rw [q3] at g3; cases g3
              | some j =>
                rw [q3] at g3
                cases g3
                exact ⟨a, vs, k, j, rfl, rfl, g1, by rw [g2.len]; exact q3, h σ F3 _ ((A1.trans A2).trans A3) (g4 _ (RpAll.set rp j g2)) rfl⟩
            · exact h.elim
          · exact h.elim
      · exact h.elim
end

/-! ### methods that write a name's own list -/
def ownAt (Γ : Ga) (i : Nat) : Bool := match Γ[i]? with
  | some (some (.ow _)) => true
  | some (some (.io _)) => true
  | _ => false
theorem ownAt_ok {K : Frag} {G : Hp} {pn : List (Nat × Addr)} {Γ : Ga} {σ : St} {F H : Hp} {i : Nat} (R : Rep K G pn Γ σ F H) (h : ownAt Γ i = true) : ∃ u, σ[i]? = some (some u) ∧ tyV K "list" u H := by
  unfold ownAt at h
  split at h
  · rename_i s e
    obtain ⟨u, e1, a, rfl, vs, h1, _⟩ := R.sl i _ e
    exact ⟨_, e1, .inl ⟨rfl, vs, SqL.of h1⟩⟩
  · rename_i s e
    obtain ⟨u, e1, a, rfl, vs, h1, _⟩ := R.sl i _ e
    exact ⟨_, e1, .inl ⟨rfl, vs, SqL.of h1⟩⟩
  · cases h
def eMet (i : Nat) (fe : FnE) (out : Ga → RV → Rs (RV × Ga)) : FnE := fun Γ => if ownAt Γ i then (eOp fe Γ).bind fun p => out p.2 p.1 else .bad
section
variable {K : Frag} {mg : Str → Option Value} {E : WX}
/-- the common way to such a method -/
theorem key_meth {r : V → List V → Hp → VK → Prop} {i : Nat} {fe : FnE} {out : Ga → RV → Rs (RV × Ga)}
    (key : ∀ (G : Hp) (pn : List (Nat × Addr)) (F : Hp) (Γ : Ga) (σ : St) (H : Hp) (u y : V) (rv : RV) (Q : VK), Rep K G pn Γ σ F H → σ[i]? = some (some u) → RvR K G F H Γ σ y rv → PostE K mg E G pn σ F Q (out Γ rv) → r u [y] H Q) :
    ∀ σ H Q, tE K mg E (eMet i fe out) σ H Q → tBM K "list" r (tVar i) (tCons (tE K mg E fe) tNil) σ H Q := fun σ H Q ⟨G, pn, F, Γ, R, h⟩ => by
  unfold eMet at h
  split at h
  · rename_i hh
    obtain ⟨u, hu, ty⟩ := ownAt_ok R hh
    refine ⟨u, hu, ty, ?_⟩
    refine tE_op _ _ _ ⟨G, pn, F, Γ, R, ?_⟩
    cases q : eOp fe Γ with
    | bad => rw [q] at h; exact h
    | exc x => rw [q] at h; exact h
    | ok p =>
      obtain ⟨rv, Γ1⟩ := p
      rw [q] at h
      intro v F1 H1 A1 R1 r1
      exact key G pn F1 Γ1 σ H1 u v rv Q R1 hu r1 (PostE.adv h A1)
  · exact h.elim
end
def outApp (i : Nat) : Ga → RV → Rs (RV × Ga) := fun Γ rv => match rvFz Γ rv with
  | some (x, Γ1) => (match slWrite Γ1 i fun xs => if xs.length < lim then some (xs ++ [x]) else none with
    | some Γ2 => .ok (.d .none, Γ2)
    | none => .bad)
  | none => .bad
def outExt (i : Nat) : Ga → RV → Rs (RV × Ga) := fun Γ rv => match rvFz Γ rv with
  | some (.list ys, Γ1) => (match slWrite Γ1 i fun xs => if xs.length + ys.length ≤ lim then some (xs ++ ys) else none with
    | some Γ2 => .ok (.d .none, Γ2)
    | none => .bad)
  | _ => .bad
def intsOf : List D → Option (List Int)
  | [] => some []
  | .int i :: r => (intsOf r).map (i :: ·)
  | _ => none
theorem intsOf_ok : ∀ {ds : List D} {ns : List Int}, intsOf ds = some ns → ds = ns.map .int
  | [], ns, h => by cases h; rfl
  | .int i :: r, ns, h => by
    unfold intsOf at h
    cases q : intsOf r with
    | none => rw [q] at h; cases h
    | some m =>
      rw [q] at h
      cases h
      rw [intsOf_ok q]
      rfl
  | .none :: _, _, h => by cases h
  | .bool _ :: _, _, h => by cases h
  | .str _ :: _, _, h => by cases h
  | .list _ :: _, _, h => by cases h
  | .tuple _ :: _, _, h => by cases h
  | .dict _ :: _, _, h => by cases h
@[simp] theorem intsOf_map : ∀ ns : List Int, intsOf (ns.map .int) = some ns
  | [] => rfl
  | n :: ns => by
    show (intsOf (ns.map .int)).map (n :: ·) = _
    rw [intsOf_map ns]
    rfl
def remInt (k : Int) (xs : List D) : Option (List D) := match intsOf xs with
  | some ns => if k ∈ ns then some ((ns.erase k).map .int) else none
  | none => none
def outRem (i : Nat) : Ga → RV → Rs (RV × Ga) := fun Γ rv => match rv with
  | .d (.int k) => (match slWrite Γ i (remInt k) with
    | some Γ2 => .ok (.d .none, Γ2)
    | none => .bad)
  | _ => .bad
theorem find_first {ns : List Int} {k : Int} (h : k ∈ ns) : ∃ j, ns[j]? = some k ∧ (∀ m : Nat, m < j → ns[m]? ≠ some k) ∧ ns.eraseIdx j = ns.erase k := by
  induction ns with
  | nil => cases h
  | cons a r ih =>
    by_cases e : a = k
    · subst e
      exact ⟨0, rfl, fun m hm => absurd hm (Nat.not_lt_zero _), by simp⟩
    · have h' : k ∈ r := by
        rcases List.mem_cons.mp h with z | z
        · exact absurd z.symm e
        · exact z
      obtain ⟨j, h1, h2, h3⟩ := ih h'
      refine ⟨j + 1, h1, fun m hm => ?_, ?_⟩
      · cases m with
        | zero => intro z; exact e (Option.some.inj z)
        | succ m => exact h2 m (by omega)
      · rw [List.eraseIdx_cons_succ, h3, List.erase_cons_tail (by simpa using e)]
section
variable {X : Cx} {E : WX} {o e : Expr} {fe : FnE} {i : Nat} {apos cpos : Pos}
theorem fe_append (ho : PE X o (tVar i)) (he : FE X E e fe) (hbase : attributeBase o "append" X.env (eval o X.env) = eval o X.env := by rfl)
    (hs : starEach [e] X.env = [(false, eval e X.env)] := by rfl) (hfew : ((backTo cpos (starEach [e] X.env)).all (fun x => !x.1) && (backToKw cpos (keywordEach [] X.env)).all (fun x => x.1.isSome)
      && decide (([e]).length + ([] : List Keyword).length + (if ([] : List Keyword).isEmpty then 0 else 1) < 30)) = true := by rfl) (hline : (apos.endLine == cpos.line) = true := by rfl) :
    FE X E (.Call (.Attribute o "append" apos) [e] [] cpos) (eMet i fe (outApp i)) :=
  pe_imp (pe_bm PySem.F.plainAttrs_list PySem.F.slot_list_append PySem.F.type_list_append mt_append ho (pa_cons he pa_nil hs) hbase hfew hline hs rfl) (key_meth fun G pn F Γ σ H u y rv Q R hu r h => by
    unfold outApp at h
    split at h
    · rename_i x Γ1 e1
      obtain ⟨F1, A1, R1, rp⟩ := rvFz_any R r e1
      split at h
      · rename_i Γ2 e2
        obtain ⟨a, vs, xs, ys, rfl, g1, g2, g3, g4⟩ := slWrite_ok R1 hu e2
        split at g3
        · rename_i hz
          cases g3
          exact ⟨a, vs, y, rfl, rfl, g1, by rw [lim_eq, g2.len]; exact hz, h _ F1 _ A1 (g4 _ (g2.app (.one rp))) .non⟩
        · cases g3
      · exact h.elim
    · exact h.elim)
theorem fe_extend (ho : PE X o (tVar i)) (he : FE X E e fe) (hbase : attributeBase o "extend" X.env (eval o X.env) = eval o X.env := by rfl)
    (hs : starEach [e] X.env = [(false, eval e X.env)] := by rfl) (hfew : ((backTo cpos (starEach [e] X.env)).all (fun x => !x.1) && (backToKw cpos (keywordEach [] X.env)).all (fun x => x.1.isSome)
      && decide (([e]).length + ([] : List Keyword).length + (if ([] : List Keyword).isEmpty then 0 else 1) < 30)) = true := by rfl) (hline : (apos.endLine == cpos.line) = true := by rfl) :
    FE X E (.Call (.Attribute o "extend" apos) [e] [] cpos) (eMet i fe (outExt i)) :=
  pe_imp (pe_bm PySem.F.plainAttrs_list PySem.F.slot_list_extend PySem.F.type_list_extend mt_extend ho (pa_cons he pa_nil hs) hbase hfew hline hs rfl) (key_meth fun G pn F Γ σ H u y rv Q R hu r h => by
    unfold outExt at h
    split at h
    · rename_i zs Γ1 e1
      obtain ⟨F1, A1, R1, rp⟩ := rvFz_any R r e1
      split at h
      · rename_i Γ2 e2
        obtain ⟨a, vs, xs, ys, rfl, g1, g2, g3, g4⟩ := slWrite_ok R1 hu e2
        split at g3
        · rename_i hz
          cases g3
          cases rp with
          | lst k1 k2 => exact ⟨a, _, vs, _, rfl, rfl, g1, R1.fh _ _ k1, by rw [lim_eq, g2.len, k2.len]; exact hz, h _ F1 _ A1 (g4 _ (g2.app k2)) .non⟩
        · cases g3
      · exact h.elim
    · exact h.elim)
theorem fe_remove (ho : PE X o (tVar i)) (he : FE X E e fe) (hbase : attributeBase o "remove" X.env (eval o X.env) = eval o X.env := by rfl)
    (hs : starEach [e] X.env = [(false, eval e X.env)] := by rfl) (hfew : ((backTo cpos (starEach [e] X.env)).all (fun x => !x.1) && (backToKw cpos (keywordEach [] X.env)).all (fun x => x.1.isSome)
      && decide (([e]).length + ([] : List Keyword).length + (if ([] : List Keyword).isEmpty then 0 else 1) < 30)) = true := by rfl) (hline : (apos.endLine == cpos.line) = true := by rfl) :
    FE X E (.Call (.Attribute o "remove" apos) [e] [] cpos) (eMet i fe (outRem i)) :=
  pe_imp (pe_bm PySem.F.plainAttrs_list PySem.F.slot_list_remove PySem.F.type_list_remove mt_remove ho (pa_cons he pa_nil hs) hbase hfew hline hs rfl) (key_meth fun G pn F Γ σ H u y rv Q R hu r h => by
    unfold outRem at h
    split at h
    · rename_i k
      split at h
      · rename_i Γ2 e2
        obtain ⟨a, vs, xs, ys, rfl, g1, g2, g3, g4⟩ := slWrite_ok R hu e2
        unfold remInt at g3
        split at g3
        · rename_i ns e3
          split at g3
          · rename_i hk
            cases g3
            cases r
            have ex := intsOf_ok e3
            subst ex
            have ev := RpAll.ints g2
            subst ev
            obtain ⟨j, f1, f2, f3⟩ := find_first hk
            refine ⟨a, ns, k, j, rfl, rfl, g1, f1, f2, ?_⟩
            rw [f3]
            exact h _ F _ (Adv.refl G F) (g4 _ (RpAll.ofInts _)) .non
          · cases g3
        · cases g3
      · exact h.elim
    · exact h.elim)
end

/-! ### what is walked -/
abbrev FnI := Ga → Rs (List D × Option Nat × Ga)
def WalkD (K : Frag) (J : It) (xs : List D) (G2 Fs : Hp) : Prop := ∃ Y, Walk J xs.length (fun H => Same G2 H ∧ Same Fs H) Y ∧
  ∀ (i : Nat) (H : Hp) (v : V) (H' F Gc : Hp) (x : D), Same Fs F → Same F H → Same Gc H → Same G2 H → Y i H v H' → xs[i]? = some x →
    ∃ F', Adv Gc F F' ∧ Rp K F' v x ∧ ((H' = H ∧ F' = F) ∨ ∃ p o, H p = none ∧ H' = upd H p o ∧ F' = upd F p o)
def LkR (K : Frag) (G G2 F H : Hp) (Γ : Ga) (σ : St) : Option Nat → Prop
  | none => G2 = G
  | some i => ∃ a vs ys, G2 = upd G a (.lst vs) ∧ Γ[i]? = some (some (.ow ys)) ∧ σ[i]? = some (some (.ref a)) ∧ H a = some (.lst vs) ∧ RpAll K F vs ys ∧ F a = none ∧ G a = none
def PostI (K : Frag) (mg : Str → Option Value) (E : WX) (G : Hp) (pn : List (Nat × Addr)) (σ : St) (F : Hp) (Rk : It → Hp → Prop) : Rs (List D × Option Nat × Ga) → Prop
  | .ok (xs, lk, Γ') => ∀ J F' H' G2, Adv G F F' → Rep K G pn Γ' σ F' H' → LkR K G G2 F' H' Γ' σ lk → WalkD K J xs G2 F' → Rk J H'
  | .exc e => PostX K mg E G σ F e
  | .bad => False
def tI (K : Frag) (mg : Str → Option Value) (E : WX) (f : FnI) : TI := fun σ H Rk => ∃ G pn F Γ, Rep K G pn Γ σ F H ∧ PostI K mg E G pn σ F Rk (f Γ)
abbrev FI (X : Cx) (E : WX) (tg e : Expr) (f : FnI) : Prop := PI X tg e (tI X.K X.mg E f)
theorem pi_imp {X : Cx} {tg e : Expr} {t t' : TI} (h : PI X tg e t) (k : ∀ σ H Q, t' σ H Q → t σ H Q) : PI X tg e t' := ⟨fun pins s σ H Q I q => h.run pins s σ H Q I (k _ _ _ q)⟩
theorem PostI.adv {K : Frag} {mg : Str → Option Value} {E : WX} {G : Hp} {pn : List (Nat × Addr)} {σ : St} {F F' : Hp} {Rk : It → Hp → Prop} {r : Rs (List D × Option Nat × Ga)} (h : PostI K mg E G pn σ F Rk r) (A : Adv G F F') : PostI K mg E G pn σ F' Rk r := by
  cases r with
  | ok p => obtain ⟨xs, lk, Γ'⟩ := p; exact fun J F2 H2 G2 a R l w => h J F2 H2 G2 (A.trans a) R l w
  | exc e => exact PostX.adv h A
  | bad => exact h
theorem walkD_same {K : Frag} {J : It} {xs : List D} {G2 Fs : Hp} {Y : Nat → Hp → V → Hp → Prop} (w : Walk J xs.length (fun H => Same G2 H ∧ Same Fs H) Y)
    (h : ∀ (i : Nat) (H : Hp) (v : V) (H' F : Hp) (x : D), Same Fs F → Same F H → Same G2 H → Y i H v H' → xs[i]? = some x → H' = H ∧ Rp K F v x) : WalkD K J xs G2 Fs :=
  ⟨Y, w, fun i H v H' F Gc x s1 s2 s3 s4 y e => let ⟨e1, r⟩ := h i H v H' F x s1 s2 s4 y e; ⟨F, Adv.refl Gc F, r, .inl ⟨e1, rfl⟩⟩⟩
theorem walkD_list {K : Frag} {a : Addr} {vs : List V} {xs : List D} {G2 Fs : Hp} (h : ∀ H, Same G2 H ∧ Same Fs H → SqL K H a vs) (r : RpAll K Fs vs xs) : WalkD K (Itl K a) xs G2 Fs := by
  have w : Walk (Itl K a) xs.length (fun H => Same G2 H ∧ Same Fs H) (YAt vs) := by
    rw [← r.len]
    exact walk_list.mono h fun i H x H' _ _ y => y
  exact walkD_same w fun i H v H' F x s1 s2 s3 y e => by
    obtain ⟨e1, e2⟩ := y
    obtain ⟨d, e3, rp⟩ := r.atV e2
    rw [e] at e3
    cases e3
    exact ⟨e1, Rp.mono s1 rp⟩
theorem walkD_tup {K : Frag} {a : Addr} {vs : List V} {xs : List D} {G2 Fs : Hp} (h : ∀ H, Same G2 H ∧ Same Fs H → SqT K H a vs) (r : RpAll K Fs vs xs) : WalkD K (Itt K a) xs G2 Fs := by
  have w : Walk (Itt K a) xs.length (fun H => Same G2 H ∧ Same Fs H) (YAt vs) := by
    rw [← r.len]
    exact walk_tup.mono h fun i H x H' _ _ y => y
  exact walkD_same w fun i H v H' F x s1 s2 s3 y e => by
    obtain ⟨e1, e2⟩ := y
    obtain ⟨d, e3, rp⟩ := r.atV e2
    rw [e] at e3
    cases e3
    exact ⟨e1, Rp.mono s1 rp⟩
/-- the items of a value that is a list, a tuple: what is walked, which slot is shut meanwhile -/
def itemsL (rv : RV) (Γ : Ga) : Option (List D × Option Nat) := match rv with
  | .d (.list xs) => some (xs, none)
  | .d _ => none
  | .ow xs => some (xs, none)
  | .sl i => match Γ[i]? with
    | some (some (.ow xs)) => some (xs, some i)
    | some (some (.lk xs)) => some (xs, none)
    | some (some (.scr ns)) => some (ns.map .int, none)
    | _ => none
theorem itemsL_ok {K : Frag} {G : Hp} {pn : List (Nat × Addr)} {Γ : Ga} {σ : St} {F H : Hp} {v : V} {rv : RV} {xs : List D} {lk : Option Nat} (R : Rep K G pn Γ σ F H) (h : RvR K G F H Γ σ v rv) (st : rv.still = true) (e : itemsL rv Γ = some (xs, lk)) :
    ∃ a vs G2, v = .ref a ∧ SqL K H a vs ∧ LkR K G G2 F H Γ σ lk ∧ WalkD K (Itl K a) xs G2 F ∧ RpAll K F vs xs ∧ (∀ H', Same G2 H' ∧ Same F H' → SqL K H' a vs) := by
  unfold itemsL at e
  split at e
  · cases e
    cases h with
    | lst h1 h2 => exact ⟨_, _, G, rfl, SqL.of (R.fh _ _ h1), rfl, walkD_list (fun H' s => SqL.of (s.2 _ _ h1)) h2, h2, fun H' s => SqL.of (s.2 _ _ h1)⟩
  · cases e
  · cases st
  · rename_i i
    split at e
    · rename_i ys q
      cases e
      obtain ⟨u, e1, a, rfl, vs, h1, h2, h3, h4⟩ := R.sl i _ q
      obtain rfl : V.ref a = v := Option.some.inj (Option.some.inj (e1.symm.trans h))
      exact ⟨a, vs, upd G a (.lst vs), rfl, SqL.of h1, ⟨a, vs, _, rfl, q, h, h1, h2, h3, h4⟩, walkD_list (fun H' s => SqL.of (s.1 _ _ upd_same)) h2, h2, fun H' s => SqL.of (s.1 _ _ upd_same)⟩
    · rename_i ys q
      cases e
      obtain ⟨u, e1, a, vs, rfl, h1, h2, h3⟩ := R.sl i _ q
      obtain rfl : V.ref a = v := Option.some.inj (Option.some.inj (e1.symm.trans h))
      exact ⟨a, vs, G, rfl, SqL.of (R.gh _ _ h1), rfl, walkD_list (fun H' s => SqL.of (s.1 _ _ h1)) h2, h2, fun H' s => SqL.of (s.1 _ _ h1)⟩
    · rename_i ns q
      cases e
      obtain ⟨u, e1, a, rfl, h1⟩ := R.sl i _ q
      obtain rfl : V.ref a = v := Option.some.inj (Option.some.inj (e1.symm.trans h))
      exact ⟨a, ns.map V.int, G, rfl, sqL_same R.fh h1.l, rfl, walkD_list (fun H' s => sqL_same s.2 h1.l) (RpAll.ofInts ns), RpAll.ofInts ns, fun H' s => sqL_same s.2 h1.l⟩
    · cases e
def iL (f : FnE) : FnI := fun Γ => (eOp f Γ).bind fun p => match itemsL p.1 p.2 with
  | some (xs, lk) => .ok (xs, lk, p.2)
  | none => .bad
/-- over a tuple -/
def iT (f : FnE) : FnI := fun Γ => (eOp f Γ).bind fun p => match p.1.get p.2 with
  | some (.tuple xs) => .ok (xs, none, p.2)
  | _ => .bad
def rgs (lo : Int) (n : Nat) : List D := (List.range n).map fun i => .int (lo + (i : Nat))
def rgOk (i : Int) : Bool := decide (-(2 ^ 62) ≤ i) && decide (i < 2 ^ 62)
def iR1 (f : FnA) : FnI := fun Γ => (f Γ).bind fun p => match p.1 with
  | [.d (.int j)] => if rgOk j then .ok (rgs 0 j.toNat, none, p.2) else .bad
  | _ => .bad
def iR2 (f : FnA) : FnI := fun Γ => (f Γ).bind fun p => match p.1 with
  | [.d (.int i), .d (.int j)] => if rgOk i && rgOk j then .ok (rgs i (j - i).toNat, none, p.2) else .bad
  | _ => .bad
theorem walkD_range {K : Frag} {lo : Int} {n : Nat} {G2 Fs : Hp} : WalkD K (Itr lo n) (rgs lo n) G2 Fs := by
  have w : Walk (Itr lo n) (rgs lo n).length (fun H => Same G2 H ∧ Same Fs H) (YFn fun i => .int (lo + i)) := by
    rw [show (rgs lo n).length = n by simp [rgs]]
    exact walk_range.mono (fun _ _ => trivial) fun i H x H' _ _ y => y
  exact walkD_same w fun i H v H' F x s1 s2 s3 y e => by
    obtain ⟨e1, e2⟩ := y
    subst e2
    unfold rgs at e
    rw [List.getElem?_map] at e
    cases q : (List.range n)[i]? with
    | none => rw [q] at e; cases e
    | some j =>
      rw [q] at e
      have hj : j = i := by
        rw [List.getElem?_eq_some_iff] at q
        obtain ⟨hl, q⟩ := q
        rw [List.getElem_range] at q
        exact q.symm
      subst hj
      cases e
      exact ⟨e1, .int _⟩
section
variable {X : Cx} {E : WX} {tg e a b : Expr} {fe : FnE} {fa : FnA} {p pos : Pos}
theorem fi_list (he : FE X E e fe) : FI X E tg e (iL fe) := pi_imp (pi_list he) fun σ H Rk ⟨G, pn, F, Γ, R, h⟩ => by
  refine tE_op _ _ _ ⟨G, pn, F, Γ, R, ?_⟩
  unfold iL at h
  cases q : eOp fe Γ with
  | bad => rw [q] at h; exact h
  | exc x => rw [q] at h; exact h
  | ok p =>
    obtain ⟨rv, Γ1⟩ := p
    rw [q] at h
    intro v F1 H1 A1 R1 r1
    simp only [Rs.bind_ok] at h
    cases q2 : itemsL rv Γ1 with
    | none => simp only [q2] at h; exact h.elim
    | some p2 =>
      obtain ⟨xs, lk⟩ := p2
      simp only [q2] at h
      obtain ⟨a, vs, G2, rfl, hs, lkr, wd, _⟩ := itemsL_ok R1 r1 (eOp_still q) q2
      exact ⟨a, rfl, ⟨vs, hs⟩, h _ F1 H1 G2 A1 R1 lkr wd⟩
theorem fi_tup (he : FE X E e fe) : FI X E tg e (iT fe) := pi_imp (pi_tup he) fun σ H Rk ⟨G, pn, F, Γ, R, h⟩ => by
  refine tE_op _ _ _ ⟨G, pn, F, Γ, R, ?_⟩
  unfold iT at h
  cases q : eOp fe Γ with
  | bad => rw [q] at h; exact h
  | exc x => rw [q] at h; exact h
  | ok p =>
    obtain ⟨rv, Γ1⟩ := p
    rw [q] at h
    intro v F1 H1 A1 R1 r1
    simp only [Rs.bind_ok] at h
    split at h
    · rename_i xs e1
      obtain ⟨a, vs, rfl, h1, h2, h3⟩ := rv_tup R1 r1 e1
      exact ⟨a, rfl, ⟨vs, h1⟩, h _ F1 H1 G A1 R1 rfl (walkD_tup (fun H' s => sqT_same s.2 h3) h2)⟩
    · exact h.elim
theorem rvAll1 {K : Frag} {F : Hp} {σ : St} {vs : List V} {i : Int} (h : RvAll K F σ vs [.d (.int i)]) : vs = [.int i] := by
  cases h with
  | d h1 h2 => cases h1; cases h2; rfl
theorem rvAll2 {K : Frag} {F : Hp} {σ : St} {vs : List V} {i j : Int} (h : RvAll K F σ vs [.d (.int i), .d (.int j)]) : vs = [.int i, .int j] := by
  cases h with
  | d h1 h2 => cases h1; rw [rvAll1 h2]
theorem fi_range1 (hg : Gl X "range") (hm : X.mg "range" = none) (ha : FA X E [a] fa) (hs : starEach [a] X.env = [(false, eval a X.env)] := by rfl) : FI X E tg (.Call (.Name "range" p) [a] [] pos) (iR1 fa) :=
  pi_imp (pi_range1 hg hm ha hs) fun σ H Rk ⟨G, pn, F, Γ, R, h⟩ => by
    refine ⟨G, pn, F, Γ, R, ?_⟩
    unfold iR1 at h
    cases q : fa Γ with
    | bad => rw [q] at h; exact h
    | exc x => rw [q] at h; exact h
    | ok p =>
      obtain ⟨rs, Γ1⟩ := p
      rw [q] at h
      intro vs F1 H1 A1 R1 r1
      simp only [Rs.bind_ok] at h
      split at h
      · rename_i j
        split at h
        · rename_i hz
          simp only [rgOk, Bool.and_eq_true, decide_eq_true_eq] at hz
          rw [rvAll1 r1]
          exact ⟨j, rfl, hz.1, hz.2, h _ F1 H1 G A1 R1 rfl walkD_range⟩
        · exact h.elim
      · exact h.elim
theorem fi_range2 (hg : Gl X "range") (hm : X.mg "range" = none) (ha : FA X E [a, b] fa) (hs : starEach [a, b] X.env = [(false, eval a X.env), (false, eval b X.env)] := by rfl) (hs2 : starEach [b] X.env = [(false, eval b X.env)] := by rfl) : FI X E tg (.Call (.Name "range" p) [a, b] [] pos) (iR2 fa) :=
  pi_imp (pi_range2 hg hm ha hs hs2) fun σ H Rk ⟨G, pn, F, Γ, R, h⟩ => by
    refine ⟨G, pn, F, Γ, R, ?_⟩
    unfold iR2 at h
    cases q : fa Γ with
    | bad => rw [q] at h; exact h
    | exc x => rw [q] at h; exact h
    | ok p =>
      obtain ⟨rs, Γ1⟩ := p
      rw [q] at h
      intro vs F1 H1 A1 R1 r1
      simp only [Rs.bind_ok] at h
      split at h
      · rename_i i j
        split at h
        · rename_i hz
          simp only [rgOk, Bool.and_eq_true, decide_eq_true_eq] at hz
          rw [rvAll2 r1]
          exact ⟨i, j, rfl, ⟨hz.1.1, hz.1.2, hz.2.1, hz.2.2⟩, h _ F1 H1 G A1 R1 rfl walkD_range⟩
        · exact h.elim
      · exact h.elim
end

/-! ### for -/
def loopF (g : FnG) (b : FnS) : List D → Ga → SR
  | [], Γ => .nx Γ
  | x :: xs, Γ => match g (.d x) Γ with
    | none => .bad
    | some Γ1 => match b Γ1 with
      | .nx Γ2 => loopF g b xs Γ2
      | .ct Γ2 => loopF g b xs Γ2
      | .bk Γ2 => .nx Γ2
      | .ret d Γ2 => .ret d Γ2
      | .exc e => .exc e
      | .bad => .bad
def unlk (i : Nat) (Γ : Ga) : Option Ga := match Γ[i]? with
  | some (some (.lk zs)) => some (Γ.set i (some (.ow zs)))
  | _ => none
def unl (i : Nat) : SR → SR
  | .nx Γ => (match unlk i Γ with | some Γ' => .nx Γ' | none => .bad)
  | .bk Γ => (match unlk i Γ with | some Γ' => .bk Γ' | none => .bad)
  | .ct Γ => (match unlk i Γ with | some Γ' => .ct Γ' | none => .bad)
  | .ret d Γ => (match unlk i Γ with | some Γ' => .ret d Γ' | none => .bad)
  | .exc e => .exc e
  | .bad => .bad
def shut (i : Nat) (Γ : Ga) : Ga := match Γ[i]? with
  | some (some (.ow ys)) => Γ.set i (some (.lk ys))
  | _ => Γ
def sFor (fi : FnI) (g : FnG) (b : FnS) : FnS := fun Γ => (fi Γ).toS fun p => match p.2.1 with
  | none => loopF g b p.1 p.2.2
  | some i => unl i (loopF g b p.1 (shut i p.2.2))
section
variable {K : Frag} {mg : Str → Option Value} {E : WX} {G G2 : Hp} {pn : List (Nat × Addr)} {Γ : Ga} {σ : St} {F F' H H' : Hp} {n : Nat} {Dn : Ends}
theorem Adv.weaken {a : Addr} {vs : List V} (h : Adv (upd G a (.lst vs)) F F') (hG : G a = none) : Adv G F F' := ⟨h.same, fun x hx => h.out x (by
  by_cases e : x = a
  · subst e; exact absurd hG hx
  · rw [upd_ne e]; exact hx)⟩
theorem same_sub {a : Addr} {vs : List V} (h : Same (upd G a (.lst vs)) H) (hG : G a = none) : Same G H := fun b o e => h b o (by rw [upd_ne (ne_of_none e hG)]; exact e)
theorem Rep.lock {i : Nat} {a : Addr} {vs : List V} {ys : List D} (R : Rep K G pn Γ σ F H) (e : Γ[i]? = some (some (.ow ys))) (hv : σ[i]? = some (some (.ref a))) (ha : H a = some (.lst vs)) (r : RpAll K F vs ys) (hF : F a = none) (hG : G a = none) :
    Rep K (upd G a (.lst vs)) ((i, a) :: pn) (Γ.set i (some (.lk ys))) σ F H where
  fh := R.fh
  gh := fun b o q => by
    by_cases hb : b = a
    · subst hb; rw [upd_same] at q; cases q; exact ha
    · rw [upd_ne hb] at q; exact R.gh _ _ q
  sl := fun j t q => by
    rcases get_set q with ⟨e1, e2, hl⟩ | ⟨e1, e2⟩
    · subst e1
      obtain rfl : t = _ := Option.some.inj e2
      exact ⟨_, hv, a, vs, rfl, upd_same, r, hF⟩
    · obtain ⟨u, q1, q2⟩ := R.sl j t e2
      refine ⟨u, q1, ?_⟩
      have other : ∀ b, u = .ref b → t.owned = true → b ≠ a := fun b eb ot z => by
        subst eb; subst z
        exact e1 (R.ap j i t _ b e2 e ot rfl q1 hv)
      cases t with
      | fz d => exact q2
      | ow xs =>
        obtain ⟨b, rfl, ws, h1, h2, h3, h4⟩ := q2
        exact ⟨b, rfl, ws, h1, h2, h3, by rw [upd_ne (other b rfl rfl)]; exact h4⟩
      | io xs =>
        obtain ⟨b, rfl, ws, h1, h2, h3, h4⟩ := q2
        exact ⟨b, rfl, ws, h1, h2, h3, by rw [upd_ne (other b rfl rfl)]; exact h4⟩
      | lk xs =>
        obtain ⟨b, ws, rfl, h1, h2, h3⟩ := q2
        exact ⟨b, ws, rfl, by rw [upd_ne (other b rfl rfl)]; exact h1, h2, h3⟩
      | scr ns => exact q2
  ap := fun j k sj sk b e1 e2 o1 o2 q1 q2 => by
    have f : ∀ (j : Nat) (sj : Sl), (Γ.set i (some (.lk ys)))[j]? = some (some sj) → sj.owned = true → ∃ t, Γ[j]? = some (some t) ∧ t.owned = true := fun j sj q o => by
      rcases get_set q with ⟨z1, z2, hl⟩ | ⟨z1, z2⟩
      · subst z1
        exact ⟨_, e, rfl⟩
      · exact ⟨sj, z2, o⟩
    obtain ⟨t1, y1, y2⟩ := f j sj e1 o1
    obtain ⟨t2, y3, y4⟩ := f k sk e2 o2
    exact R.ap j k t1 t2 b y1 y3 y2 y4 q1 q2
  pn := fun p hp => by
    have hl : i < Γ.length := by
      rcases Nat.lt_or_ge i Γ.length with h | h
      · exact h
      · rw [List.getElem?_eq_none h] at e; cases e
    rcases List.mem_cons.mp hp with z | z
    · subst z
      exact ⟨hv, _, by rw [List.getElem?_set_self hl], rfl⟩
    · obtain ⟨q1, t, q2, q3⟩ := R.pn p z
      refine ⟨q1, ?_⟩
      by_cases y : p.1 = i
      · rw [y, List.getElem?_set_self hl]
        exact ⟨_, rfl, rfl⟩
      · exact ⟨t, by rw [List.getElem?_set_ne (Ne.symm y)]; exact q2, q3⟩
  len := by simp [R.len]
  lkp := fun j zs q => by
    rcases get_set q with ⟨z1, z2, hl⟩ | ⟨z1, z2⟩
    · subst z1; exact ⟨a, List.mem_cons_self⟩
    · obtain ⟨b, hb⟩ := R.lkp j zs z2
      exact ⟨b, List.mem_cons_of_mem _ hb⟩
theorem Rep.unlock {i : Nat} {a : Addr} {vs : List V} {Γ' : Ga} (R : Rep K (upd G a (.lst vs)) ((i, a) :: pn) Γ σ F H) (hp : ∀ p ∈ pn, p.1 ≠ i) (hG : G a = none) (e : unlk i Γ = some Γ') : Rep K G pn Γ' σ F H := by
  unfold unlk at e
  split at e
  · rename_i zs q
    cases e
    obtain ⟨hv, _⟩ := R.pn (i, a) List.mem_cons_self
    obtain ⟨u, q1, b, ws, rfl, h1, h2, h3⟩ := R.sl i _ q
    have eb : a = b := by
      have := hv.symm.trans q1
      cases this
      rfl
    subst eb
    rw [upd_same] at h1
    cases h1
    exact {
      fh := R.fh
      gh := same_sub R.gh hG
      sl := fun j t z => by
        rcases get_set z with ⟨e1, e2, hl⟩ | ⟨e1, e2⟩
        · subst e1
          obtain rfl : t = _ := Option.some.inj e2
          exact ⟨_, hv, a, rfl, vs, R.gh _ _ upd_same, h2, h3, hG⟩
        · obtain ⟨u, q1', q2⟩ := R.sl j t e2
          refine ⟨u, q1', ?_⟩
          have other : ∀ b, u = .ref b → t.owned = true → b ≠ a := fun b eb ot z => by
            subst eb; subst z
            exact e1 (R.ap j i t _ b e2 q ot rfl q1' hv)
          cases t with
          | fz d => exact q2
          | ow xs =>
            obtain ⟨b, rfl, ws, h1, h2, h3, h4⟩ := q2
            exact ⟨b, rfl, ws, h1, h2, h3, by rw [upd_ne (other b rfl rfl)] at h4; exact h4⟩
          | io xs =>
            obtain ⟨b, rfl, ws, h1, h2, h3, h4⟩ := q2
            exact ⟨b, rfl, ws, h1, h2, h3, by rw [upd_ne (other b rfl rfl)] at h4; exact h4⟩
          | lk xs =>
            obtain ⟨b, ws, rfl, h1, h2, h3⟩ := q2
            exact ⟨b, ws, rfl, by rw [upd_ne (other b rfl rfl)] at h1; exact h1, h2, h3⟩
          | scr ns => exact q2
      ap := fun j k sj sk b e1 e2 o1 o2 q1 q2 => by
        have f : ∀ (j : Nat) (sj : Sl), (Γ.set i (some (.ow zs)))[j]? = some (some sj) → sj.owned = true → ∃ t, Γ[j]? = some (some t) ∧ t.owned = true := fun j sj z o => by
          rcases get_set z with ⟨z1, z2, hl⟩ | ⟨z1, z2⟩
          · subst z1
            exact ⟨_, q, rfl⟩
          · exact ⟨sj, z2, o⟩
        obtain ⟨t1, y1, y2⟩ := f j sj e1 o1
        obtain ⟨t2, y3, y4⟩ := f k sk e2 o2
        exact R.ap j k t1 t2 b y1 y3 y2 y4 q1 q2
      pn := fun p hp' => by
        obtain ⟨q1, t, q2, q3⟩ := R.pn p (List.mem_cons_of_mem _ hp')
        exact ⟨q1, t, by rw [List.getElem?_set_ne (Ne.symm (hp p hp'))]; exact q2, q3⟩
      len := by simp [R.len]
      lkp := fun j ws z => by
        rcases get_set z with ⟨z1, z2, hl⟩ | ⟨z1, z2⟩
        · cases z2
        · obtain ⟨b, hb⟩ := R.lkp j ws z2
          rcases List.mem_cons.mp hb with y | y
          · cases y; exact absurd rfl z1
          · exact ⟨b, y⟩ }
  · cases e
theorem post_unl {i : Nat} {a : Addr} {vs : List V} {r : SR} (hp : ∀ p ∈ pn, p.1 ≠ i) (hG : G a = none) (h : PostS K mg E G pn n F Dn (unl i r)) : PostS K mg E (upd G a (.lst vs)) ((i, a) :: pn) n F Dn r := by
  cases r with
  | nx Γ =>
    cases e : unlk i Γ with
    | none => simp only [unl, e] at h; exact h.elim
    | some Γ' => simp only [unl, e] at h; exact fun σ' F2 H2 A R l => h σ' F2 H2 (A.weaken hG) (R.unlock hp hG e) l
  | bk Γ =>
    cases e : unlk i Γ with
    | none => simp only [unl, e] at h; exact h.elim
    | some Γ' => simp only [unl, e] at h; exact fun σ' F2 H2 A R l => h σ' F2 H2 (A.weaken hG) (R.unlock hp hG e) l
  | ct Γ =>
    cases e : unlk i Γ with
    | none => simp only [unl, e] at h; exact h.elim
    | some Γ' => simp only [unl, e] at h; exact fun σ' F2 H2 A R l => h σ' F2 H2 (A.weaken hG) (R.unlock hp hG e) l
  | ret d Γ =>
    cases e : unlk i Γ with
    | none => simp only [unl, e] at h; exact h.elim
    | some Γ' => simp only [unl, e] at h; exact fun v σ' F2 H2 A R l => h v σ' F2 H2 (A.weaken hG) (R.unlock hp hG e) l
  | exc e => exact fun c d σ' F2 H2 l A s1 s2 x => h c d σ' F2 H2 l (A.weaken hG) s1 (same_sub s2 hG) x
  | bad => exact h
/-- the loop, once its items are known -/
theorem loop_ok {J : It} {xs : List D} {g : FnG} {b : FnS} (w : WalkD K J xs G2 F) (R : Rep K G2 pn Γ σ F H) (h : PostS K mg E G2 pn σ.length F Dn (loopF g b xs Γ)) :
    ∃ W : Nat → Nat → St → Hp → Prop, (∃ m, W 0 m σ H) ∧ ∀ i m σ H, W i m σ H →
      (J.stop i H ∧ Dn.nx σ H) ∨ (J.go i H ∧ ∃ N : St → Hp → Prop, (∀ σ' H', N σ' H' → ∃ m', m' < m ∧ W (i + 1) m' σ' H') ∧ ∀ x H', J.yld i H x H' → tG K g x σ H' fun σ2 H2 => tS K mg E b { Dn with nx := N, ct := N, bk := Dn.nx } σ2 H2) := by
  obtain ⟨Y, wk, yl⟩ := w
  refine for_it wk (fun i σ' H' => ∃ F' Γ', Adv G2 F F' ∧ Rep K G2 pn Γ' σ' F' H' ∧ σ'.length = σ.length ∧ PostS K mg E G2 pn σ.length F' Dn (loopF g b (xs.drop i) Γ')) ⟨F, Γ, Adv.refl G2 F, R, rfl, h⟩ ?_ ?_ ?_
  · rintro i σ' H' _ ⟨F', Γ', A, R', _, _⟩
    exact ⟨R'.gh, fun x o e => R'.fh x o (A.same x o e)⟩
  · rintro i v σ' H1 H2 hi ⟨F', Γ', A, R', l, p⟩ y
    have e : xs[i]? = some xs[i] := List.getElem?_eq_getElem hi
    obtain ⟨F2, A2, rp, nw⟩ := yl i H1 v H2 F' G2 xs[i] A.same R'.fh R'.gh R'.gh y e
    have R2 : Rep K G2 pn Γ' σ' F2 H2 := by
      rcases nw with ⟨e1, e2⟩ | ⟨p, o, hp, e1, e2⟩
      · rw [e1, e2]; exact R'
      · rw [e1, e2]; exact R'.newF hp
    refine ⟨G2, pn, F2, Γ', .d xs[i], R2, rp, ?_⟩
    rw [List.drop_eq_getElem_cons hi] at p
    unfold loopF at p
    cases q : g (.d xs[i]) Γ' with
    | none => simp only [q] at p; exact p
    | some Γ1 =>
      simp only [q] at p
      intro σ3 F3 H3 A3 R3 l3
      refine ⟨G2, pn, F3, Γ1, R3, ?_⟩
      have Aall : Adv G2 F' F3 := A2.trans A3
      have ll : σ3.length = σ.length := l3.trans l
      rw [ll]
      cases q2 : b Γ1 with
      | nx Γ2 => simp only [q2] at p; exact fun σ4 F4 H4 A4 R4 l4 => ⟨F4, Γ2, (A.trans Aall).trans A4, R4, l4, p.adv (Aall.trans A4)⟩
      | ct Γ2 => simp only [q2] at p; exact fun σ4 F4 H4 A4 R4 l4 => ⟨F4, Γ2, (A.trans Aall).trans A4, R4, l4, p.adv (Aall.trans A4)⟩
      | bk Γ2 => simp only [q2] at p; exact fun σ4 F4 H4 A4 R4 l4 => p σ4 F4 H4 (Aall.trans A4) R4 l4
      | ret d Γ2 => simp only [q2] at p; exact fun v σ4 F4 H4 A4 R4 r4 => p v σ4 F4 H4 (Aall.trans A4) R4 r4
      | exc e => simp only [q2] at p; exact PostXS.adv p Aall
      | bad => simp only [q2] at p; exact p
  · rintro σ' H' ⟨F', Γ', A, R', l, p⟩
    rw [List.drop_length] at p
    exact p σ' F' H' (Adv.refl G2 F') R' l
end
theorem pinned_ne {K : Frag} {G : Hp} {pn : List (Nat × Addr)} {Γ : Ga} {σ : St} {F H : Hp} {i : Nat} {ys : List D} (R : Rep K G pn Γ σ F H) (e : Γ[i]? = some (some (.ow ys))) : ∀ p ∈ pn, p.1 ≠ i := fun p hp z => by
  obtain ⟨_, t, q2, q3⟩ := R.pn p hp
  rw [z, e] at q2
  cases q2
  cases q3
section
variable {X : Cx} {E : WX} {tg iter : Expr} {body : List Stmt} {fi : FnI} {g : FnG} {b : FnS} {pos : Pos}
theorem fs_for (hp : PassesOwn (model X.prog X.w) X.A X.env X.xe) (hc : X.calm = true) (hi : FI X E tg iter fi) (hg : FG X tg g) (hb : FSs X E body b) (hs : ∀ x, foldedSetIterable iter X.env x = pure x := by intro _; rfl) :
    FS X E (.For tg iter body [] pos) (sFor fi g b) := ps_imp (ps_for hp hc hi hg hb hs) fun Dn σ H ⟨G, pn, F, Γ, R, h⟩ => by
  refine ⟨G, pn, F, Γ, R, ?_⟩
  unfold sFor at h
  cases q : fi Γ with
  | bad => rw [q] at h; exact h
  | exc x => rw [q] at h; exact h.at
  | ok p =>
    obtain ⟨xs, lk, Γ1⟩ := p
    rw [q] at h
    intro J F1 H1 G2 A1 R1 lkr wd
    simp only [Rs.toS_ok] at h
    cases lk with
    | none =>
      cases lkr
      exact loop_ok wd R1 (h.adv A1)
    | some i =>
      obtain ⟨a, vs, ys, rfl, e1, e2, e3, e4, e5, e6⟩ := lkr
      have es : shut i Γ1 = Γ1.set i (some (.lk ys)) := by
        unfold shut
        rw [e1]
      simp only at h
      rw [es] at h
      exact loop_ok wd (R1.lock e1 e2 e3 e4 e5 e6) (post_unl (pinned_ne R1 e1) e6 (h.adv A1))
end

end FL

/-! FW: while. -/
namespace FL
open PySem PySem.Spec L2

/-! ### while -/
def whileN (t : FnT) (b : FnS) : Nat → Ga → SR
  | 0, _ => .bad
  | n + 1, Γ => (t Γ).toS fun p => if p.1 then (match b p.2 with
      | .nx Γ2 => whileN t b n Γ2
      | .ct Γ2 => whileN t b n Γ2
      | .bk Γ2 => .nx Γ2
      | .ret d Γ2 => .ret d Γ2
      | .exc e => .exc e
      | .bad => .bad) else .nx p.2
def SR.isBad : SR → Bool
  | .bad => true
  | _ => false
/-- one turn of it, what follows told -/
def whileT (t : FnT) (b : FnS) (k : Ga → SR) (Γ : Ga) : SR := (t Γ).toS fun p => if p.1 then (match b p.2 with
      | .nx Γ2 => k Γ2
      | .ct Γ2 => k Γ2
      | .bk Γ2 => .nx Γ2
      | .ret d Γ2 => .ret d Γ2
      | .exc e => .exc e
      | .bad => .bad) else .nx p.2
theorem whileN_succ {t : FnT} {b : FnS} {n : Nat} {Γ : Ga} : whileN t b (n + 1) Γ = whileT t b (whileN t b n) Γ := rfl
theorem whileT_congr {t : FnT} {b : FnS} {k k' : Ga → SR} {Γ : Ga} (hk : ∀ Γ, (k Γ).isBad = false → k' Γ = k Γ) (h : (whileT t b k Γ).isBad = false) : whileT t b k' Γ = whileT t b k Γ := by
  unfold whileT at h ⊢
  cases q : t Γ with
  | bad => rfl
  | exc e => rfl
  | ok p =>
    obtain ⟨c, Γ1⟩ := p
    rw [q] at h
    cases c with
    | false => rfl
    | true =>
      simp only [Rs.toS_ok, if_true] at h ⊢
      cases q2 : b Γ1 with
      | nx Γ2 => simp only [q2] at h ⊢; exact hk _ h
      | ct Γ2 => simp only [q2] at h ⊢; exact hk _ h
      | _ => rfl
theorem whileN_up {t : FnT} {b : FnS} : ∀ {n : Nat} {Γ : Ga}, (whileN t b n Γ).isBad = false → whileN t b (n + 1) Γ = whileN t b n Γ
  | 0, Γ, h => by cases h
  | n + 1, Γ, h => by
    rw [whileN_succ] at h ⊢
    rw [whileN_succ (n := n)]
    exact whileT_congr (fun Γ' h' => whileN_up h') h
theorem whileN_le {t : FnT} {b : FnS} {n m : Nat} {Γ : Ga} (h : (whileN t b n Γ).isBad = false) (hm : n ≤ m) : whileN t b m Γ = whileN t b n Γ := by
  induction hm with
  | refl => rfl
  | step _ ih => rw [whileN_up (by rw [ih]; exact h), ih]
open Classical in
/-- while: what some number of turns comes to -/
noncomputable def sWhile (t : FnT) (b : FnS) : FnS := fun Γ => if h : ∃ n, (whileN t b n Γ).isBad = false then whileN t b (Classical.choose h) Γ else .bad
theorem sWhile_eq {t : FnT} {b : FnS} {n : Nat} {Γ : Ga} (h : (whileN t b n Γ).isBad = false) : sWhile t b Γ = whileN t b n Γ := by
  unfold sWhile
  have hx : ∃ n, (whileN t b n Γ).isBad = false := ⟨n, h⟩
  rw [dif_pos hx]
  have h2 := Classical.choose_spec hx
  rcases Nat.le_total n (Classical.choose hx) with l | l
  · exact whileN_le h l
  · exact (whileN_le h2 l).symm
theorem sWhile_some {t : FnT} {b : FnS} {Γ : Ga} (h : (sWhile t b Γ).isBad = false) : ∃ n, sWhile t b Γ = whileN t b n Γ := by
  unfold sWhile at h ⊢
  split
  · exact ⟨_, rfl⟩
  · rename_i hn
    rw [dif_neg hn] at h
    cases h
section
variable {X : Cx} {E : WX} {c : Expr} {body : List Stmt} {ft : FnT} {b : FnS} {pos : Pos}
theorem fs_while (hp : PassesOwn (model X.prog X.w) X.A X.env X.xe) (hc : FT X E c ft) (hb : FSs X E body b) : FS X E (.While c body [] pos) (sWhile ft b) := ps_imp (ps_while hp hc hb) fun Dn σ H ⟨G, pn, F, Γ, R, h⟩ => by
  have nb : (sWhile ft b Γ).isBad = false := by
    cases q : sWhile ft b Γ with
    | bad => rw [q] at h; exact h.elim
    | _ => rfl
  obtain ⟨n, e⟩ := sWhile_some nb
  rw [e] at h
  refine ⟨fun m σ' H' => ∃ F' Γ', Rep X.K G pn Γ' σ' F' H' ∧ σ'.length = σ.length ∧ PostS X.K X.mg E G pn σ.length F' Dn (whileN ft b m Γ'), ⟨n, F, Γ, R, rfl, h⟩, ?_⟩
  rintro m σ' H' ⟨F', Γ', R', l, p⟩
  refine ⟨G, pn, F', Γ', R', ?_⟩
  cases m with
  | zero => exact p.elim
  | succ m =>
    unfold whileN at p
    cases q : ft Γ' with
    | bad => rw [q] at p; exact p
    | exc e => rw [q] at p; exact (show PostXS X.K X.mg E G σ'.length F' e by rw [l]; exact p).at
    | ok p2 =>
      obtain ⟨k, Γ1⟩ := p2
      rw [q] at p
      intro F1 H1 A1 R1
      simp only [Rs.toS_ok] at p
      cases k with
      | false =>
        rw [if_neg Bool.false_ne_true] at p ⊢
        exact p σ' F1 H1 A1 R1 l
      | true =>
        rw [if_pos rfl] at p ⊢
        refine ⟨fun σ2 H2 => ∃ F2 Γ2, Rep X.K G pn Γ2 σ2 F2 H2 ∧ σ2.length = σ.length ∧ PostS X.K X.mg E G pn σ.length F2 Dn (whileN ft b m Γ2), fun σ2 H2 hN => ⟨m, Nat.lt_succ_self m, hN⟩, G, pn, F1, Γ1, R1, ?_⟩
        rw [l]
        cases q2 : b Γ1 with
        | nx Γ2 => simp only [q2] at p; exact fun σ4 F4 H4 A4 R4 l4 => ⟨F4, Γ2, R4, l4, p.adv (A1.trans A4)⟩
        | ct Γ2 => simp only [q2] at p; exact fun σ4 F4 H4 A4 R4 l4 => ⟨F4, Γ2, R4, l4, p.adv (A1.trans A4)⟩
        | bk Γ2 => simp only [q2] at p; exact fun σ4 F4 H4 A4 R4 l4 => p σ4 F4 H4 (A1.trans A4) R4 l4
        | ret d Γ2 => simp only [q2] at p; exact fun v σ4 F4 H4 A4 R4 r4 => p v σ4 F4 H4 (A1.trans A4) R4 r4
        | exc e => simp only [q2] at p; exact PostXS.adv p A1
        | bad => simp only [q2] at p; exact p
end
end FL

/-! FLc: list comprehensions. -/
namespace FL
open PySem PySem.Spec L2

abbrev EN : WX := fun _ _ _ _ => False
/-! ### slots wiped -/
def wipeG (Γ : Ga) : List Nat → Ga
  | [] => Γ
  | v :: vs => (wipeG Γ vs).set v none
theorem wipe_at {σ : St} {i : Nat} : ∀ {vs : List Nat}, (wipe σ vs)[i]? = if i ∈ vs ∧ i < σ.length then some none else σ[i]?
  | [] => by simp [wipe]
  | v :: vs => by
    unfold wipe
    rw [List.getElem?_set, wipe_length, wipe_at]
    by_cases e : v = i
    · subst e
      by_cases hl : v < σ.length
      · simp [hl]
      · simp [hl, List.getElem?_eq_none (Nat.le_of_not_lt hl)]
    · have e' : ¬ i = v := fun z => e z.symm
      simp [e, e']
theorem wipeG_length (Γ : Ga) : ∀ vs : List Nat, (wipeG Γ vs).length = Γ.length
  | [] => rfl
  | v :: vs => by unfold wipeG; rw [List.length_set, wipeG_length Γ vs]
theorem wipeG_at {Γ : Ga} {i : Nat} : ∀ {vs : List Nat}, (wipeG Γ vs)[i]? = if i ∈ vs ∧ i < Γ.length then some none else Γ[i]?
  | [] => by simp [wipeG]
  | v :: vs => by
    unfold wipeG
    rw [List.getElem?_set, wipeG_length, wipeG_at]
    by_cases e : v = i
    · subst e
      by_cases hl : v < Γ.length
      · simp [hl]
      · simp [hl, List.getElem?_eq_none (Nat.le_of_not_lt hl)]
    · have e' : ¬ i = v := fun z => e z.symm
      simp [e, e']
theorem wipe_set {σ : St} {i : Nat} {y : Option V} {vs : List Nat} (h : i ∈ vs) : wipe (σ.set i y) vs = wipe σ vs := by
  apply List.ext_getElem?
  intro j
  rw [wipe_at, wipe_at, List.length_set, List.getElem?_set]
  by_cases e : i = j
  · subst e
    by_cases hl : i < σ.length
    · simp [h, hl]
    · simp [hl, List.getElem?_eq_none (Nat.le_of_not_lt hl)]
  · simp [e]
theorem wipe_wipe {σ : St} {vs : List Nat} : wipe (wipe σ vs) vs = wipe σ vs := by
  apply List.ext_getElem?
  intro j
  rw [wipe_at, wipe_at, wipe_length]
  by_cases h : j ∈ vs ∧ j < σ.length
  · simp [h]
  · rw [if_neg h]
section
variable {K : Frag} {G : Hp} {pn : List (Nat × Addr)} {Γ Γ' : Ga} {σ σ' : St} {F F' H H' : Hp}
/-- may these slots be wiped: none owns a list -/
def plainAt (Γ : Ga) (i : Nat) : Bool := match Γ[i]? with
  | some (some s) => !s.owned
  | _ => true
theorem pinned_owned {s : Sl} (h : s.pinned = true) : s.owned = true := by cases s <;> first | rfl | cases h
theorem Rep.wipe {vs : List Nat} (R : Rep K G pn Γ σ F H) (h : ∀ p ∈ pn, p.1 ∉ vs) : Rep K G pn (wipeG Γ vs) (L2.wipe σ vs) F H where
  fh := R.fh
  gh := R.gh
  sl := fun i s e => by
    rw [wipeG_at] at e
    split at e
    · cases e
    · rename_i hn
      obtain ⟨v, e1, e2⟩ := R.sl i s e
      exact ⟨v, by rw [wipe_at, ← R.len, if_neg hn]; exact e1, e2⟩
  ap := fun i j si sj a e1 e2 o1 o2 q1 q2 => by
    rw [wipeG_at] at e1 e2
    rw [wipe_at] at q1 q2
    split at e1
    · cases e1
    · split at e2
      · cases e2
      · rename_i h1 h2
        rw [← R.len, if_neg h1] at q1
        rw [← R.len, if_neg h2] at q2
        exact R.ap i j si sj a e1 e2 o1 o2 q1 q2
  pn := fun p hp => by
    obtain ⟨q1, s, q2, q3⟩ := R.pn p hp
    have hn : ¬ (p.1 ∈ vs ∧ p.1 < σ.length) := fun z => h p hp z.1
    have hn2 : ¬ (p.1 ∈ vs ∧ p.1 < Γ.length) := fun z => h p hp z.1
    exact ⟨by rw [wipe_at, if_neg hn]; exact q1, s, by rw [wipeG_at, if_neg hn2]; exact q2, q3⟩
  len := by rw [wipe_length, wipeG_length]; exact R.len
  lkp := fun j zs e => by
    rw [wipeG_at] at e
    split at e
    · cases e
    · exact R.lkp j zs e
theorem Rep.cast {σ' : St} (R : Rep K G pn Γ σ F H) (e : σ = σ') : Rep K G pn Γ σ' F H := e ▸ R
/-- the slots that were wiped are as they were -/
def mend (Γ0 Γ : Ga) (vs : List Nat) : Ga := (List.range Γ.length).map fun i => if i ∈ vs then (Γ0[i]?).getD none else (Γ[i]?).getD none
theorem mend_at {Γ0 Γ : Ga} {vs : List Nat} {i : Nat} {s : Sl} (h : (mend Γ0 Γ vs)[i]? = some (some s)) : i < Γ.length ∧ ((i ∈ vs ∧ Γ0[i]? = some (some s)) ∨ (i ∉ vs ∧ Γ[i]? = some (some s))) := by
  unfold mend at h
  rw [List.getElem?_map] at h
  cases q : (List.range Γ.length)[i]? with
  | none => rw [q] at h; cases h
  | some j =>
    rw [List.getElem?_eq_some_iff] at q
    obtain ⟨hl, q⟩ := q
    rw [List.getElem_range] at q
    subst q
    rw [List.length_range] at hl
    rw [List.getElem?_eq_getElem (by simpa using hl)] at h
    simp only [List.getElem_range, Option.map_some] at h
    refine ⟨hl, ?_⟩
    split at h
    · rename_i hv
      refine .inl ⟨hv, ?_⟩
      cases q2 : Γ0[i]? with
      | none => rw [q2] at h; cases h
      | some o => rw [q2] at h; simpa using h
    · rename_i hv
      refine .inr ⟨hv, ?_⟩
      cases q2 : Γ[i]? with
      | none => rw [q2] at h; cases h
      | some o => rw [q2] at h; simpa using h
theorem Rep.mend {vs : List Nat} {G0 F0 H0 : Hp} {Γ0 : Ga} (R0 : Rep K G0 pn Γ0 σ F0 H0) (R : Rep K G pn Γ (L2.wipe σ vs) F H) (A : Same F0 F) (hp : ∀ v ∈ vs, plainAt Γ0 v = true) : Rep K G pn (mend Γ0 Γ vs) σ F H where
  fh := R.fh
  gh := R.gh
  sl := fun i s e => by
    rcases mend_at e with ⟨hl, ⟨h1, h2⟩ | ⟨h1, h2⟩⟩
    · obtain ⟨v, q1, q2⟩ := R0.sl i s h2
      refine ⟨v, q1, ?_⟩
      have np := hp i h1
      unfold plainAt at np
      rw [h2] at np
      cases s with
      | fz d => exact Rp.mono A q2
      | scr ns => obtain ⟨a, rfl, q3⟩ := q2; exact ⟨a, rfl, q3.mono A⟩
      | _ => cases np
    · obtain ⟨v, q1, q2⟩ := R.sl i s h2
      rw [wipe_at, if_neg (fun z => h1 z.1)] at q1
      exact ⟨v, q1, q2⟩
  ap := fun i j si sj a e1 e2 o1 o2 q1 q2 => by
    have f : ∀ (i : Nat) (s : Sl), (FL.mend Γ0 Γ vs)[i]? = some (some s) → s.owned = true → i ∉ vs ∧ Γ[i]? = some (some s) := fun i s e o => by
      rcases mend_at e with ⟨hl, ⟨h1, h2⟩ | ⟨h1, h2⟩⟩
      · have np := hp i h1
        unfold plainAt at np
        rw [h2] at np
        simp [o] at np
      · exact ⟨h1, h2⟩
    obtain ⟨n1, y1⟩ := f i si e1 o1
    obtain ⟨n2, y2⟩ := f j sj e2 o2
    exact R.ap i j si sj a y1 y2 o1 o2 (by rw [wipe_at, if_neg (fun z => n1 z.1)]; exact q1) (by rw [wipe_at, if_neg (fun z => n2 z.1)]; exact q2)
  pn := fun p hp' => by
    obtain ⟨q1, s, q2, q3⟩ := R.pn p hp'
    have hn : p.1 ∉ vs := fun hv => by
      obtain ⟨_, t, q4, q5⟩ := R0.pn p hp'
      have np := hp p.1 hv
      unfold plainAt at np
      rw [q4] at np
      simp [pinned_owned q5] at np
    rw [wipe_at, if_neg (fun z => hn z.1)] at q1
    refine ⟨q1, s, ?_, q3⟩
    have hl : p.1 < Γ.length := by
      rcases Nat.lt_or_ge p.1 Γ.length with h | h
      · exact h
      · rw [List.getElem?_eq_none h] at q2; cases q2
    unfold FL.mend
    rw [List.getElem?_map, List.getElem?_eq_getElem (by simpa using hl)]
    simp [hn, q2]
  len := by
    have := R.len
    rw [wipe_length] at this
    simp [FL.mend, this]
  lkp := fun j zs e => by
    rcases mend_at e with ⟨hl, ⟨h1, h2⟩ | ⟨h1, h2⟩⟩
    · exact R0.lkp j zs h2
    · exact R.lkp j zs h2
end

/-! ### targets within a block -/
def tGv (K : Frag) (vs : List Nat) (g : FnG) : TG := fun v σ H Qs => ∃ G pn F Γ rv, Rep K G pn Γ σ F H ∧ RvR K G F H Γ σ v rv ∧ match g rv Γ with
  | some Γ' => ∀ σ' F' H', Adv G F F' → Rep K G pn Γ' σ' F' H' → σ'.length = σ.length → L2.wipe σ' vs = L2.wipe σ vs → Qs σ' H'
  | none => False
def tGvs (K : Frag) (vs : List Nat) (g : FnGs) : TGs := fun us σ H Qs => ∃ G pn F Γ ds, Rep K G pn Γ σ F H ∧ RpAll K F us ds ∧ match g ds Γ with
  | some Γ' => ∀ σ' F' H', Adv G F F' → Rep K G pn Γ' σ' F' H' → σ'.length = σ.length → L2.wipe σ' vs = L2.wipe σ vs → Qs σ' H'
  | none => False
abbrev FGv (X : Cx) (vs : List Nat) (tg : Expr) (g : FnG) : Prop := PG X tg (tGv X.K vs g)
abbrev FGvs (X : Cx) (vs : List Nat) (tg : List Expr) (g : FnGs) : Prop := PGs X tg (tGvs X.K vs g)
section
variable {X : Cx} {vs : List Nat} {e : Expr} {es : List Expr} {g : FnG} {gs : FnGs} {pos : Pos}
theorem fgv_name {i : Nat} (h : PG X e (gName i)) (hi : i ∈ vs) : FGv X vs e (gN i) := pg_imp h fun v σ H Q ⟨G, pn, F, Γ, rv, R, rr, q⟩ => by
  cases e1 : gN i rv Γ with
  | none => simp only [e1] at q
  | some Γ' =>
    simp only [e1] at q
    obtain ⟨F', A, R'⟩ := gN_ok R rr e1
    exact q _ F' H A R' (by simp) (wipe_set hi)
theorem fgvs_nil : FGvs X vs [] gsNil := pgs_imp pgs_nil fun us σ H Q ⟨G, pn, F, Γ, ds, R, rr, q⟩ => by
  cases ds with
  | nil => cases rr; exact ⟨rfl, q σ F H (Adv.refl G F) R rfl rfl⟩
  | cons d r => exact q.elim
theorem fgvs_cons (h1 : FGv X vs e g) (h2 : FGvs X vs es gs) (hs : (assignEach (e :: es) X.env).map (·.2) = assign e X.env :: (assignEach es X.env).map (·.2) := by rfl) : FGvs X vs (e :: es) (gsCons g gs) :=
  pgs_imp (pgs_cons h1 h2 hs) fun us σ H Q ⟨G, pn, F, Γ, ds, R, rr, q⟩ => by
    cases ds with
    | nil => exact q.elim
    | cons d r =>
      cases rr with
      | cons r1 r2 =>
        unfold gsCons at q
        simp only at q
        refine ⟨_, _, rfl, G, pn, F, Γ, .d d, R, r1, ?_⟩
        cases e1 : g (.d d) Γ with
        | none => rw [e1] at q; exact q.elim
        | some Γ1 =>
          rw [e1] at q
          simp only [Option.bind_some] at q
          intro σ' F' H' A R' l w
          refine ⟨G, pn, F', Γ1, r, R', RpAll.mono A.same r2, ?_⟩
          cases e2 : gs r Γ1 with
          | none => simp only [e2] at q
          | some Γ2 =>
            simp only [e2] at q ⊢
            exact fun σ2 F2 H2 A2 R2 l2 w2 => q σ2 F2 H2 (A.trans A2) R2 (l2.trans l) (w2.trans w)
theorem fgv_tup {k n : Nat} (hc : X.calm = true) (h : FGvs X vs es gs) (hl : ∀ ds Γ Γ', gs ds Γ = some Γ' → ds.length = n) (hn : (assignEach es X.env).length = n := by rfl) (hst : (assignEach es X.env).findIdx? (·.1) = none := by rfl) :
    FGv X vs (.Tuple es k pos) (gT gs) := pg_imp (pg_tup hc h hn hst) fun v σ H Q ⟨G, pn, F, Γ, rv, R, rr, q⟩ => by
  unfold gT at q
  cases rv with
  | ow xs => exact q.elim
  | sl i => exact q.elim
  | d x =>
    cases x with
    | tuple ds =>
      simp only at q
      cases rr with
      | tup h1 h2 =>
        refine ⟨_, _, rfl, sqT_same R.fh h1, ?_, G, pn, F, Γ, ds, R, h2, q⟩
        cases e1 : gs ds Γ with
        | none => simp only [e1] at q
        | some Γ' => rw [h2.len]; exact hl _ _ _ e1
    | _ => exact q.elim
end

/-! ### tests of a comprehension -/
def tOk : FnT := fun Γ => .ok (true, Γ)
abbrev FTs (X : Cx) (E : WX) (ifs : List Expr) (f : FnT) : Prop := PTs X ifs (tT X.K X.mg E f)
theorem fts_nil {X : Cx} {E : WX} : FTs X E [] tOk := ⟨fun pins s σ H Q I ⟨G, pn, F, Γ, R, h⟩ => pts_nil.run pins s σ H Q I (h F H (Adv.refl G F) R)⟩
theorem fts_one {X : Cx} {E : WX} {c : Expr} {f : FnT} (h : FT X E c f) : FTs X E [c] f := pts_one h

/-! ### the comprehension -/
def lcF (vs : List Nat) (g : FnG) (t : FnT) (f : FnE) : List D → List D → Ga → Rs (List D × Ga)
  | [], acc, Γ => .ok (acc, Γ)
  | x :: xs, acc, Γ => match g (.d x) Γ with
    | none => .bad
    | some Γ1 => (t Γ1).bind fun p => if p.1 then (f p.2).bind fun q => (match rvFz q.2 q.1 with
        | some (y, Γ3) => if acc.length < lim then lcF vs g t f xs (acc ++ [y]) (wipeG Γ3 vs) else .bad
        | none => .bad) else lcF vs g t f xs acc (wipeG p.2 vs)
def eLc (fi : FnI) (vs : List Nat) (g : FnG) (t : FnT) (f : FnE) : FnE := fun Γ => (fi Γ).bind fun p =>
  let Γ1 := match p.2.1 with
    | none => p.2.2
    | some i => shut i p.2.2
  if vs.all (plainAt Γ1) then (match lcF vs g t f p.1 [] (wipeG Γ1 vs) with
    | .ok (ys, Γ2) => (match p.2.1 with
      | none => .ok (.ow ys, mend Γ1 Γ2 vs)
      | some i => (match unlk i (mend Γ1 Γ2 vs) with
        | some Γ3 => .ok (.ow ys, Γ3)
        | none => .bad))
    | _ => .bad) else .bad
section
variable {K : Frag} {mg : Str → Option Value} {G G1 : Hp} {pn : List (Nat × Addr)} {Γ : Ga} {σ : St} {F F' H H' : Hp}
theorem Rep.shield {a : Addr} {vs : List V} (R : Rep K G pn Γ σ F H) (ha : H a = some (.lst vs)) (hG : G a = none) (hap : ∀ (j : Nat) (sj : Sl), Γ[j]? = some (some sj) → sj.owned = true → σ[j]? ≠ some (some (.ref a))) :
    Rep K (upd G a (.lst vs)) pn Γ σ F H where
  fh := R.fh
  gh := fun b o q => by
    by_cases hb : b = a
    · subst hb; rw [upd_same] at q; cases q; exact ha
    · rw [upd_ne hb] at q; exact R.gh _ _ q
  sl := fun j t e2 => by
    obtain ⟨u, q1, q2⟩ := R.sl j t e2
    refine ⟨u, q1, ?_⟩
    have other : ∀ b, u = .ref b → t.owned = true → b ≠ a := fun b eb ot z => by
      subst eb; subst z
      exact hap j t e2 ot q1
    cases t with
    | fz d => exact q2
    | ow xs =>
      obtain ⟨b, rfl, ws, h1, h2, h3, h4⟩ := q2
      exact ⟨b, rfl, ws, h1, h2, h3, by rw [upd_ne (other b rfl rfl)]; exact h4⟩
    | io xs =>
      obtain ⟨b, rfl, ws, h1, h2, h3, h4⟩ := q2
      exact ⟨b, rfl, ws, h1, h2, h3, by rw [upd_ne (other b rfl rfl)]; exact h4⟩
    | lk xs =>
      obtain ⟨b, ws, rfl, h1, h2, h3⟩ := q2
      exact ⟨b, ws, rfl, by rw [upd_ne (other b rfl rfl)]; exact h1, h2, h3⟩
    | scr ns => exact q2
  ap := R.ap
  pn := R.pn
  len := R.len
  lkp := R.lkp
theorem lk_ne {a b : Addr} {j : Nat} {zs : List D} (R : Rep K G pn Γ σ F H) (hap : ∀ p ∈ pn, p.2 ≠ a) (e : Γ[j]? = some (some (.lk zs))) (q : σ[j]? = some (some (.ref b))) : b ≠ a := by
  obtain ⟨c, hc⟩ := R.lkp j zs e
  obtain ⟨q1, _⟩ := R.pn _ hc
  rw [q] at q1
  cases q1
  exact hap _ hc
/-- the shielded object is written by its keeper -/
theorem Rep.reshield {a : Addr} {vs vs' : List V} (R : Rep K (upd G a (.lst vs)) pn Γ σ F H) (hG : G a = none) (hF : F a = none) (hap : ∀ p ∈ pn, p.2 ≠ a) :
    Rep K (upd G a (.lst vs')) pn Γ σ F (upd H a (.lst vs')) where
  fh := same_upd1 R.fh hF
  gh := fun b o q => by
    by_cases hb : b = a
    · subst hb; rw [upd_same] at q ⊢; exact q
    · rw [upd_ne hb] at q ⊢; exact R.gh _ _ (by rw [upd_ne hb]; exact q)
  sl := fun j t e2 => by
    obtain ⟨u, q1, q2⟩ := R.sl j t e2
    refine ⟨u, q1, ?_⟩
    cases t with
    | fz d => exact q2
    | ow xs =>
      obtain ⟨b, rfl, ws, h1, h2, h3, h4⟩ := q2
      have hb : b ≠ a := fun z => by subst z; rw [upd_same] at h4; cases h4
      exact ⟨b, rfl, ws, by rw [upd_ne hb]; exact h1, h2, h3, by rw [upd_ne hb] at h4 ⊢; exact h4⟩
    | io xs =>
      obtain ⟨b, rfl, ws, h1, h2, h3, h4⟩ := q2
      have hb : b ≠ a := fun z => by subst z; rw [upd_same] at h4; cases h4
      exact ⟨b, rfl, ws, by rw [upd_ne hb]; exact h1, h2, h3, by rw [upd_ne hb] at h4 ⊢; exact h4⟩
    | lk xs =>
      obtain ⟨b, ws, rfl, h1, h2, h3⟩ := q2
      have hb : b ≠ a := fun z => by subst z; exact lk_ne R hap e2 q1 rfl
      exact ⟨b, ws, rfl, by rw [upd_ne hb] at h1 ⊢; exact h1, h2, h3⟩
    | scr ns => exact q2
  ap := R.ap
  pn := R.pn
  len := R.len
  lkp := R.lkp
theorem Rep.unshield {a : Addr} {vs : List V} (R : Rep K (upd G a (.lst vs)) pn Γ σ F H) (hG : G a = none) (hap : ∀ p ∈ pn, p.2 ≠ a) : Rep K G pn Γ σ F H where
  fh := R.fh
  gh := same_sub R.gh hG
  sl := fun j t e2 => by
    obtain ⟨u, q1, q2⟩ := R.sl j t e2
    refine ⟨u, q1, ?_⟩
    cases t with
    | fz d => exact q2
    | ow xs =>
      obtain ⟨b, rfl, ws, h1, h2, h3, h4⟩ := q2
      have hb : b ≠ a := fun z => by subst z; rw [upd_same] at h4; cases h4
      exact ⟨b, rfl, ws, h1, h2, h3, by rw [upd_ne hb] at h4; exact h4⟩
    | io xs =>
      obtain ⟨b, rfl, ws, h1, h2, h3, h4⟩ := q2
      have hb : b ≠ a := fun z => by subst z; rw [upd_same] at h4; cases h4
      exact ⟨b, rfl, ws, h1, h2, h3, by rw [upd_ne hb] at h4; exact h4⟩
    | lk xs =>
      obtain ⟨b, ws, rfl, h1, h2, h3⟩ := q2
      have hb : b ≠ a := fun z => by subst z; exact lk_ne R hap e2 q1 rfl
      exact ⟨b, ws, rfl, by rw [upd_ne hb] at h1; exact h1, h2, h3⟩
    | scr ns => exact q2
  ap := R.ap
  pn := R.pn
  len := R.len
  lkp := R.lkp
end
section
variable {X : Cx} {E : WX} {fi : FnI} {vs : List Nat} {g : FnG} {t : FnT} {f : FnE}
theorem Adv.weaken' {G F F' : Hp} {a : Addr} {us : List V} (h : Adv (upd G a (.lst us)) F F') (hG : G a = none) : Adv G F F' := h.weaken hG
/-- a turn of the loop, once the items are known -/
theorem lc_loop {K : Frag} {mg : Str → Option Value} {J : It} {xs : List D} {G2 F H : Hp} {pn : List (Nat × Addr)} {Γ : Ga} {σ : St} {D0 : Addr} {Qd : Hp → Prop} {out : List D × Ga}
    (w : WalkD K J xs G2 F) (R : Rep K G2 pn Γ (L2.wipe σ vs) F H) (hD : H D0 = none) (hpn : ∀ p ∈ pn, p.2 ≠ D0)
    (hpv : ∀ p ∈ pn, p.1 ∉ vs) (h : lcF vs g t f xs [] Γ = .ok out)
    (fin : ∀ us F' H', Adv G2 F F' → Rep K (upd G2 D0 (.lst us)) pn out.2 (L2.wipe σ vs) F' H' → H' D0 = some (.lst us) → RpAll K F' us out.1 → F' D0 = none → Qd H') :
    ∃ W : Nat → Nat → Hp → Prop, (∃ m, W 0 m (upd H D0 (.lst []))) ∧ ∀ i m H, W i m H →
      (J.stop i H ∧ Qd H) ∨ (J.go i H ∧ ∃ Nx : Hp → Prop, (∀ H', Nx H' → ∃ m', m' < m ∧ W (i + 1) m' H') ∧ ∀ x H', J.yld i H x H' → tGv K vs g x (L2.wipe σ vs) H' fun σ2 H2 => L2.wipe σ2 vs = L2.wipe σ vs ∧ tT K mg EN t σ2 H2 fun b H3 =>
        if b = true then tE K mg EN f σ2 H3 fun y H4 => ∃ acc, H4 D0 = some (.lst acc) ∧ acc.length < sizeLine ∧ Nx (upd H4 D0 (.lst (acc ++ [y]))) else Nx H3) := by
  obtain ⟨Y, wk, yl⟩ := w
  have hG : G2 D0 = none := R.gh.free hD
  refine lc_it wk (fun i H' => ∃ F' Γ' us acc, Adv G2 F F' ∧ Rep K (upd G2 D0 (.lst us)) pn Γ' (L2.wipe σ vs) F' H' ∧ H' D0 = some (.lst us) ∧ RpAll K F' us acc ∧ F' D0 = none ∧ lcF vs g t f (xs.drop i) acc Γ' = .ok out)
    ⟨F, Γ, [], [], Adv.refl G2 F, (R.new hD).shield upd_same hG (fun j sj e o q => ?_), upd_same, .nil, R.fh.free hD, h⟩ ?_ ?_ ?_
  · obtain ⟨v, q1, q2⟩ := R.sl j sj e
    obtain ⟨a, ws, rfl, q3, _⟩ := q2.there R.gh o
    rw [q] at q1
    cases q1
    rw [hD] at q3; cases q3
  · rintro i H' _ ⟨F', Γ', us, acc, A, R', h1, h2, h3, _⟩
    exact ⟨same_sub R'.gh hG, fun x o e => R'.fh x o (A.same x o e)⟩
  · rintro i v H1 H2 hi ⟨F', Γ', us, acc, A, R', h1, h2, h3, p⟩ y
    have e : xs[i]? = some xs[i] := List.getElem?_eq_getElem hi
    obtain ⟨F2, A2, rp, nw⟩ := yl i H1 v H2 F' (upd G2 D0 (.lst us)) xs[i] A.same R'.fh R'.gh (same_sub R'.gh hG) y e
    have R2 : Rep K (upd G2 D0 (.lst us)) pn Γ' (L2.wipe σ vs) F2 H2 ∧ H2 D0 = some (.lst us) := by
      rcases nw with ⟨e1, e2⟩ | ⟨p, o, hp, e1, e2⟩
      · rw [e1, e2]; exact ⟨R', h1⟩
      · rw [e1, e2]; exact ⟨R'.newF hp, by rw [upd_ne (ne_of_none h1 hp)]; exact h1⟩
    obtain ⟨R2, h12⟩ := R2
    have out' : ∀ {F3 : Hp}, Adv (upd G2 D0 (.lst us)) F' F3 → F3 D0 = none := fun {F3} a => by
      rw [a.out D0 (by rw [upd_same]; intro z; cases z)]; exact h3
    rw [List.drop_eq_getElem_cons hi] at p
    unfold lcF at p
    refine ⟨upd G2 D0 (.lst us), pn, F2, Γ', .d xs[i], R2, rp, ?_⟩
    cases q : g (.d xs[i]) Γ' with
    | none => simp only [q] at p; cases p
    | some Γ1 =>
      simp only [q] at p
      intro σ3 F3 H3 A3 R3 l3 w3
      have w3' : L2.wipe σ3 vs = L2.wipe σ vs := w3.trans wipe_wipe
      refine ⟨w3', upd G2 D0 (.lst us), pn, F3, Γ1, R3, ?_⟩
      have A13 : Adv (upd G2 D0 (.lst us)) F' F3 := A2.trans A3
      have vo : ∀ {Γx : Ga} {Fx Hx : Hp}, Rep K (upd G2 D0 (.lst us)) pn Γx σ3 Fx Hx → Rep K (upd G2 D0 (.lst us)) pn (wipeG Γx vs) (L2.wipe σ vs) Fx Hx := fun {Γx Fx Hx} Rx => (Rx.wipe hpv).cast w3'
      cases q2 : t Γ1 with
      | bad => rw [q2] at p; cases p
      | exc x => rw [q2] at p; cases p
      | ok p2 =>
        obtain ⟨c, Γ2⟩ := p2
        rw [q2] at p
        simp only [Rs.bind_ok] at p
        intro F4 H4 A4 R4
        have h14 : H4 D0 = some (.lst us) := R4.gh _ _ upd_same
        cases c with
        | false =>
          rw [if_neg Bool.false_ne_true] at p ⊢
          exact ⟨F4, wipeG Γ2 vs, us, acc, A.trans ((A13.trans A4).weaken hG), vo R4, h14, RpAll.mono (A13.trans A4).same h2, out' (A13.trans A4), p⟩
        | true =>
          rw [if_pos rfl] at p ⊢
          refine ⟨upd G2 D0 (.lst us), pn, F4, Γ2, R4, ?_⟩
          cases q3 : f Γ2 with
          | bad => rw [q3] at p; cases p
          | exc x => rw [q3] at p; cases p
          | ok p3 =>
            obtain ⟨rv, Γ3⟩ := p3
            rw [q3] at p
            simp only [Rs.bind_ok] at p
            intro y F5 H5 A5 R5 r5
            cases q4 : rvFz Γ3 rv with
            | none => simp only [q4] at p; cases p
            | some p4 =>
              obtain ⟨d, Γ4⟩ := p4
              simp only [q4] at p
              split at p
              · rename_i hz
                obtain ⟨F6, A6, R6, rp6⟩ := rvFz_any R5 r5 q4
                have A16 := ((A13.trans A4).trans A5).trans A6
                have h16 : H5 D0 = some (.lst us) := R6.gh _ _ upd_same
                have R7 : Rep K (upd G2 D0 (.lst (us ++ [y]))) pn (wipeG Γ4 vs) (L2.wipe σ vs) F6 (upd H5 D0 (.lst (us ++ [y]))) := (vo R6).reshield hG (out' A16) hpn
                refine ⟨us, h16, by rw [lim_eq, h2.len]; exact hz, F6, wipeG Γ4 vs, us ++ [y], acc ++ [d], A.trans (A16.weaken hG), R7, upd_same, ?_, out' A16, p⟩
                exact (RpAll.mono A16.same h2).app (.one rp6)
              · cases p
  · rintro H' ⟨F', Γ', us, acc, A, R', h1, h2, h3, p⟩
    rw [List.drop_length] at p
    unfold lcF at p
    cases p
    exact fin us F' H' A R' h1 h2 h3
theorem shut_eq {Γ : Ga} {i : Nat} {ys : List D} (e : Γ[i]? = some (some (.ow ys))) : shut i Γ = Γ.set i (some (.lk ys)) := by
  unfold shut
  rw [e]
theorem key_lc {K : Frag} {mg : Str → Option Value} : ∀ σ H Q, tE K mg E (eLc fi vs g t f) σ H Q → tLc (tI K mg E fi) (tGv K vs g) (tT K mg EN t) (tE K mg EN f) vs σ H Q := fun σ H Q ⟨G, pn, F, Γ, R, h⟩ => by
  refine ⟨G, pn, F, Γ, R, ?_⟩
  unfold eLc at h
  cases q : fi Γ with
  | bad => rw [q] at h; exact h
  | exc x => rw [q] at h; exact h
  | ok p =>
    obtain ⟨xs, lk, Γ1⟩ := p
    rw [q] at h
    intro J F1 H1 G2 A1 R1 lkr wd D0 hD
    simp only [Rs.bind_ok] at h
    have pinsD : ∀ p ∈ pn, p.2 ≠ D0 := fun p hp z => by
      obtain ⟨q1, s, q2, q3⟩ := R1.pn p hp
      obtain ⟨v, q4, q5⟩ := R1.sl _ _ q2
      obtain ⟨a, ws, rfl, q6, _⟩ := q5.there R1.gh (pinned_owned q3)
      rw [q1] at q4
      cases q4
      rw [z, hD] at q6; cases q6
    have plain : ∀ {Γx : Ga} {Gx Fx Hx : Hp} {pnx : List (Nat × Addr)}, Rep K Gx pnx Γx σ Fx Hx → vs.all (plainAt Γx) = true → ∀ p ∈ pnx, p.1 ∉ vs := fun {Γx Gx Fx Hx pnx} Rx hx p hp hv => by
      obtain ⟨_, s, q2, q3⟩ := Rx.pn p hp
      have np := List.all_eq_true.mp hx p.1 hv
      unfold plainAt at np
      rw [q2] at np
      simp [pinned_owned q3] at np
    cases lk with
    | none =>
      cases lkr
      simp only at h
      split at h
      · rename_i hx
        cases q2 : lcF vs g t f xs [] (wipeG Γ1 vs) with
        | bad => simp only [q2] at h; exact h.elim
        | exc x => simp only [q2] at h; exact h.elim
        | ok out =>
          obtain ⟨ys, Γ2⟩ := out
          simp only [q2] at h
          have hv := plain R1 hx
          refine lc_loop wd (R1.wipe hv) hD pinsD hv q2 fun us F' H' A R' h1 h2 h3 => ?_
          have hG : G D0 = none := R1.gh.free hD
          have R3 := R1.mend (R'.unshield hG pinsD) A.same fun v hv => List.all_eq_true.mp hx v hv
          refine h (.ref D0) F' H' (A1.trans A) R3 ⟨D0, rfl, ⟨us, h1, h2, h3, hG⟩, fun j sj e o z => ?_⟩
          have R4 := R1.mend R' A.same fun v hv => List.all_eq_true.mp hx v hv
          obtain ⟨v, q4, q5⟩ := R4.sl j sj e
          rw [z] at q4
          cases q4
          cases sj with
          | fz d => cases o
          | scr ns => cases o
          | ow zs => obtain ⟨b, eb, ws, k1, k2, k3, k4⟩ := q5; cases eb; rw [upd_same] at k4; cases k4
          | io zs => obtain ⟨b, eb, ws, k1, k2, k3, k4⟩ := q5; cases eb; rw [upd_same] at k4; cases k4
          | lk zs => exact lk_ne R4 pinsD e z rfl
      · exact h.elim
    | some i =>
      obtain ⟨a, us0, ys0, rfl, e1, e2, e3, e4, e5, e6⟩ := lkr
      simp only at h
      rw [shut_eq e1] at h
      split at h
      · rename_i hx
        have RL := R1.lock e1 e2 e3 e4 e5 e6
        cases q2 : lcF vs g t f xs [] (wipeG (Γ1.set i (some (.lk ys0))) vs) with
        | bad => simp only [q2] at h; exact h.elim
        | exc x => simp only [q2] at h; exact h.elim
        | ok out =>
          obtain ⟨ys, Γ2⟩ := out
          simp only [q2] at h
          cases q3 : unlk i (mend (Γ1.set i (some (.lk ys0))) Γ2 vs) with
          | none => simp only [q3] at h; exact h.elim
          | some Γ3 =>
            simp only [q3] at h
            have hv := plain RL hx
            have pinsD' : ∀ p ∈ ((i, a) :: pn), p.2 ≠ D0 := fun p hp => by
              rcases List.mem_cons.mp hp with z | z
              · rw [z]; exact ne_of_none e3 hD
              · exact pinsD p z
            refine lc_loop wd (RL.wipe hv) hD pinsD' hv q2 fun us F' H' A R' h1 h2 h3 => ?_
            have hG : (upd G a (.lst us0)) D0 = none := RL.gh.free hD
            have hG0 : G D0 = none := R1.gh.free hD
            have R3 := RL.mend (R'.unshield hG pinsD') A.same fun v hv => List.all_eq_true.mp hx v hv
            have R5 := R3.unlock (pinned_ne R1 e1) e6 q3
            refine h (.ref D0) F' H' (A1.trans (A.weaken e6)) R5 ⟨D0, rfl, ⟨us, h1, h2, h3, hG0⟩, fun j sj e o z => ?_⟩
            have R4 := RL.mend R' A.same fun v hv => List.all_eq_true.mp hx v hv
            -- the slot as it was ahead of the unlocking
            have pre : ∃ sj', (mend (Γ1.set i (some (.lk ys0))) Γ2 vs)[j]? = some (some sj') ∧ sj'.owned = true := by
              unfold unlk at q3
              split at q3
              · rename_i zs qz
                cases q3
                rcases get_set e with ⟨z1, z2, hl⟩ | ⟨z1, z2⟩
                · subst z1; exact ⟨_, qz, rfl⟩
                · exact ⟨sj, z2, o⟩
              · cases q3
            obtain ⟨sj', e', o'⟩ := pre
            obtain ⟨v, q4, q5⟩ := R4.sl j sj' e'
            rw [z] at q4
            cases q4
            cases sj' with
            | fz d => cases o'
            | scr ns => cases o'
            | ow zs => obtain ⟨b, eb, ws, k1, k2, k3, k4⟩ := q5; cases eb; rw [upd_same] at k4; cases k4
            | io zs => obtain ⟨b, eb, ws, k1, k2, k3, k4⟩ := q5; cases eb; rw [upd_same] at k4; cases k4
            | lk zs => exact lk_ne R4 pinsD' e' z rfl
      · exact h.elim
variable {elt tg iter : Expr} {ifs : List Expr} {scope : Scope} {own : List (Str × Nat)} {pos : Pos}
theorem fe_lc (hc : X.calm = true) (hN : X.N.Nodup) (hi : FI X E tg iter fi) (ok : BlkOk X.N X.env.scope scope own) (ev : own.map (·.2) = vs)
    (hg : ∀ (s : Shared) (H : Hp) (C : Addr) (cl : List (Str × Addr)) (fp : List Addr), FGv (X.blk s H scope (compEnvC scope cl C X.env) fp) vs tg g)
    (ht : ∀ (s : Shared) (H : Hp) (C : Addr) (cl : List (Str × Addr)) (fp : List Addr), FTs (X.blk s H scope (compEnvC scope cl C X.env) fp) EN ifs t)
    (he : ∀ (s : Shared) (H : Hp) (C : Addr) (cl : List (Str × Addr)) (fp : List Addr), FE (X.blk s H scope (compEnvC scope cl C X.env) fp) EN elt f) (hs : ∀ x, foldedSetIterable iter X.env x = pure x := by intro _; rfl) :
    FE X E (.ListComp elt [⟨tg, iter, ifs, 0⟩] scope pos) (eLc fi vs g t f) := by
  subst ev
  exact pe_imp (pe_lc hc hN hi ok hg ht he hs) key_lc
theorem tLc_mono {wi : TI} {gg : TG} {tt : TT} {te : TE} {vs : List Nat} (hw : ∀ σ H R R', (∀ J H', R J H' → R' J H') → wi σ H R → wi σ H R') : ∀ σ H Q Q', (∀ v H', Q v H' → Q' v H') → tLc wi gg tt te vs σ H Q → tLc wi gg tt te vs σ H Q' := fun σ H Q Q' k h =>
  hw σ H _ _ (fun J H' q D0 hD => by
    obtain ⟨W, h0, step⟩ := q D0 hD
    refine ⟨W, h0, fun i m H1 hW => ?_⟩
    rcases step i m H1 hW with ⟨h1, h2⟩ | h1
    · exact .inl ⟨h1, k _ _ h2⟩
    · exact .inr h1) h
theorem tI_mono {K : Frag} {mg : Str → Option Value} : ∀ σ H Rk Rk', (∀ J H', Rk J H' → Rk' J H') → tI K mg E fi σ H Rk → tI K mg E fi σ H Rk' := fun σ H Rk Rk' k ⟨G, pn, F, Γ, R, h⟩ => by
  refine ⟨G, pn, F, Γ, R, ?_⟩
  cases q : fi Γ with
  | bad => rw [q] at h; exact h
  | exc x => rw [q] at h; exact h
  | ok p => rw [q] at h; exact fun J F' H' G2 A R' l w => k _ _ (h J F' H' G2 A R' l w)
theorem fs_setLc {i : Nat} {y : Str} {py spos : Pos} (hc : X.calm = true) (hN : X.N.Nodup) (hy : X.N[i]? = some y) (hyl : X.env.scope.names.lookup y = some .local)
    (hsw : swapsWith (.ListComp elt [⟨tg, iter, ifs, 0⟩] scope pos) (some (.Name y py)) spos.line X.env = pure true) (hi : FI X E tg iter fi) (ok : BlkOk X.N X.env.scope scope own) (ev : own.map (·.2) = vs)
    (hg : ∀ (s : Shared) (H : Hp) (C : Addr) (cl : List (Str × Addr)) (fp : List Addr), FGv (X.blk s H scope (compEnvC scope cl C X.env) fp) vs tg g)
    (ht : ∀ (s : Shared) (H : Hp) (C : Addr) (cl : List (Str × Addr)) (fp : List Addr), FTs (X.blk s H scope (compEnvC scope cl C X.env) fp) EN ifs t)
    (he : ∀ (s : Shared) (H : Hp) (C : Addr) (cl : List (Str × Addr)) (fp : List Addr), FE (X.blk s H scope (compEnvC scope cl C X.env) fp) EN elt f) (hs : ∀ x, foldedSetIterable iter X.env x = pure x := by intro _; rfl) :
    FS X E (.Assign [.Name y py] (.ListComp elt [⟨tg, iter, ifs, 0⟩] scope pos) spos) (sAsg (eLc fi vs g t f) (gN i)) := by
  subst ev
  refine ps_imp (ps_setLc hc hN hy hyl hsw hi ok hg ht he hs) (key_asg key_lc (fun v σ H Q ⟨G, pn, F, Γ, rv, R, rr, q⟩ => ?_) (tLc_mono tI_mono))
  cases e1 : gN i rv Γ with
  | none => simp only [e1] at q
  | some Γ' =>
    simp only [e1] at q
    obtain ⟨F', A, R'⟩ := gN_ok R rr e1
    exact q _ F' H A R' (by simp)
end
end FL

/-! FK: what a def is worth as a function on data; its call. -/
namespace FL
open PySem PySem.Spec L2
open PyProof.Rows (envOfC)

inductive FR where
  | ok (d : D) (outs : Ga) | exc (e : Exc) | bad
abbrev FnR := List Sl → FR
def runBody (n : Nat) (f : FnS) : FnR := fun args => match f (args.map some ++ List.replicate (n - args.length) none) with
  | .ret d Γ => .ok d Γ
  | .nx Γ => .ok .none Γ
  | .exc e => .exc e
  | _ => .bad
def PostC (K : Frag) (mg : Str → Option Value) (Ex : XK) (G : Hp) (pn : List (Nat × Addr)) (F : Hp) (Q : VK) : FR → Prop
  | .ok d outs => ∀ v F' H', Adv G F F' → Same F' H' → Same G H' → Rp K F' v d → (∀ p ∈ pn, ∃ xs, outs[p.1]? = some (some (.io xs)) ∧ Own K G F' H' p.2 xs) → Q v H'
  | .exc e => ∀ c d F' H', Adv G F F' → Same F' H' → Same G H' → ExR mg K F' H' e c d → Ex c d H'
  | .bad => False
def spF (K : Frag) (mg : Str → Option Value) (run : FnR) (np : Nat) : Sp := fun vs H Q Ex => vs.length = np ∧ ∃ G pn F args, Rep K G pn (args.map some) (vs.map some) F H ∧ (∀ p ∈ pn, G p.2 = none) ∧ PostC K mg Ex G pn F Q (run args)
/-- the def at f is worth run -/
structure Kp (P : Program) (w : World) (K : Frag) (mg : Str → Option Value) (base : Heap) (k : Nat) (f : Addr) (fd : FuncData) (ps : List Str) (run : FnR) : Prop where
  go : ∀ (A : Around) (outer : List Env) (s : Shared) (H : Hp) (args : Args) (us : List Value) (vs : List V) (Q : VK) (Ex : XK), Room k A → A.guards = some [] → Env0 P w K mg base A outer s H → BindsTo s fd args (ps.zip us) → Vals vs us →
    spF K mg run ps.length vs H Q Ex → codeAny (model P w) A (.call (.ref f) args) (CR (L2.CX P w) outer P w H s Q Ex) s
theorem Kp.up {P : Program} {w : World} {K : Frag} {mg : Str → Option Value} {base : Heap} {j k : Nat} {f : Addr} {fd : FuncData} {ps : List Str} {run : FnR} (h : Kp P w K mg base j f fd ps run) (l : j ≤ k) : Kp P w K mg base k f fd ps run :=
  ⟨fun A outer s H args us vs Q Ex hr => h.go A outer s H args us vs Q Ex (hr.mono l)⟩

theorem rep_more {K : Frag} {G : Hp} {pn : List (Nat × Addr)} {as : List Sl} {vs : List V} {F H : Hp} (m : Nat) (R : Rep K G pn (as.map some) (vs.map some) F H) :
    Rep K G pn (as.map some ++ List.replicate m none) (vs.map some ++ List.replicate m none) F H := by
  have hl : as.length = vs.length := by simpa using R.len
  have left : ∀ {i : Nat} {s : Sl}, (as.map some ++ List.replicate m none)[i]? = some (some s) → i < as.length ∧ (as.map some)[i]? = some (some s) := fun {i s} e => by
    by_cases h : i < as.length
    · exact ⟨h, by rw [List.getElem?_append_left (by simpa using h)] at e; exact e⟩
    · rw [List.getElem?_append_right (by simpa using h), List.getElem?_replicate] at e
      split at e <;> cases e
  have right : ∀ {i : Nat}, i < as.length → (vs.map some ++ List.replicate m none)[i]? = (vs.map some)[i]? := fun {i} h => List.getElem?_append_left (by rw [List.length_map, ← hl]; exact h)
  exact {
    fh := R.fh
    gh := R.gh
    sl := fun i s e => by
      obtain ⟨h, e⟩ := left e
      obtain ⟨v, e1, e2⟩ := R.sl i s e
      exact ⟨v, by rw [right h]; exact e1, e2⟩
    ap := fun i j si sj a e1 e2 o1 o2 q1 q2 => by
      obtain ⟨h1, e1⟩ := left e1
      obtain ⟨h2, e2⟩ := left e2
      rw [right h1] at q1
      rw [right h2] at q2
      exact R.ap i j si sj a e1 e2 o1 o2 q1 q2
    lkp := fun i zs e => by
      obtain ⟨h, e⟩ := left e
      exact R.lkp i zs e
    pn := fun p hp => by
      obtain ⟨q1, s, q2, q3⟩ := R.pn p hp
      have h : p.1 < as.length := by
        rcases Nat.lt_or_ge p.1 as.length with h | h
        · exact h
        · rw [List.getElem?_eq_none (by simpa using h)] at q2; cases q2
      exact ⟨by rw [right h]; exact q1, s, by rw [List.getElem?_append_left (by simpa using h)]; exact q2, q3⟩
    len := by simp [hl] }

/-- a def of the text is worth what its body reads as -/
theorem kp_of {P : Program} {w : World} {K : Frag} {mg : Str → Option Value} {base : Heap} {x qual : Str} {st : Stmt} {f : Addr} {fd : FuncData} {N ps : List Str} {k : Nat} {fb : FnS} (D0 : Fun K x qual st f fd) (S : FnScope N ps (defScope st))
    (body : ∀ (cdv : Value) (A : Around) (outer : List Env) (s : Shared) (H : Hp) (Ex : XK), Room k (A.deeper (envOfC qual (defScope st) s.heap.objs.size f cdv)) → A.guards = some [] →
      FSs (cxOf (L2.CX P w) P w K mg base N qual (defScope st) f cdv A outer s H Ex) (fun c d _ H => Ex c d H) (defBody st) fb) : Kp P w K mg base (k + 1) f fd ps (runBody N.length fb) := by
  obtain ⟨_, _, kV, doc, pm, an, cdv, ct, _, rfl, found, code⟩ := D0.ex
  refine ⟨fun A outer s H args us vs Q Ex room gd env0 bound rel want => ?_⟩
  obtain ⟨np, G, pn, F, as, R, free, post⟩ := want
  have inK : K.In s.heap := env0.mod.kin.keeps fun b o e => (env0.bs b o e).1
  have nolim : s.heap.NoLimit := env0.mod.nolimit.keeps fun b o e => (env0.bs b o e).1
  have names : ∀ y ∈ ps.zip us, (defScope st).names.lookup y.1 = some .local ∨ ((defScope st).names.lookup y.1 = some .cell ∧ ((cellsFrom (s.heap.objs.size + 1) (defScope st).names []).lookup y.1).isSome = true) := by
    rintro ⟨n, v⟩ hy
    rcases S.par n (List.of_mem_zip hy).1 with q | q
    · exact .inl q
    · exact .inr ⟨q, PySem.W.cellsFrom_some _ _ _ (.inl q)⟩
  refine codeAny_call_function room.depth (inK _ _ found) rfl S.co S.gen rfl (PySem.W.codeRec_of inK code) (bound _ _ _ _ ?_)
  refine wpAny_newFunctionEnv_cells S.kind names fun env eenv s1 inCall => ?_
  subst eenv
  refine ⟨nolim.keeps inCall.toInCall.keep, codeAny_func ?_⟩
  have hl : as.length = vs.length := by simpa using R.len
  have inv := inv_start (CX := L2.CX P w) (E := Ex) S room.hd env0 np rel inCall
  have start_eq : L2.start N vs = vs.map some ++ List.replicate (N.length - as.length) none := by unfold L2.start; rw [hl]
  have ready : tS K mg (fun c d _ H => Ex c d H) fb { nx := fun _ H' => Q .non H', rt := Q } (L2.start N vs) H := by
    rw [start_eq]
    refine ⟨G, pn, F, as.map some ++ List.replicate (N.length - as.length) none, rep_more _ R, ?_⟩
    unfold runBody at post
    have out : ∀ {Γ' : Ga} {σ' : St} {F' H' : Hp}, Rep K G pn Γ' σ' F' H' → ∀ p ∈ pn, ∃ xs, Γ'[p.1]? = some (some (.io xs)) ∧ Own K G F' H' p.2 xs := fun {Γ' σ' F' H'} R' p hp => by
      obtain ⟨q1, t, q2, q3⟩ := R'.pn p hp
      obtain ⟨v, q4, q5⟩ := R'.sl _ _ q2
      rw [q1] at q4
      cases q4
      cases t with
      | io xs => obtain ⟨a, ea, o⟩ := q5; cases ea; exact ⟨xs, q2, o⟩
      | lk xs =>
        obtain ⟨a, ws, ea, o, _⟩ := q5
        cases ea
        rw [free p hp] at o; cases o
      | _ => cases q3
    cases q : fb (as.map some ++ List.replicate (N.length - as.length) none) with
    | nx Γ' => simp only [q] at post; exact fun σ' F' H' A' R' _ => post .non F' H' A' R'.fh R'.gh .non (out R')
    | ret d Γ' => simp only [q] at post; exact fun v σ' F' H' A' R' rp => post v F' H' A' R'.fh R'.gh rp (out R')
    | exc e => simp only [q] at post; exact fun c d σ' F' H' _ A' s1 s2 xr => post c d F' H' A' s1 s2 xr
    | bk Γ' => simp only [q] at post; exact post.elim
    | ct Γ' => simp only [q] at post; exact post.elim
    | bad => simp only [q] at post; exact post.elim
  refine wpAny_mono ((body cdv A outer s H Ex (room.deeper _) gd).run [] s1 (L2.start N vs) H _ inv ready) (fun flow s2 ends => ?_) fun e s2 ends => ends
  have over : ∀ {σ' : St} {H' : Hp} {v : V} {u : Value}, Inv (cxOf (L2.CX P w) P w K mg base N qual (defScope st) f cdv A outer s H Ex) [] σ' H' s2 → RelV v u → Q v H' → CE outer P w H s Q u s2 :=
    fun {σ' H' v u} J r q => ⟨v, H', J.os, J.bare, J.base, J.hok, r, q⟩
  cases flow with
  | next => obtain ⟨_, _, J, q⟩ := ends; exact over (v := V.non) (u := Value.none) J rfl q
  | ret u => obtain ⟨_, _, _, J, r, q⟩ := ends; exact over J r q
  | brk => obtain ⟨_, _, _, z⟩ := ends; exact z.elim
  | cont => obtain ⟨_, _, _, z⟩ := ends; exact z.elim

/-! ### the call -/
/-- the context of code that calls: room, nothing handled, nothing being shown -/
structure Cok (X : Cx) (E : WX) (k : Nat) : Prop where
  calm : X.calm = true
  room : Room k X.A
  gd : X.A.guards = some []
  pass : ∀ σ, PassesAt (L2.CX X.prog X.w) X σ (fun c d H => E c d σ H)
section
variable {X : Cx} {E : WX} {k : Nat} {f : Addr} {fd : FuncData} {ps : List Str} {run : FnR}
theorem kp_run {pins : List (Addr × Obj)} {σ : St} {H : Hp} {s : Shared} {Q : VK} {us : List Value} {vs : List V} (F : Kp X.prog X.w X.K X.mg X.base k f fd ps run) (c : Cok X E k) (hb : Binds X.K fd ps [])
    (I : Inv X pins σ H s) (r : Vals vs us) (h : spF X.K X.mg run ps.length vs H Q (fun c d H => E c d σ H)) : wpAny (model X.prog X.w) X.A (call (.ref f) us) (EP X pins σ Q) X.xe s := by
  have bound := hb s us I.kIn (by rw [List.append_nil, ← r.length]; exact h.1)
  rw [List.append_nil] at bound
  refine wpAny_call (codeAny_mono (F.go X.A X.stack s H ⟨us, []⟩ us vs Q _ c.room c.gd I.env0 bound r h) fun res s2 out => ?_)
  rcases res with e | fl
  · exact c.pass σ pins H s _ s2 I out
  · cases fl <;> first | exact I.after out | exact False.elim out
def tCallK (K : Frag) (mg : Str → Option Value) (E : WX) (run : FnR) (np : Nat) (t : TA) : TE := fun σ H Q => t σ H fun vs H1 => spF K mg run np vs H1 Q (fun c d H => E c d σ H)
theorem pe_callF {x : Str} {p pos : Pos} {e : Expr} {es : List Expr} {t : TA} (F : Kp X.prog X.w X.K X.mg X.base k f fd ps run) (c : Cok X E k) (hg : Gl X x) (hm : X.mg x = some (.ref f)) (hk : PySem.W.keepIn X.K (.ref f) = true) (hb : Binds X.K fd ps [])
    (ha : PA X (e :: es) t) (hdb : (x == ("__debug__" : Str)) = false := by decide) (he : starEach (e :: es) X.env = (false, eval e X.env) :: starEach es X.env := by rfl) (hpl : (backTo pos (starEach es X.env)).any (·.1) = false := by rfl) :
    PE X (.Call (.Name x p) (e :: es) [] pos) (tCallK X.K X.mg E run ps.length t) := by
  refine ⟨fun pins s σ H Q I want => wpAny_Call_Name_kw (ld_glob I hg hm ?_ hdb)⟩
  refine PySem.W.callWith_K (h₀ := X.base) I.ok.mod.kin hk (thn (ha.run pos pins s σ H _ I want) ?_) he hpl
  rintro us s2 ⟨vs, H2, I2, r, q⟩
  exact ⟨I2.kIn, kp_run F c hb I2 r q⟩
end

/-! ### what is handed over -/
mutual
/-- no list, no dict within -/
def noL : D → Bool
  | .list _ => false
  | .dict _ => false
  | .tuple xs => noLs xs
  | _ => true
def noLs : List D → Bool
  | [] => true
  | x :: xs => noL x && noLs xs
end
section
variable {K : Frag} {F F' : Hp}
mutual
theorem Rp.flat (e : ∀ a vs, SqT K F a vs → SqT K F' a vs) : ∀ {d : D} {v : V}, Rp K F v d → noL d = true → Rp K F' v d
  | .none, _, h, _ => by cases h; exact .non
  | .bool b, _, h, _ => by cases h; exact .bl b
  | .int i, _, h, _ => by cases h; exact .int i
  | .str x, _, h, _ => by cases h; exact .str x
  | .list ds, _, h, n => by unfold noL at n; cases n
  | .tuple ds, _, h, n => by
    cases h with
    | tup h1 h2 =>
      unfold noL at n
      exact .tup (e _ _ h1) (RpAll.flat e h2 n)
  | .dict _, _, h, n => by cases h
theorem RpAll.flat (e : ∀ a vs, SqT K F a vs → SqT K F' a vs) : ∀ {ds : List D} {vs : List V}, RpAll K F vs ds → noLs ds = true → RpAll K F' vs ds
  | [], _, h, _ => by cases h; exact .nil
  | d :: ds, _, h, n => by
    cases h with
    | cons h1 h2 =>
      unfold noLs at n
      rw [Bool.and_eq_true] at n
      exact .cons (Rp.flat e h1 n.1) (RpAll.flat e h2 n.2)
end
end
def argSl (Γ : Ga) : RV → Option Sl
  | .d x => some (.fz x)
  | .ow _ => none
  | .sl i => match Γ[i]? with
    | some (some (.ow xs)) => some (.fz (.list xs))
    | some (some (.io xs)) => some (.fz (.list xs))
    | some (some (.lk xs)) => some (.fz (.list xs))
    | some (some (.scr ns)) => some (.scr ns)
    | some (some (.fz d)) => some (.fz d)
    | _ => none
def argIo (Γ : Ga) : RV → Option Sl
  | .sl i => match Γ[i]? with
    | some (some (.ow xs)) => some (.io xs)
    | some (some (.io xs)) => some (.io xs)
    | _ => none
  | _ => none
def mkArgs (Γ : Ga) : List RV → Option Nat → Option (List Sl)
  | [], _ => some []
  | r :: rs, some 0 => (argIo Γ r).bind fun s => (mkArgs Γ rs none).map (s :: ·)
  | r :: rs, some (n + 1) => (argSl Γ r).bind fun s => (mkArgs Γ rs (some n)).map (s :: ·)
  | r :: rs, none => (argSl Γ r).bind fun s => (mkArgs Γ rs none).map (s :: ·)
inductive AR (K : Frag) (G F H : Hp) (Γ : Ga) (σ : St) : Bool → RV → V → Sl → Prop
  | d {x : D} {v : V} : Rp K F v x → AR K G F H Γ σ false (.d x) v (.fz x)
  | fz {i : Nat} {x : D} {v : V} : Γ[i]? = some (some (.fz x)) → Rp K F v x → AR K G F H Γ σ false (.sl i) v (.fz x)
  | bor {i : Nat} {s : Sl} {a : Addr} {ws : List V} {xs : List D} : Γ[i]? = some (some s) → s.owned = true → σ[i]? = some (some (.ref a)) → H a = some (.lst ws) → RpAll K F ws xs → F a = none → s.data = .list xs → AR K G F H Γ σ false (.sl i) (.ref a) (.fz (.list xs))
  | scr {i : Nat} {a : Addr} {ns : List Int} : Γ[i]? = some (some (.scr ns)) → SqS K F a (ns.map V.int) → AR K G F H Γ σ false (.sl i) (.ref a) (.scr ns)
  | io {i : Nat} {s : Sl} {a : Addr} {ws : List V} {xs : List D} : Γ[i]? = some (some s) → (s = .ow xs ∨ s = .io xs) → σ[i]? = some (some (.ref a)) → H a = some (.lst ws) → RpAll K F ws xs → F a = none → G a = none → AR K G F H Γ σ true (.sl i) (.ref a) (.io xs)
section
variable {K : Frag} {G : Hp} {pn : List (Nat × Addr)} {Γ : Ga} {σ : St} {F H : Hp}
theorem argSl_ok {v : V} {r : RV} {s : Sl} (R : Rep K G pn Γ σ F H) (h : (∃ d, r = .d d ∧ Rp K F v d) ∨ ∃ i, r = .sl i ∧ σ[i]? = some (some v)) (e : argSl Γ r = some s) : AR K G F H Γ σ false r v s := by
  rcases h with ⟨d, rfl, h⟩ | ⟨i, rfl, h⟩
  · cases e; exact .d h
  · unfold argSl at e
    cases q : Γ[i]? with
    | none => simp [q] at e
    | some o =>
      cases o with
      | none => simp [q] at e
      | some t =>
        obtain ⟨u, e1, e2⟩ := R.sl i t q
        obtain rfl : u = v := Option.some.inj (Option.some.inj (e1.symm.trans h))
        cases t with
        | fz d => simp only [q] at e; cases e; exact .fz q e2
        | scr ns => simp only [q] at e; cases e; obtain ⟨a, rfl, e3⟩ := e2; exact .scr q e3
        | ow xs => simp only [q] at e; cases e; obtain ⟨a, rfl, ws, h1, h2, h3, h4⟩ := e2; exact .bor q rfl h h1 h2 h3 rfl
        | io xs => simp only [q] at e; cases e; obtain ⟨a, rfl, ws, h1, h2, h3, h4⟩ := e2; exact .bor q rfl h h1 h2 h3 rfl
        | lk xs => simp only [q] at e; cases e; obtain ⟨a, ws, rfl, h1, h2, h3⟩ := e2; exact .bor q rfl h (R.gh _ _ h1) h2 h3 rfl
theorem argIo_ok {v : V} {r : RV} {s : Sl} (R : Rep K G pn Γ σ F H) (h : (∃ d, r = .d d ∧ Rp K F v d) ∨ ∃ i, r = .sl i ∧ σ[i]? = some (some v)) (e : argIo Γ r = some s) : AR K G F H Γ σ true r v s := by
  rcases h with ⟨d, rfl, h⟩ | ⟨i, rfl, h⟩
  · cases e
  · unfold argIo at e
    cases q : Γ[i]? with
    | none => simp [q] at e
    | some o =>
      cases o with
      | none => simp [q] at e
      | some t =>
        obtain ⟨u, e1, e2⟩ := R.sl i t q
        obtain rfl : u = v := Option.some.inj (Option.some.inj (e1.symm.trans h))
        cases t with
        | ow xs => simp only [q] at e; cases e; obtain ⟨a, rfl, ws, h1, h2, h3, h4⟩ := e2; exact .io q (.inl rfl) h h1 h2 h3 h4
        | io xs => simp only [q] at e; cases e; obtain ⟨a, rfl, ws, h1, h2, h3, h4⟩ := e2; exact .io q (.inr rfl) h h1 h2 h3 h4
        | _ => simp [q] at e
theorem RvAll.uncons {vs : List V} {r : RV} {rs : List RV} (h : RvAll K F σ vs (r :: rs)) : ∃ v us, vs = v :: us ∧ ((∃ d, r = .d d ∧ Rp K F v d) ∨ ∃ i, r = .sl i ∧ σ[i]? = some (some v)) ∧ RvAll K F σ us rs := by
  cases h with
  | d h1 h2 => exact ⟨_, _, rfl, .inl ⟨_, rfl, h1⟩, h2⟩
  | sl h1 h2 => exact ⟨_, _, rfl, .inr ⟨_, rfl, h1⟩, h2⟩
theorem mkArgs_ok {rs : List RV} : ∀ {vs : List V} {io : Option Nat} {as : List Sl}, Rep K G pn Γ σ F H → RvAll K F σ vs rs → mkArgs Γ rs io = some as →
    as.length = vs.length ∧ ∀ (j : Nat) (s : Sl), as[j]? = some s → ∃ r v, rs[j]? = some r ∧ vs[j]? = some v ∧ AR K G F H Γ σ (decide (io = some j)) r v s := by
  induction rs with
  | nil =>
    intro vs io as R h e
    cases h
    have e' : as = [] := by
      cases io with
      | none => unfold mkArgs at e; exact (Option.some.inj e).symm
      | some n => unfold mkArgs at e; exact (Option.some.inj e).symm
    subst e'
    exact ⟨rfl, fun j s z => by simp at z⟩
  | cons r rs ih =>
    intro vs io as R h e
    obtain ⟨v, us, rfl, h1, h2⟩ := h.uncons
    have done : ∀ {io' : Option Nat} {b : Bool} {s : Sl} {as' : List Sl}, AR K G F H Γ σ b r v s → mkArgs Γ rs io' = some as' → as = s :: as' → b = decide (io = some 0) → (∀ j, decide (io' = some j) = decide (io = some (j + 1))) →
        as.length = (v :: us).length ∧ ∀ (j : Nat) (s : Sl), as[j]? = some s → ∃ r' v', (r :: rs)[j]? = some r' ∧ (v :: us)[j]? = some v' ∧ AR K G F H Γ σ (decide (io = some j)) r' v' s := by
      intro io' b s as' ar m ea eb ej
      subst ea
      obtain ⟨l, f⟩ := ih R h2 m
      refine ⟨by simp [l], fun j t z => ?_⟩
      cases j with
      | zero =>
        obtain rfl : s = t := by simpa using z
        exact ⟨r, v, rfl, rfl, eb ▸ ar⟩
      | succ j =>
        obtain ⟨r', v', q1, q2, q3⟩ := f j t (by simpa using z)
        exact ⟨r', v', by simpa using q1, by simpa using q2, by rw [← ej]; exact q3⟩
    cases io with
    | none =>
      unfold mkArgs at e
      cases q : argSl Γ r with
      | none => simp [q] at e
      | some s =>
        cases q2 : mkArgs Γ rs none with
        | none => simp [q, q2] at e
        | some as' =>
          simp [q, q2] at e
          exact done (argSl_ok R h1 q) q2 e.symm rfl fun j => rfl
    | some n =>
      cases n with
      | zero =>
        unfold mkArgs at e
        cases q : argIo Γ r with
        | none => simp [q] at e
        | some s =>
          cases q2 : mkArgs Γ rs none with
          | none => simp [q, q2] at e
          | some as' =>
            simp [q, q2] at e
            exact done (argIo_ok R h1 q) q2 e.symm rfl fun j => by simp
      | succ n =>
        unfold mkArgs at e
        cases q : argSl Γ r with
        | none => simp [q] at e
        | some s =>
          cases q2 : mkArgs Γ rs (some n) with
          | none => simp [q, q2] at e
          | some as' =>
            simp [q, q2] at e
            exact done (argSl_ok R h1 q) q2 e.symm (by simp) fun j => by simp
end
end FL

/-! FM: a call's value. -/
namespace FL
open PySem PySem.Spec L2

def slPut (Γ : Ga) (i : Nat) (ys : List D) : Option Ga := match Γ[i]? with
  | some (some (.ow _)) => some (Γ.set i (some (.ow ys)))
  | some (some (.io _)) => some (Γ.set i (some (.io ys)))
  | _ => none
def isSl (i : Nat) : RV → Bool
  | .sl j => i == j
  | _ => false
/-- what the callee made of the list that it may write -/
def ioBack (rvs : List RV) (io : Option Nat) (outs Γ : Ga) : Option Ga := match io with
  | none => some Γ
  | some j => match rvs[j]? with
    | some (.sl i) => if (rvs.eraseIdx j).all (fun r => !isSl i r) then (match outs[j]? with
      | some (some (.io ys)) => if noLs ys then slPut Γ i ys else none
      | _ => none) else none
    | _ => none
def Sl.flat : Sl → Bool
  | .fz d => noL d
  | .io xs => noLs xs
  | .scr _ => true
  | _ => false
/-- every argument is data, the script, or the list that may be written -/
def plainRv (Γ : Ga) : RV → Bool
  | .d _ => true
  | .ow _ => false
  | .sl i => match Γ[i]? with
    | some (some (.scr _)) => true
    | some (some (.fz _)) => true
    | _ => false
/-- the list that is to be written is handed over once -/
def ioFine (rvs : List RV) (io : Option Nat) : Bool := match io with
  | none => true
  | some j => match rvs[j]? with
    | some (.sl i) => (rvs.eraseIdx j).all fun r => !isSl i r
    | _ => false
def eCall (run : FnR) (np : Nat) (io : Option Nat) (fa : FnA) : FnE := fun Γ => (fa Γ).bind fun p => if p.1.length = np ∧ ioFine p.1 io = true then (match mkArgs p.2 p.1 io with
  | none => .bad
  | some args => match run args with
    | .bad => .bad
    | .exc e => .exc e
    | .ok d outs => match ioBack p.1 io outs p.2 with
      | none => .bad
      | some Γ2 => if noL d then .ok (.d d, Γ2) else match d with
        | .list ds => if args.all Sl.flat && noLs ds then .ok (.ow ds, Γ2) else if ((List.range p.1.length).all fun j => decide (io = some j) || ((p.1[j]?).map (plainRv p.2)).getD true) then .ok (.d (.list ds), Γ2) else .bad
        | d => if ((List.range p.1.length).all fun j => decide (io = some j) || ((p.1[j]?).map (plainRv p.2)).getD true) then .ok (.d d, Γ2) else .bad) else .bad
section
variable {K : Frag} {mg : Str → Option Value} {E : WX} {G : Hp} {pn : List (Nat × Addr)} {Γ Γ2 : Ga} {σ : St} {F F2 H H' : Hp}
theorem rep_after {io : Option Nat} (R : Rep K G pn Γ σ F H) (sF : Same F F2) (fh : Same F2 H') (gh : Same G H') (l : Γ2.length = Γ.length)
    (keep : ∀ (i : Nat) (s : Sl) (a : Addr), Γ[i]? = some (some s) → s.owned = true → σ[i]? = some (some (.ref a)) → io ≠ some i → (∀ vs, H a = some (.lst vs) → H' a = some (.lst vs)) ∧ F2 a = none)
    (hΓ : ∀ (j : Nat) (s : Sl), Γ2[j]? = some (some s) → (Γ[j]? = some (some s) ∧ io ≠ some j) ∨ (io = some j ∧ ∃ s0 a ys, Γ[j]? = some (some s0) ∧ s0.owned = true ∧ σ[j]? = some (some (.ref a)) ∧ (s = .ow ys ∨ s = .io ys) ∧ Own K G F2 H' a ys))
    (hp : ∀ (j : Nat) (s : Sl), Γ[j]? = some (some s) → s.pinned = true → ∃ s', Γ2[j]? = some (some s') ∧ s'.pinned = true) : Rep K G pn Γ2 σ F2 H' where
  fh := fh
  gh := gh
  sl := fun j s e => by
    rcases hΓ j s e with ⟨e1, hn⟩ | ⟨_, s0, a, ys, e0, o0, hv, hs, own⟩
    · obtain ⟨v, q1, q2⟩ := R.sl j s e1
      refine ⟨v, q1, ?_⟩
      cases s with
      | fz d => exact Rp.mono sF q2
      | scr ns => obtain ⟨a, rfl, h1⟩ := q2; exact ⟨a, rfl, h1.mono sF⟩
      | ow xs =>
        obtain ⟨a, rfl, vs, h1, h2, h3, h4⟩ := q2
        obtain ⟨k1, k2⟩ := keep j _ a e1 rfl q1 hn
        exact ⟨a, rfl, vs, k1 _ h1, RpAll.mono sF h2, k2, h4⟩
      | io xs =>
        obtain ⟨a, rfl, vs, h1, h2, h3, h4⟩ := q2
        obtain ⟨k1, k2⟩ := keep j _ a e1 rfl q1 hn
        exact ⟨a, rfl, vs, k1 _ h1, RpAll.mono sF h2, k2, h4⟩
      | lk xs =>
        obtain ⟨a, vs, rfl, h1, h2, h3⟩ := q2
        obtain ⟨k1, k2⟩ := keep j _ a e1 rfl q1 hn
        exact ⟨a, vs, rfl, h1, RpAll.mono sF h2, k2⟩
    · refine ⟨_, hv, ?_⟩
      rcases hs with rfl | rfl
      · exact ⟨a, rfl, own⟩
      · exact ⟨a, rfl, own⟩
  ap := fun j k sj sk a e1 e2 o1 o2 q1 q2 => by
    have f : ∀ (j : Nat) (s : Sl), Γ2[j]? = some (some s) → s.owned = true → ∃ t, Γ[j]? = some (some t) ∧ t.owned = true := fun j s e o => by
      rcases hΓ j s e with ⟨e1, _⟩ | ⟨_, s0, a, ys, e0, o0, _⟩
      · exact ⟨s, e1, o⟩
      · exact ⟨s0, e0, o0⟩
    obtain ⟨t1, y1, y2⟩ := f j sj e1 o1
    obtain ⟨t2, y3, y4⟩ := f k sk e2 o2
    exact R.ap j k t1 t2 a y1 y3 y2 y4 q1 q2
  lkp := fun j zs e => by
    rcases hΓ j _ e with ⟨e1, _⟩ | ⟨_, s0, a, ys, e0, o0, _, hs, _⟩
    · exact R.lkp j zs e1
    · rcases hs with z | z <;> cases z
  pn := fun p hpp => by
    obtain ⟨q1, s, q2, q3⟩ := R.pn p hpp
    obtain ⟨s', q4, q5⟩ := hp p.1 s q2 q3
    exact ⟨q1, s', q4, q5⟩
  len := l.trans R.len

/-- the addresses that the callee may write -/
def ioAt (as : List Sl) (vs : List V) : List (Nat × Addr) := (List.range as.length).filterMap fun (j : Nat) => match (as[j]? : Option Sl), (vs[j]? : Option V) with
  | some (Sl.io _), some (V.ref a) => some (j, a)
  | _, _ => none
theorem mem_ioAt {as : List Sl} {vs : List V} {p : Nat × Addr} : p ∈ ioAt as vs ↔ (∃ xs, as[p.1]? = some (.io xs)) ∧ vs[p.1]? = some (.ref p.2) := by
  unfold ioAt
  rw [List.mem_filterMap]
  constructor
  · rintro ⟨j, _, e⟩
    split at e
    · rename_i xs a e1 e2
      cases e
      exact ⟨⟨xs, e1⟩, e2⟩
    · cases e
  · rintro ⟨⟨xs, e1⟩, e2⟩
    have hl : p.1 < as.length := by
      rcases Nat.lt_or_ge p.1 as.length with h | h
      · exact h
      · rw [List.getElem?_eq_none h] at e1; cases e1
    exact ⟨p.1, List.mem_range.mpr hl, by rw [e1, e2]⟩
/-- what is to be kept by the callee -/
def keptBy (H : Hp) (ios : List (Nat × Addr)) : Hp := fun b => if ios.any (fun p => p.2 == b) then none else H b
theorem keptBy_out {H : Hp} {ios : List (Nat × Addr)} {b : Addr} (h : ∀ p ∈ ios, p.2 ≠ b) : keptBy H ios b = H b := by
  unfold keptBy
  rw [if_neg]
  intro z
  rw [List.any_eq_true] at z
  obtain ⟨p, hp, e⟩ := z
  exact h p hp (by simpa using e)
theorem keptBy_in {H : Hp} {ios : List (Nat × Addr)} {p : Nat × Addr} (h : p ∈ ios) : keptBy H ios p.2 = none := by
  unfold keptBy
  rw [if_pos]
  rw [List.any_eq_true]
  exact ⟨p, h, by simp⟩
theorem keptBy_same {H : Hp} {ios : List (Nat × Addr)} : Same (keptBy H ios) H := fun b o e => by
  unfold keptBy at e
  split at e
  · cases e
  · exact e

/-- the callee's frame, given how each argument is told in Fc -/
theorem callee_rep {as : List Sl} {vs : List V} {rs : List RV} {io : Option Nat} {Fc : Hp} (l : as.length = vs.length)
    (f : ∀ (j : Nat) (s : Sl), as[j]? = some s → ∃ r v, rs[j]? = some r ∧ vs[j]? = some v ∧ AR K G F H Γ σ (decide (io = some j)) r v s) (fh : Same Fc H)
    (tell : ∀ (j : Nat) (s : Sl) (r : RV) (v : V), as[j]? = some s → rs[j]? = some r → AR K G F H Γ σ (decide (io = some j)) r v s → match s with
      | .fz d => Rp K Fc v d
      | .scr ns => ∃ a, v = .ref a ∧ SqS K Fc a (ns.map V.int)
      | .io xs => ∃ a ws, v = .ref a ∧ H a = some (.lst ws) ∧ RpAll K Fc ws xs ∧ Fc a = none
      | _ => False) : Rep K (keptBy H (ioAt as vs)) (ioAt as vs) (as.map some) (vs.map some) Fc H := by
  have at1 : ∀ {j : Nat} {s : Sl}, (as.map some)[j]? = some (some s) → as[j]? = some s := fun {j s} e => by
    rw [List.getElem?_map] at e
    cases q : as[j]? with
    | none => rw [q] at e; cases e
    | some t => rw [q] at e; cases e; rfl
  have at2 : ∀ {j : Nat} {v : V}, vs[j]? = some v → (vs.map some)[j]? = some (some v) := fun {j v} e => by rw [List.getElem?_map, e]; rfl
  have isIo : ∀ {j : Nat} {s : Sl} {r : RV} {v : V}, AR K G F H Γ σ (decide (io = some j)) r v s → s.owned = true → io = some j ∧ ∃ xs, s = .io xs := fun {j s r v} ar o => by
    by_cases h : io = some j
    · refine ⟨h, ?_⟩
      rw [decide_eq_true h] at ar
      cases ar
      exact ⟨_, rfl⟩
    · rw [decide_eq_false h] at ar
      cases ar <;> cases o
  exact {
    fh := fh
    gh := keptBy_same
    sl := fun j s e => by
      have e := at1 e
      obtain ⟨r, v, e1, e2, ar⟩ := f j s e
      refine ⟨v, at2 e2, ?_⟩
      have t := tell j s r v e e1 ar
      cases s with
      | fz d => exact t
      | scr ns => exact t
      | io xs =>
        obtain ⟨a, ws, rfl, h1, h2, h3⟩ := t
        exact ⟨a, rfl, ws, h1, h2, h3, keptBy_in (p := (j, a)) (mem_ioAt.mpr ⟨⟨xs, e⟩, e2⟩)⟩
      | ow xs => exact t.elim
      | lk xs => exact t.elim
    ap := fun i j si sj a e1 e2 o1 o2 q1 q2 => by
      obtain ⟨r1, v1, _, _, ar1⟩ := f i si (at1 e1)
      obtain ⟨r2, v2, _, _, ar2⟩ := f j sj (at1 e2)
      have h1 := (isIo ar1 o1).1
      have h2 := (isIo ar2 o2).1
      rw [h1] at h2
      exact Option.some.inj h2
    lkp := fun j zs e => by
      obtain ⟨r, v, _, _, ar⟩ := f j _ (at1 e)
      obtain ⟨_, xs, z⟩ := isIo ar rfl
      cases z
    pn := fun p hp => by
      obtain ⟨⟨xs, e1⟩, e2⟩ := mem_ioAt.mp hp
      exact ⟨at2 e2, .io xs, by rw [List.getElem?_map, e1]; rfl, rfl⟩
    len := by simp [l] }
end

theorem slPut_ok {Γ Γ2 : Ga} {i : Nat} {ys : List D} (e : slPut Γ i ys = some Γ2) : ∃ s0 s, Γ[i]? = some (some s0) ∧ s0.owned = true ∧ s0.pinned = s.pinned ∧ (s = .ow ys ∨ s = .io ys) ∧ Γ2 = Γ.set i (some s) := by
  unfold slPut at e
  split at e
  · rename_i xs q; cases e; exact ⟨_, .ow ys, q, rfl, rfl, .inl rfl, rfl⟩
  · rename_i xs q; cases e; exact ⟨_, .io ys, q, rfl, rfl, .inr rfl, rfl⟩
  · cases e
/-- what of F a callee is shown: not the lists -/
def noLst (F : Hp) : Hp := fun b => match F b with
  | some (.lst _) => none
  | o => o
theorem noLst_some {F : Hp} {b : Addr} {o : HO} (h : noLst F b = some o) : F b = some o ∧ ∀ vs, o ≠ .lst vs := by
  unfold noLst at h
  split at h
  · cases h
  · rename_i hn
    exact ⟨h, fun vs z => hn vs (by rw [h, z])⟩
theorem noLst_same {F : Hp} : Same (noLst F) F := fun b o h => (noLst_some h).1
theorem noLst_keep {F : Hp} {b : Addr} {o : HO} (h : F b = some o) (n : ∀ vs, o ≠ .lst vs) : noLst F b = some o := by
  unfold noLst
  split
  · rename_i vs e
    rw [h] at e
    cases e
    exact absurd rfl (n vs)
  · exact h
theorem noLst_sqT {K : Frag} {F : Hp} {a : Addr} {vs : List V} (h : SqT K F a vs) : SqT K (noLst F) a vs := by
  rcases h with (h | ⟨o, h⟩) | h
  · exact .inl (.inl (noLst_keep h fun _ z => by cases z))
  · exact .inl (.inr ⟨o, noLst_keep h fun _ z => by cases z⟩)
  · exact .inr h
theorem noLst_sqS {K : Frag} {F : Hp} {a : Addr} {vs : List V} (h : SqS K F a vs) : SqS K (noLst F) a vs := by
  rcases h with ⟨o, h⟩ | h
  · exact .inl ⟨o, noLst_keep h fun _ z => by cases z⟩
  · exact .inr h
section
variable {K : Frag} {mg : Str → Option Value} {E : WX} {G : Hp} {pn : List (Nat × Addr)} {Γ Γ2 : Ga} {σ : St} {F F2 H H' : Hp}
/-- the caller's side of the list that was handed over to be written -/
theorem ioBack_ok {rvs : List RV} {io : Option Nat} {outs : Ga} {as : List Sl} {vs : List V} (f : ∀ (j : Nat) (s : Sl), as[j]? = some s → ∃ r v, rvs[j]? = some r ∧ vs[j]? = some v ∧ AR K G F H Γ σ (decide (io = some j)) r v s)
    (la : as.length = rvs.length) (e : ioBack rvs io outs Γ = some Γ2) : (io = none ∧ Γ2 = Γ) ∨ ∃ j i a xs ys ws s0 s, io = some j ∧ rvs[j]? = some (.sl i) ∧ as[j]? = some (.io xs) ∧ vs[j]? = some (.ref a) ∧ σ[i]? = some (some (.ref a)) ∧ H a = some (.lst ws) ∧ RpAll K F ws xs ∧ F a = none ∧ G a = none ∧
      outs[j]? = some (some (.io ys)) ∧ noLs ys = true ∧ Γ[i]? = some (some s0) ∧ s0.owned = true ∧ s0.pinned = s.pinned ∧ (s = .ow ys ∨ s = .io ys) ∧ Γ2 = Γ.set i (some s) ∧ ∀ (j' : Nat), j' ≠ j → rvs[j']? ≠ some (.sl i) := by
  unfold ioBack at e
  cases io with
  | none => cases e; exact .inl ⟨rfl, rfl⟩
  | some j =>
    simp only at e
    cases q : rvs[j]? with
    | none => simp [q] at e
    | some r =>
      cases r with
      | d x => simp [q] at e
      | ow x => simp [q] at e
      | sl i =>
        simp only [q] at e
        split at e
        · rename_i once
          cases q2 : outs[j]? with
          | none => simp [q2] at e
          | some o =>
            cases o with
            | none => simp [q2] at e
            | some t =>
              cases t with
              | io ys =>
                simp only [q2] at e
                split at e
                · rename_i hn
                  obtain ⟨s0, s, e1, e2, e3, e4, e5⟩ := slPut_ok e
                  have hl : j < as.length := by
                    rw [la]
                    rcases Nat.lt_or_ge j rvs.length with h | h
                    · exact h
                    · rw [List.getElem?_eq_none h] at q; cases q
                  obtain ⟨r, v, k1, k2, ar⟩ := f j as[j] (List.getElem?_eq_getElem hl)
                  have er : r = .sl i := Option.some.inj (k1.symm.trans q)
                  subst er
                  rw [decide_eq_true rfl] at ar
                  have hj : as[j]? = some as[j] := List.getElem?_eq_getElem hl
                  generalize as[j] = t at ar hj
                  cases ar with
                  | io g1 g2 g3 g4 g5 g6 g7 =>
                    refine .inr ⟨j, i, _, _, ys, _, s0, s, rfl, q, hj, k2, g3, g4, g5, g6, g7, q2, hn, e1, e2, e3, e4, e5, fun j' hj' z => ?_⟩
                    rw [List.all_eq_true] at once
                    have := once (.sl i) (List.mem_eraseIdx_iff_getElem?.mpr ⟨j', hj', z⟩)
                    simp [isSl] at this
                · cases e
              | _ => simp [q2] at e
        · cases e
end

theorem RvAll.len {K : Frag} {F : Hp} {σ : St} {vs : List V} {rs : List RV} (h : RvAll K F σ vs rs) : vs.length = rs.length := by
  induction h with
  | nil => rfl
  | d _ _ ih => simp [ih]
  | sl _ _ ih => simp [ih]
section
variable {K : Frag} {mg : Str → Option Value} {E : WX} {G : Hp} {pn : List (Nat × Addr)} {Γ Γ2 : Ga} {σ : St} {F H : Hp}
/-- the slots behind the call, but for the heaps -/
theorem back_slots {rvs : List RV} {io : Option Nat} {outs : Ga} {as : List Sl} {vs : List V} {F2 H' F' : Hp} {Gc : Hp} (R : Rep K G pn Γ σ F H)
    (f : ∀ (j : Nat) (s : Sl), as[j]? = some s → ∃ r v, rvs[j]? = some r ∧ vs[j]? = some v ∧ AR K G F H Γ σ (decide (io = some j)) r v s)
    (la : as.length = rvs.length) (lv : as.length = vs.length) (e : ioBack rvs io outs Γ = some Γ2) (sF : Same F F2) (fh : Same F2 H') (gh : Same (keptBy H (ioAt as vs)) H')
    (own : ∀ p ∈ ioAt as vs, ∃ xs, outs[p.1]? = some (some (.io xs)) ∧ Own K Gc F' H' p.2 xs) (tup : ∀ a us, SqT K F' a us → SqT K F2 a us)
    (none2 : ∀ (i : Nat) (s : Sl) (a : Addr), Γ[i]? = some (some s) → s.owned = true → σ[i]? = some (some (.ref a)) → F' a = none → F2 a = none)
    (none1 : ∀ (i : Nat) (s : Sl) (a : Addr), Γ[i]? = some (some s) → s.owned = true → σ[i]? = some (some (.ref a)) → (∀ p ∈ ioAt as vs, p.2 ≠ a) → F2 a = none) : Rep K G pn Γ2 σ F2 H' := by
  have ioAddr : ∀ {i : Nat} {s : Sl} {a : Addr}, Γ[i]? = some (some s) → s.owned = true → σ[i]? = some (some (.ref a)) → (∃ p ∈ ioAt as vs, p.2 = a) → ∃ j, io = some j ∧ rvs[j]? = some (.sl i) := fun {i s a} e1 o1 hv ⟨p, hp, ep⟩ => by
    obtain ⟨⟨xs, p1⟩, p2⟩ := mem_ioAt.mp hp
    obtain ⟨r, v, k1, k2, ar⟩ := f p.1 _ p1
    by_cases hi : io = some p.1
    · refine ⟨p.1, hi, ?_⟩
      rw [decide_eq_true hi] at ar
      rw [p2] at k2
      cases k2
      generalize hz : V.ref p.2 = z at ar
      cases ar with
      | @io i' s' a' ws' xs' g1 g2 g3 g4 g5 g6 g7 =>
        cases hz
        rw [ep] at g3
        have ow : s'.owned = true := by rcases g2 with rfl | rfl <;> rfl
        have := R.ap i i' s s' a e1 g1 o1 ow hv g3
        rw [this]
        exact k1
    · rw [decide_eq_false hi] at ar
      cases ar
  have gG : Same G H' := fun b o q => by
    by_cases hb : ∃ p ∈ ioAt as vs, p.2 = b
    · exfalso
      obtain ⟨p, hp, ep⟩ := hb
      obtain ⟨⟨xs, p1⟩, p2⟩ := mem_ioAt.mp hp
      obtain ⟨r, v, k1, k2, ar⟩ := f p.1 _ p1
      rw [p2] at k2
      cases k2
      by_cases hi : io = some p.1
      · rw [decide_eq_true hi] at ar
        generalize hz : V.ref p.2 = z at ar
        cases ar with
        | io g1 g2 g3 g4 g5 g6 g7 =>
          cases hz
          rw [ep, q] at g7; cases g7
      · rw [decide_eq_false hi] at ar
        cases ar
    · exact gh b o (by rw [keptBy_out fun p hp z => hb ⟨p, hp, z⟩]; exact R.gh _ _ q)
  rcases ioBack_ok f la e with ⟨rfl, rfl⟩ | ⟨j, i, a, xs, ys, ws, s0, s, rfl, h1, h2, h3, h4, h5, h6, h7, h8, h9, h10, h11, h12, h13, h14, rfl, h16⟩
  · refine rep_after (io := none) R sF fh gG rfl (fun i s a e1 o1 hv _ => ?_) (fun j s e1 => .inl ⟨e1, by simp⟩) fun j s e1 p => ⟨s, e1, p⟩
    have nio : ∀ p ∈ ioAt as vs, p.2 ≠ a := fun p hp z => by
      obtain ⟨j, hj, _⟩ := ioAddr e1 o1 hv ⟨p, hp, z⟩
      cases hj
    exact ⟨fun us q => gh _ _ (by rw [keptBy_out nio]; exact q), none1 i s a e1 o1 hv nio⟩
  · have hl : i < Γ.length := by
      rcases Nat.lt_or_ge i Γ.length with h | h
      · exact h
      · rw [List.getElem?_eq_none h] at h11; cases h11
    obtain ⟨zs, o1, o2⟩ := own (j, a) (mem_ioAt.mpr ⟨⟨xs, h2⟩, h3⟩)
    rw [h9] at o1
    cases o1
    obtain ⟨us, o3, o4, o5, _⟩ := o2
    refine rep_after (io := some i) R sF fh gG (by simp) (fun i' s' a' e1 ow hv hn => ?_) (fun j' s' e1 => ?_) fun j' s' e1 p => ?_
    · have nio : ∀ p ∈ ioAt as vs, p.2 ≠ a' := fun p hp z => by
        obtain ⟨j', hj, hr⟩ := ioAddr e1 ow hv ⟨p, hp, z⟩
        cases hj
        rw [h1] at hr
        cases hr
        exact hn rfl
      exact ⟨fun us q => gh _ _ (by rw [keptBy_out nio]; exact q), none1 i' s' a' e1 ow hv nio⟩
    · rcases get_set e1 with ⟨z1, z2, _⟩ | ⟨z1, z2⟩
      · subst z1
        obtain rfl : s' = s := Option.some.inj z2
        exact .inr ⟨rfl, s0, a, ys, h11, h12, h4, h14, us, o3, RpAll.flat tup o4 h10, none2 _ _ _ h11 h12 h4 o5, h8⟩
      · exact .inl ⟨z2, fun z => z1 (Option.some.inj z).symm⟩
    · by_cases hj : j' = i
      · subst hj
        rw [h11] at e1
        cases e1
        exact ⟨s, by rw [List.getElem?_set_self hl], by rw [← h13]; exact p⟩
      · exact ⟨s', by rw [List.getElem?_set_ne (Ne.symm hj)]; exact e1, p⟩
end
end FL

/-! FN: a call's value, the rule. -/
namespace FL
open PySem PySem.Spec L2

section
variable {K : Frag} {mg : Str → Option Value} {E : WX} {G : Hp} {pn : List (Nat × Addr)} {Γ Γ2 : Ga} {σ : St} {F H : Hp}
/-- a list is lent to the callee -/
def Lent (Γ : Ga) (σ : St) (rvs : List RV) (io : Option Nat) (b : Addr) : Prop := ∃ (j i : Nat) (s : Sl), rvs[j]? = some (.sl i) ∧ io ≠ some j ∧ Γ[i]? = some (some s) ∧ s.owned = true ∧ σ[i]? = some (some (.ref b))
theorem lent_there {rvs : List RV} {io : Option Nat} {b : Addr} (R : Rep K G pn Γ σ F H) (h : Lent Γ σ rvs io b) : ∃ ws, H b = some (.lst ws) ∧ F b = none := by
  obtain ⟨j, i, s, _, _, e, o, hv⟩ := h
  obtain ⟨v, q1, q2⟩ := R.sl i s e
  rw [hv] at q1
  cases q1
  obtain ⟨a, ws, ea, h1, h2⟩ := q2.there R.gh o
  cases ea
  exact ⟨ws, h1, h2⟩
theorem lent_fine {rvs : List RV} {io : Option Nat} {j i : Nat} {s : Sl} {a : Addr} (R : Rep K G pn Γ σ F H) (fine : ioFine rvs io = true) (hi : io = some j) (hr : rvs[j]? = some (.sl i)) (e : Γ[i]? = some (some s)) (o : s.owned = true) (hv : σ[i]? = some (some (.ref a))) : ¬ Lent Γ σ rvs io a := by
  rintro ⟨j', i', s', r1, r2, r3, r4, r5⟩
  have ei : i' = i := R.ap i' i s' s a r3 e r4 o r5 hv
  subst ei
  subst hi
  unfold ioFine at fine
  simp only [hr] at fine
  rw [List.all_eq_true] at fine
  have hj : j' ≠ j := fun z => r2 (by rw [z])
  have := fine (.sl i') (List.mem_eraseIdx_iff_getElem?.mpr ⟨j', hj, r1⟩)
  simp [isSl] at this
theorem plain_all {rvs : List RV} {io : Option Nat} (h : ((List.range rvs.length).all fun j => decide (io = some j) || ((rvs[j]?).map (plainRv Γ)).getD true) = true) {j : Nat} {r : RV} (e : rvs[j]? = some r) (hn : io ≠ some j) : plainRv Γ r = true := by
  rw [List.all_eq_true] at h
  have hl : j < rvs.length := by
    rcases Nat.lt_or_ge j rvs.length with h | h
    · exact h
    · rw [List.getElem?_eq_none h] at e; cases e
  have := h j (List.mem_range.mpr hl)
  rw [decide_eq_false hn, e] at this
  simpa using this
open Classical in
theorem key_call {run : FnR} {io : Option Nat} {fa : FnA} {np : Nat} : ∀ σ H Q, tE K mg E (eCall run np io fa) σ H Q → tCallK K mg E run np (tA K mg E fa) σ H Q := fun σ H Q ⟨G, pn, F, Γ, R, h⟩ => by
  refine ⟨G, pn, F, Γ, R, ?_⟩
  unfold eCall at h
  cases q : fa Γ with
  | bad => rw [q] at h; exact h
  | exc x => rw [q] at h; exact h
  | ok p =>
    obtain ⟨rvs, Γ1⟩ := p
    rw [q] at h
    simp only [Rs.bind_ok] at h
    intro vs F1 H1 A1 R1 rv
    split at h
    · rename_i hz
      obtain ⟨hnp, fine⟩ := hz
      cases m : mkArgs Γ1 rvs io with
      | none => simp only [m] at h; exact h.elim
      | some as =>
        simp only [m] at h
        obtain ⟨lv, f⟩ := mkArgs_ok R1 rv m
        have la : as.length = rvs.length := lv.trans rv.len
        refine ⟨by rw [rv.len]; exact hnp, keptBy H1 (ioAt as vs), ioAt as vs, ?_⟩
        have free : ∀ p ∈ ioAt as vs, keptBy H1 (ioAt as vs) p.2 = none := fun p hp => keptBy_in hp
        have ioInfo : ∀ p ∈ ioAt as vs, F1 p.2 = none ∧ G p.2 = none ∧ ∃ j i s, io = some j ∧ rvs[j]? = some (.sl i) ∧ Γ1[i]? = some (some s) ∧ s.owned = true ∧ σ[i]? = some (some (.ref p.2)) := fun p hp => by
          obtain ⟨⟨xs, p1⟩, p2⟩ := mem_ioAt.mp hp
          obtain ⟨r, v, k1, k2, ar⟩ := f p.1 _ p1
          rw [p2] at k2
          cases k2
          by_cases hi : io = some p.1
          · rw [decide_eq_true hi] at ar
            generalize hz : V.ref p.2 = z at ar
            cases ar with
            | @io i' s' a' ws' xs' g1 g2 g3 g4 g5 g6 g7 =>
              cases hz
              exact ⟨g6, g7, p.1, i', s', hi, k1, g1, by rcases g2 with rfl | rfl <;> rfl, g3⟩
          · rw [decide_eq_false hi] at ar
            cases ar
        have once : ∀ p ∈ ioAt as vs, ¬ Lent Γ1 σ rvs io p.2 := fun p hp => by
          obtain ⟨_, _, j, i, s, h1, h2, h3, h4, h5⟩ := ioInfo p hp
          exact lent_fine R1 fine h1 h2 h3 h4 h5
        have gOut : ∀ {b : Addr}, H1 b ≠ none → (∀ p ∈ ioAt as vs, p.2 ≠ b) → keptBy H1 (ioAt as vs) b = H1 b ∧ keptBy H1 (ioAt as vs) b ≠ none := fun {b} hb hp => by
          have e := keptBy_out (H := H1) hp
          exact ⟨e, by rw [e]; exact hb⟩
        have gNot : ∀ {b : Addr}, G b ≠ none → H1 b ≠ none ∧ ∀ p ∈ ioAt as vs, p.2 ≠ b := fun {b} hb => ⟨fun z => hb (R1.gh.free z), fun p hp z => hb (by rw [← z]; exact (ioInfo p hp).2.1)⟩
        have fNot : ∀ {b : Addr}, F1 b ≠ none → H1 b ≠ none ∧ ∀ p ∈ ioAt as vs, p.2 ≠ b := fun {b} hb => ⟨fun z => hb (R1.fh.free z), fun p hp z => hb (by rw [← z]; exact (ioInfo p hp).1)⟩
        -- the heap that is shown, lists lent in it
        obtain ⟨FA, hFA⟩ : ∃ FA : Hp, FA = fun b => if Lent Γ1 σ rvs io b then H1 b else F1 b := ⟨_, rfl⟩
        have FA_in : ∀ {b : Addr}, Lent Γ1 σ rvs io b → FA b = H1 b := fun {b} hb => by rw [hFA]; exact if_pos hb
        have FA_out : ∀ {b : Addr}, ¬ Lent Γ1 σ rvs io b → FA b = F1 b := fun {b} hb => by rw [hFA]; exact if_neg hb
        have sFA : Same F1 FA := fun b o e => by
          rw [FA_out fun z => by obtain ⟨ws, _, z2⟩ := lent_there R1 z; rw [e] at z2; cases z2]
          exact e
        have sAH : Same FA H1 := fun b o e => by
          by_cases hb : Lent Γ1 σ rvs io b
          · rw [FA_in hb] at e; exact e
          · rw [FA_out hb] at e; exact R1.fh _ _ e
        have repA : Rep K (keptBy H1 (ioAt as vs)) (ioAt as vs) (as.map some) (vs.map some) FA H1 := callee_rep lv f sAH fun j s r v e1 e2 ar => by
          cases hb : decide (io = some j) with
          | false =>
            rw [hb] at ar
            cases ar with
            | d h => exact Rp.mono sFA h
            | fz _ h => exact Rp.mono sFA h
            | bor g1 g2 g3 g4 g5 g6 g7 => exact .lst (by rw [FA_in ⟨j, _, _, e2, of_decide_eq_false hb, g1, g2, g3⟩]; exact g4) (RpAll.mono sFA g5)
            | scr _ h => exact ⟨_, rfl, h.mono sFA⟩
          | true =>
            rw [hb] at ar
            cases ar with
            | @io i' s' a' ws' xs' g1 g2 g3 g4 g5 g6 g7 =>
              refine ⟨_, _, rfl, g4, RpAll.mono sFA g5, ?_⟩
              have ow : s'.owned = true := by rcases g2 with rfl | rfl <;> rfl
              rw [FA_out (lent_fine R1 fine (of_decide_eq_true hb) e2 g1 ow g3)]
              exact g6
        cases er : run as with
        | bad => simp only [er] at h; exact h.elim
        | exc ex =>
          simp only [er] at h
          refine ⟨FA, as, repA, free, ?_⟩
          rw [er]
          intro c d F' H' A' s1 s2 x
          refine PostX.adv h A1 c d F1 H' (Adv.refl G F1) (fun b o e => s1 _ _ (A'.same _ _ (sFA _ _ e))) (fun b o e => ?_) x
          obtain ⟨n1, n2⟩ := gNot (b := b) (by rw [e]; intro z; cases z)
          exact s2 b o (by rw [(gOut n1 n2).1]; exact R1.gh _ _ e)
        | ok d outs =>
          simp only [er] at h
          cases eb : ioBack rvs io outs Γ1 with
          | none => simp only [eb] at h; exact h.elim
          | some Γ2 =>
            simp only [eb] at h
            -- what is shown where nothing is lent
            have plain : ((List.range rvs.length).all fun j => decide (io = some j) || ((rvs[j]?).map (plainRv Γ1)).getD true) = true → PostE K mg E G pn σ F Q (.ok (.d d, Γ2)) → ∃ F args, Rep K (keptBy H1 (ioAt as vs)) (ioAt as vs) (args.map some) (vs.map some) F H1 ∧ (∀ p ∈ ioAt as vs, keptBy H1 (ioAt as vs) p.2 = none) ∧ PostC K mg (fun c d H => E c d σ H) (keptBy H1 (ioAt as vs)) (ioAt as vs) F Q (run args) := fun pl h => by
              have noLent : ∀ {b : Addr}, ¬ Lent Γ1 σ rvs io b := fun {b} ⟨j, i, s, z1, z2, z3, z4, _⟩ => by
                have := plain_all pl z1 z2
                simp only [plainRv, z3] at this
                cases s <;> simp [Sl.owned] at z4 this
              have eFA : FA = F1 := funext fun b => FA_out noLent
              refine ⟨FA, as, repA, free, ?_⟩
              rw [er]
              intro v F' H' A' s1 s2 rp own
              rw [eFA] at A'
              have R2 : Rep K G pn Γ2 σ F' H' := back_slots R1 f la lv eb A'.same s1 s2 own (fun _ _ z => z) (fun _ _ _ _ _ _ z => z) fun i s a e1 o1 hv nio => by
                obtain ⟨u, q1, q2⟩ := R1.sl i s e1
                rw [hv] at q1
                cases q1
                obtain ⟨a', ws, ea, k1, k2⟩ := q2.there R1.gh o1
                cases ea
                rw [A'.out a (gOut (by rw [k1]; intro z; cases z) nio).2]
                exact k2
              refine h v F' H' (A1.trans ⟨A'.same, fun b hb => ?_⟩) R2 rp
              obtain ⟨n1, n2⟩ := gNot hb
              exact A'.out b (gOut n1 n2).2
            by_cases hn : noL d = true
            · -- the lists that were lent are the caller's again
              rw [if_pos hn] at h
              refine ⟨FA, as, repA, free, ?_⟩
              rw [er]
              intro v F' H' A' s1 s2 rp own
              obtain ⟨FZ, hFZ⟩ : ∃ FZ : Hp, FZ = fun b => if Lent Γ1 σ rvs io b then none else F' b := ⟨_, rfl⟩
              have FZ_in : ∀ {b : Addr}, Lent Γ1 σ rvs io b → FZ b = none := fun {b} hb => by rw [hFZ]; exact if_pos hb
              have FZ_out : ∀ {b : Addr}, ¬ Lent Γ1 σ rvs io b → FZ b = F' b := fun {b} hb => by rw [hFZ]; exact if_neg hb
              have lentF' : ∀ {b : Addr}, Lent Γ1 σ rvs io b → ∃ ws, F' b = some (.lst ws) := fun {b} hb => by
                obtain ⟨ws, k1, k2⟩ := lent_there R1 hb
                exact ⟨ws, A'.same _ _ (by rw [FA_in hb]; exact k1)⟩
              have sFZ : Same F1 FZ := fun b o e => by
                have nl : ¬ Lent Γ1 σ rvs io b := fun z => by obtain ⟨ws, _, z2⟩ := lent_there R1 z; rw [e] at z2; cases z2
                rw [FZ_out nl]
                exact A'.same _ _ (sFA _ _ e)
              have sZH : Same FZ H' := fun b o e => by
                by_cases hb : Lent Γ1 σ rvs io b
                · rw [FZ_in hb] at e; cases e
                · rw [FZ_out hb] at e; exact s1 _ _ e
              have tup : ∀ a us, SqT K F' a us → SqT K FZ a us := fun a us z => by
                rcases z with (z | ⟨o, z⟩) | z
                · exact .inl (.inl (by rw [FZ_out fun y => by obtain ⟨ws, y2⟩ := lentF' y; rw [z] at y2; cases y2]; exact z))
                · exact .inl (.inr ⟨o, by rw [FZ_out fun y => by obtain ⟨ws, y2⟩ := lentF' y; rw [z] at y2; cases y2]; exact z⟩)
                · exact .inr z
              have R2 : Rep K G pn Γ2 σ FZ H' := back_slots R1 f la lv eb sFZ sZH s2 own tup (fun i s a e1 o1 hv z => by
                  by_cases hb : Lent Γ1 σ rvs io a
                  · exact FZ_in hb
                  · rw [FZ_out hb]; exact z) fun i s a e1 o1 hv nio => by
                by_cases hb : Lent Γ1 σ rvs io a
                · exact FZ_in hb
                · obtain ⟨u, q1, q2⟩ := R1.sl i s e1
                  rw [hv] at q1
                  cases q1
                  obtain ⟨a', ws, ea, k1, k2⟩ := q2.there R1.gh o1
                  cases ea
                  rw [FZ_out hb, A'.out a (gOut (by rw [k1]; intro z; cases z) nio).2, FA_out hb]
                  exact k2
              refine h v FZ H' (A1.trans ⟨sFZ, fun b hb => ?_⟩) R2 (Rp.flat tup rp hn)
              obtain ⟨n1, n2⟩ := gNot hb
              by_cases hL : Lent Γ1 σ rvs io b
              · obtain ⟨ws, _, k2⟩ := lent_there R1 hL
                rw [FZ_in hL, k2]
              · rw [FZ_out hL, A'.out b (gOut n1 n2).2, FA_out hL]
            · rw [if_neg hn] at h
              have other : (((List.range rvs.length).all fun j => decide (io = some j) || ((rvs[j]?).map (plainRv Γ1)).getD true) = true ∧ PostE K mg E G pn σ F Q (.ok (.d d, Γ2))) ∨ ∃ ds, d = .list ds ∧ as.all Sl.flat = true ∧ noLs ds = true ∧ PostE K mg E G pn σ F Q (.ok (.ow ds, Γ2)) := by
                cases d with
                | list ds =>
                  simp only at h
                  split at h
                  · rename_i hf
                    rw [Bool.and_eq_true] at hf
                    exact .inr ⟨ds, rfl, hf.1, hf.2, h⟩
                  · split at h
                    · rename_i hp; exact .inl ⟨hp, h⟩
                    · exact h.elim
                | _ =>
                  simp only at h
                  split at h
                  · rename_i hp; exact .inl ⟨hp, h⟩
                  · exact h.elim
              rcases other with ⟨pl, h⟩ | ⟨ds, rfl, fl, nds, h⟩
              · exact plain pl h
              · -- nothing but flat data is shown: a list that comes back is new
                have flatArg : ∀ {j : Nat} {s : Sl}, as[j]? = some s → s.flat = true := fun {j s} e => by
                  rw [List.all_eq_true] at fl
                  exact fl s (List.mem_of_getElem? e)
                have repN : Rep K (keptBy H1 (ioAt as vs)) (ioAt as vs) (as.map some) (vs.map some) (noLst F1) H1 := callee_rep lv f (noLst_same.trans R1.fh) fun j s r v e1 e2 ar => by
                  have fs := flatArg e1
                  have nt : ∀ a us, SqT K F1 a us → SqT K (noLst F1) a us := fun _ _ z => noLst_sqT z
                  cases hb : decide (io = some j) with
                  | false =>
                    rw [hb] at ar
                    cases ar with
                    | d h => exact Rp.flat nt h fs
                    | fz _ h => exact Rp.flat nt h fs
                    | bor g1 g2 g3 g4 g5 g6 g7 => unfold Sl.flat noL at fs; cases fs
                    | scr _ h => exact ⟨_, rfl, noLst_sqS h⟩
                  | true =>
                    rw [hb] at ar
                    cases ar with
                    | @io i' s' a' ws' xs' g1 g2 g3 g4 g5 g6 g7 =>
                      refine ⟨_, _, rfl, g4, RpAll.flat nt g5 fs, ?_⟩
                      cases z : noLst F1 a' with
                      | none => rfl
                      | some o => rw [(noLst_some z).1] at g6; cases g6
                refine ⟨noLst F1, as, repN, free, ?_⟩
                rw [er]
                intro v F' H' A' s1 s2 rp own
                cases rp with
                | @lst a ws _ g1 g2 =>
                  -- the list's address is new
                  have newA : H1 a = none ∧ ∀ p ∈ ioAt as vs, p.2 ≠ a := by
                    have nio : ∀ p ∈ ioAt as vs, p.2 ≠ a := fun p hp z => by
                      obtain ⟨xs, _, us, _, _, k3, _⟩ := own p hp
                      rw [z, g1] at k3; cases k3
                    refine ⟨?_, nio⟩
                    cases z : H1 a with
                    | none => rfl
                    | some o =>
                      exfalso
                      have e1 := A'.out a (gOut (by rw [z]; intro y; cases y) nio).2
                      rw [g1] at e1
                      exact (noLst_some e1.symm).2 ws rfl
                  obtain ⟨FZ, hFZ⟩ : ∃ FZ : Hp, FZ = fun b => if b = a then none else match F1 b with | some o => some o | none => F' b := ⟨_, rfl⟩
                  have FZa : FZ a = none := by rw [hFZ]; exact if_pos rfl
                  have FZ1 : ∀ {b : Addr} {o : HO}, F1 b = some o → FZ b = some o := fun {b o} e => by
                    have ne : b ≠ a := fun z => by rw [z] at e; have := R1.fh _ _ e; rw [newA.1] at this; cases this
                    rw [hFZ]
                    show (if b = a then none else _) = _
                    rw [if_neg ne, e]
                  have FZ2 : ∀ {b : Addr}, b ≠ a → F1 b = none → FZ b = F' b := fun {b} ne e => by
                    rw [hFZ]
                    show (if b = a then none else _) = _
                    rw [if_neg ne, e]
                  have keepF : ∀ {b : Addr} {o : HO}, F1 b = some o → H' b = some o := fun {b o} e => by
                    obtain ⟨n1, n2⟩ := fNot (b := b) (by rw [e]; intro z; cases z)
                    exact s2 _ _ (by rw [(gOut n1 n2).1]; exact R1.fh _ _ e)
                  have sFZ : Same F1 FZ := fun b o e => FZ1 e
                  have sZH : Same FZ H' := fun b o e => by
                    by_cases ne : b = a
                    · rw [ne, FZa] at e; cases e
                    · cases k : F1 b with
                      | some o' => rw [FZ1 k] at e; cases e; exact keepF k
                      | none => rw [FZ2 ne k] at e; exact s1 _ _ e
                  have rd : ∀ {b : Addr} {o : HO}, F' b = some o → (∀ us, o ≠ .lst us) → FZ b = some o := fun {b o} e no => by
                    have ne : b ≠ a := fun z => by rw [z, g1] at e; cases e; exact no _ rfl
                    cases k : F1 b with
                    | some o' =>
                      rw [FZ1 k]
                      have e1 := keepF k
                      have e2 := s1 _ _ e
                      rw [e1] at e2
                      exact e2
                    | none => rw [FZ2 ne k]; exact e
                  have tup : ∀ c us, SqT K F' c us → SqT K FZ c us := fun c us z => by
                    rcases z with (z | ⟨o, z⟩) | z
                    · exact .inl (.inl (rd z fun _ y => by cases y))
                    · exact .inl (.inr ⟨o, rd z fun _ y => by cases y⟩)
                    · exact .inr z
                  have ownNone : ∀ {i : Nat} {s : Sl} {c : Addr}, Γ1[i]? = some (some s) → s.owned = true → σ[i]? = some (some (.ref c)) → F1 c = none ∧ H1 c ≠ none ∧ c ≠ a := fun {i s c} e1 o1 hv => by
                    obtain ⟨u, q1, q2⟩ := R1.sl i s e1
                    rw [hv] at q1
                    cases q1
                    obtain ⟨a', ws', ea, k1, k2⟩ := q2.there R1.gh o1
                    cases ea
                    exact ⟨k2, (fun z => by rw [k1] at z; cases z), (fun z => by rw [z, newA.1] at k1; cases k1)⟩
                  have nl : ∀ {c : Addr}, F1 c = none → noLst F1 c = none := fun {c} e => by
                    cases z : noLst F1 c with
                    | none => rfl
                    | some o => rw [(noLst_some z).1] at e; cases e
                  have R2 : Rep K G pn Γ2 σ FZ H' := back_slots R1 f la lv eb sFZ sZH s2 own tup (fun i s c e1 o1 hv z => by
                      obtain ⟨k1, k2, k3⟩ := ownNone e1 o1 hv
                      rw [FZ2 k3 k1]; exact z) fun i s c e1 o1 hv nio => by
                    obtain ⟨k1, k2, k3⟩ := ownNone e1 o1 hv
                    rw [FZ2 k3 k1, A'.out c (gOut k2 nio).2]
                    exact nl k1
                  have Ga0 : G a = none := R1.gh.free newA.1
                  refine h (.ref a) FZ H' (A1.trans ⟨sFZ, fun b hb => ?_⟩) R2 ⟨a, rfl, ⟨ws, s1 _ _ g1, RpAll.flat tup g2 nds, FZa, Ga0⟩, fun j sj e o z => ?_⟩
                  · obtain ⟨n1, n2⟩ := gNot hb
                    cases k : F1 b with
                    | some o => exact FZ1 k
                    | none =>
                      have ne : b ≠ a := fun z => by rw [z] at hb; exact hb Ga0
                      rw [FZ2 ne k, A'.out b (gOut n1 n2).2]
                      exact nl k
                  · -- no slot owns the new list
                    have pre : ∃ s', Γ1[j]? = some (some s') ∧ s'.owned = true := by
                      rcases ioBack_ok f la eb with ⟨_, rfl⟩ | ⟨_, i, _, _, _, _, s0, s, _, _, _, _, _, _, _, _, _, _, _, h11, h12, _, _, rfl, _⟩
                      · exact ⟨sj, e, o⟩
                      · rcases get_set e with ⟨z1, z2, _⟩ | ⟨z1, z2⟩
                        · subst z1; exact ⟨s0, h11, h12⟩
                        · exact ⟨sj, z2, o⟩
                    obtain ⟨s', e', o'⟩ := pre
                    exact (ownNone e' o' z).2.2 rfl
    · exact h.elim
end
section
variable {X : Cx} {E : WX} {k : Nat} {f : Addr} {fd : FuncData} {ps : List Str} {run : FnR} {x : Str} {p pos : Pos} {e : Expr} {es : List Expr} {fa : FnA}
/-- a call of a def whose worth is known -/
theorem fe_call (F : Kp X.prog X.w X.K X.mg X.base k f fd ps run) (c : Cok X E k) (hg : Gl X x) (hm : X.mg x = some (.ref f)) (hk : PySem.W.keepIn X.K (.ref f) = true) (hb : Binds X.K fd ps []) (io : Option Nat) (ha : FA X E (e :: es) fa)
    (hdb : (x == ("__debug__" : Str)) = false := by decide) (he : starEach (e :: es) X.env = (false, eval e X.env) :: starEach es X.env := by rfl) (hpl : (backTo pos (starEach es X.env)).any (·.1) = false := by rfl) :
    FE X E (.Call (.Name x p) (e :: es) [] pos) (eCall run ps.length io fa) := pe_imp (pe_callF F c hg hm hk hb ha hdb he hpl) key_call
end
end FL

/-! FO: built-ins by name. -/
namespace FL
open PySem PySem.Spec L2

/-! ### the ways to a built-in of one, of two arguments -/
section
variable {X : Cx} {E : WX} {f f2 : FnE} {x : Str} {id T : String} {p pos : Pos} {e e2 : Expr} {r : List V → Hp → VK → Prop}
theorem fe_b1 {g : RV → Ga → Rs (RV × Ga)} (hc : CallR X (.builtin id) r) (hg : Gl X x) (hm : X.mg x = none) (hv : bootBuiltins x = some (.builtin id)) (he : FE X E e f)
    (key : ∀ (G : Hp) (pn : List (Nat × Addr)) (F : Hp) (Γ : Ga) (σ : St) (H : Hp) (v : V) (ra : RV) (Q : VK), Rep X.K G pn Γ σ F H → RvR X.K G F H Γ σ v ra → PostE X.K X.mg E G pn σ F Q (g ra Γ) → r [v] H Q)
    (hn : x ≠ "__name__" := by decide) (hdb : (x == ("__debug__" : Str)) = false := by decide) (hs : starEach [e] X.env = [(false, eval e X.env)] := by rfl) : FE X E (.Call (.Name x p) [e] [] pos) (eUn g f) :=
  pe_imp (pe_callB hc hg hm hv (pa_cons he pa_nil hs) hn hdb hs rfl) (tE_un (r := fun v H Q => r [v] H Q) key)
theorem fe_t1 {g : RV → Ga → Rs (RV × Ga)} (hc : CallR X (.type T) r) (hg : Gl X x) (hm : X.mg x = none) (hv : bootBuiltins x = some (.type T)) (he : FE X E e f)
    (key : ∀ (G : Hp) (pn : List (Nat × Addr)) (F : Hp) (Γ : Ga) (σ : St) (H : Hp) (v : V) (ra : RV) (Q : VK), Rep X.K G pn Γ σ F H → RvR X.K G F H Γ σ v ra → PostE X.K X.mg E G pn σ F Q (g ra Γ) → r [v] H Q)
    (hn : x ≠ "__name__" := by decide) (hdb : (x == ("__debug__" : Str)) = false := by decide) (hs : starEach [e] X.env = [(false, eval e X.env)] := by rfl) : FE X E (.Call (.Name x p) [e] [] pos) (eUn g f) :=
  pe_imp (pe_callTy hc hg hm hv (pa_cons he pa_nil hs) hn hdb hs rfl) (tE_un (r := fun v H Q => r [v] H Q) key)
theorem fe_b2 {g : RV → RV → Ga → Rs (RV × Ga)} (hc : CallR X (.builtin id) r) (hg : Gl X x) (hm : X.mg x = none) (hv : bootBuiltins x = some (.builtin id)) (he : FE X E e f) (he2 : FE X E e2 f2)
    (key : ∀ (G : Hp) (pn : List (Nat × Addr)) (F : Hp) (Γ : Ga) (σ : St) (H : Hp) (v u : V) (ra rb : RV) (Q : VK), Rep X.K G pn Γ σ F H → RvR X.K G F H Γ σ v ra → RvR X.K G F H Γ σ u rb → PostE X.K X.mg E G pn σ F Q (g ra rb Γ) → r [v, u] H Q)
    (hn : x ≠ "__name__" := by decide) (hdb : (x == ("__debug__" : Str)) = false := by decide) (hs : starEach [e, e2] X.env = (false, eval e X.env) :: starEach [e2] X.env := by rfl) (hs2 : starEach [e2] X.env = [(false, eval e2 X.env)] := by rfl)
    (hpl : (backTo pos (starEach [e2] X.env)).any (·.1) = false := by rfl) : FE X E (.Call (.Name x p) [e, e2] [] pos) (eBin g f f2) :=
  pe_imp (pe_callB hc hg hm hv (pa_cons he (pa_cons he2 pa_nil hs2) hs) hn hdb hs hpl) (tE_bin (r := fun v u H Q => r [v, u] H Q) key)
end

/-! ### len -/
def lenD : D → Option D
  | .list xs => some (.int xs.length)
  | .tuple xs => some (.int xs.length)
  | .str z => if z.length ≤ lim then some (.int z.length) else none
  | _ => none
section
variable {X : Cx} {E : WX} {f f2 : FnE} {p pos : Pos} {e e2 : Expr}
theorem fe_len (hg : Gl X "len") (hm : X.mg "len" = none) (he : FE X E e f) (hs : starEach [e] X.env = [(false, eval e X.env)] := by rfl) : FE X E (.Call (.Name "len" p) [e] [] pos) (eUn (g1 lenD) f) :=
  fe_b1 (call_len_seq.or call_len_str) hg hm PySem.boot_len he (fun G pn F Γ σ H v ra Q R r h => by
    obtain ⟨d, z, q1, q3, h⟩ := post_g1 h
    unfold lenD at q3
    split at q3
    · cases q3
      obtain ⟨a, vs, rfl, h1, h2⟩ := rv_list R r q1
      exact .inl ⟨a, vs, rfl, .inl h1, by rw [h2.len]; exact post_d R h (.int _)⟩
    · cases q3
      obtain ⟨a, vs, rfl, h1, h2, _⟩ := rv_tup R r q1
      exact .inl ⟨a, vs, rfl, .inr h1, by rw [h2.len]; exact post_d R h (.int _)⟩
    · split at q3
      · rename_i hz
        cases q3
        exact .inr ⟨_, by rw [dp_str (rv_get R r q1)], by rw [lim_eq]; exact hz, post_d R h (.int _)⟩
      · cases q3
    · cases q3) (hs := hs)

/-! ### abs, max, min, divmod -/
def absD : D → Option D
  | .int i => some (.int (if i < 0 then -i else i))
  | _ => none
def max2D : D → D → Option D
  | .int i, .int j => some (.int (max i j))
  | _, _ => none
def min2D : D → D → Option D
  | .int i, .int j => some (.int (min i j))
  | _, _ => none
def divmodD : D → D → Option D
  | .int i, .int j => if fdivOk j then some (.tuple [.int (i / j), .int (i % j)]) else none
  | _, _ => none
theorem fe_abs (hg : Gl X "abs") (hm : X.mg "abs" = none) (he : FE X E e f) (hs : starEach [e] X.env = [(false, eval e X.env)] := by rfl) : FE X E (.Call (.Name "abs" p) [e] [] pos) (eUn (g1 absD) f) :=
  fe_b1 call_abs hg hm (by decide +kernel) he (fun G pn F Γ σ H v ra Q R r h => by
    obtain ⟨d, z, q1, q3, h⟩ := post_g1 h
    unfold absD at q3
    split at q3
    · cases q3
      exact ⟨_, by rw [dp_int (rv_get R r q1)], post_d R h (.int _)⟩
    · cases q3) (hs := hs)
theorem fe_max2 (hc : X.calm = true) (hg : Gl X "max") (hm : X.mg "max" = none) (he : FE X E e f) (he2 : FE X E e2 f2) (hs : starEach [e, e2] X.env = (false, eval e X.env) :: starEach [e2] X.env := by rfl) (hs2 : starEach [e2] X.env = [(false, eval e2 X.env)] := by rfl)
    (hpl : (backTo pos (starEach [e2] X.env)).any (·.1) = false := by rfl) : FE X E (.Call (.Name "max" p) [e, e2] [] pos) (eBin (g2 max2D) f f2) :=
  fe_b2 (call_max2 hc) hg hm PyProof.Rows.boot_max he he2 (fun G pn F Γ σ H v u ra rb Q R r1 r2 h => by
    obtain ⟨d, e, z, q1, q2, q3, h⟩ := post_g2 h
    unfold max2D at q3
    split at q3
    · rename_i i j
      cases q3
      refine ⟨i, j, by rw [dp_int (rv_get R r1 q1), dp_int (rv_get R r2 q2)], ?_⟩
      have e : (if j > i then j else i) = max i j := by
        split <;> omega
      rw [e]
      exact post_d R h (.int _)
    · cases q3) (hs := hs) (hs2 := hs2) (hpl := hpl)
theorem fe_min2 (hc : X.calm = true) (hg : Gl X "min") (hm : X.mg "min" = none) (he : FE X E e f) (he2 : FE X E e2 f2) (hs : starEach [e, e2] X.env = (false, eval e X.env) :: starEach [e2] X.env := by rfl) (hs2 : starEach [e2] X.env = [(false, eval e2 X.env)] := by rfl)
    (hpl : (backTo pos (starEach [e2] X.env)).any (·.1) = false := by rfl) : FE X E (.Call (.Name "min" p) [e, e2] [] pos) (eBin (g2 min2D) f f2) :=
  fe_b2 (call_min2 hc) hg hm PyProof.Rows.boot_min he he2 (fun G pn F Γ σ H v u ra rb Q R r1 r2 h => by
    obtain ⟨d, e, z, q1, q2, q3, h⟩ := post_g2 h
    unfold min2D at q3
    split at q3
    · rename_i i j
      cases q3
      refine ⟨i, j, by rw [dp_int (rv_get R r1 q1), dp_int (rv_get R r2 q2)], ?_⟩
      have e : (if j < i then j else i) = min i j := by
        split <;> omega
      rw [e]
      exact post_d R h (.int _)
    · cases q3) (hs := hs) (hs2 := hs2) (hpl := hpl)
theorem fe_divmod (hg : Gl X "divmod") (hm : X.mg "divmod" = none) (he : FE X E e f) (he2 : FE X E e2 f2) (hs : starEach [e, e2] X.env = (false, eval e X.env) :: starEach [e2] X.env := by rfl) (hs2 : starEach [e2] X.env = [(false, eval e2 X.env)] := by rfl)
    (hpl : (backTo pos (starEach [e2] X.env)).any (·.1) = false := by rfl) : FE X E (.Call (.Name "divmod" p) [e, e2] [] pos) (eBin (g2 divmodD) f f2) :=
  fe_b2 call_divmodW hg hm (by decide +kernel) he he2 (fun G pn F Γ σ H v u ra rb Q R r1 r2 h => by
    obtain ⟨d, e, z, q1, q2, q3, h⟩ := post_g2 h
    unfold divmodD at q3
    split at q3
    · rename_i i j
      split at q3
      · rename_i hz
        simp only [fdivOk, Bool.and_eq_true, decide_eq_true_eq] at hz
        cases q3
        exact ⟨i, j, by rw [dp_int (rv_get R r1 q1), dp_int (rv_get R r2 q2)], ⟨hz.1, PyProof.noPylong_of_log2 hz.2⟩, fun p hp => post_tup R h (.cons (.int _) (.cons (.int _) .nil)) hp⟩
      · cases q3
    · cases q3) (hs := hs) (hs2 := hs2) (hpl := hpl)

/-! ### of a list: all, any, sum, max, min, tuple, list -/
def boolsOf : List D → Option (List Bool)
  | [] => some []
  | .bool b :: r => (boolsOf r).map (b :: ·)
  | _ => none
theorem boolsOf_ok : ∀ {ds : List D} {ns : List Bool}, boolsOf ds = some ns → ds = ns.map .bool
  | [], ns, h => by cases h; rfl
  | .bool i :: r, ns, h => by
    unfold boolsOf at h
    cases q : boolsOf r with
    | none => rw [q] at h; cases h
    | some m =>
      rw [q] at h
      cases h
      rw [boolsOf_ok q]
      rfl
  | .none :: _, _, h => by cases h
  | .int _ :: _, _, h => by cases h
  | .str _ :: _, _, h => by cases h
  | .list _ :: _, _, h => by cases h
  | .tuple _ :: _, _, h => by cases h
  | .dict _ :: _, _, h => by cases h
@[simp] theorem boolsOf_map : ∀ ns : List Bool, boolsOf (ns.map .bool) = some ns
  | [] => rfl
  | n :: ns => by
    show (boolsOf (ns.map .bool)).map (n :: ·) = _
    rw [boolsOf_map ns]
    rfl
def allD : D → Option D
  | .list xs => (boolsOf xs).map fun bs => .bool (bs.all id)
  | _ => none
def anyD : D → Option D
  | .list xs => (boolsOf xs).map fun bs => .bool (bs.any id)
  | _ => none
def sumD : D → Option D
  | .list xs => (intsOf xs).map fun ns => .int ns.sum
  | _ => none
def mxI : List Int → Option Int
  | [] => none
  | x :: r => some (r.foldl max x)
def mnI : List Int → Option Int
  | [] => none
  | x :: r => some (r.foldl min x)
theorem foldl_max (r : List Int) : ∀ x : Int, (r.foldl max x = x ∨ r.foldl max x ∈ r) ∧ x ≤ r.foldl max x ∧ ∀ y ∈ r, y ≤ r.foldl max x := by
  induction r with
  | nil => intro x; exact ⟨.inl rfl, Int.le_refl _, fun y h => by cases h⟩
  | cons a r ih =>
    intro x
    obtain ⟨h1, h2, h3⟩ := ih (max x a)
    simp only [List.foldl_cons]
    refine ⟨?_, by omega, fun y hy => ?_⟩
    · rcases h1 with h1 | h1
      · rcases Int.le_total x a with l | l
        · right; rw [h1, Int.max_eq_right l]; exact List.mem_cons_self
        · left; rw [h1, Int.max_eq_left l]
      · right; exact List.mem_cons_of_mem _ h1
    · rcases List.mem_cons.mp hy with rfl | hy
      · omega
      · exact h3 y hy
theorem foldl_min (r : List Int) : ∀ x : Int, (r.foldl min x = x ∨ r.foldl min x ∈ r) ∧ r.foldl min x ≤ x ∧ ∀ y ∈ r, r.foldl min x ≤ y := by
  induction r with
  | nil => intro x; exact ⟨.inl rfl, Int.le_refl _, fun y h => by cases h⟩
  | cons a r ih =>
    intro x
    obtain ⟨h1, h2, h3⟩ := ih (min x a)
    simp only [List.foldl_cons]
    refine ⟨?_, by omega, fun y hy => ?_⟩
    · rcases h1 with h1 | h1
      · rcases Int.le_total x a with l | l
        · left; rw [h1, Int.min_eq_left l]
        · right; rw [h1, Int.min_eq_right l]; exact List.mem_cons_self
      · right; exact List.mem_cons_of_mem _ h1
    · rcases List.mem_cons.mp hy with rfl | hy
      · omega
      · exact h3 y hy
theorem mxI_iff {ns : List Int} {m : Int} : mxI ns = some m ↔ m ∈ ns ∧ ∀ y ∈ ns, y ≤ m := by
  cases ns with
  | nil => simp [mxI]
  | cons x r =>
    obtain ⟨h1, h2, h3⟩ := foldl_max r x
    constructor
    · intro h
      cases h
      refine ⟨?_, fun y hy => ?_⟩
      · rcases h1 with h1 | h1
        · rw [h1]; exact List.mem_cons_self
        · exact List.mem_cons_of_mem _ h1
      · rcases List.mem_cons.mp hy with rfl | hy
        · exact h2
        · exact h3 y hy
    · rintro ⟨k1, k2⟩
      have a1 : m ≤ r.foldl max x := by
        rcases List.mem_cons.mp k1 with rfl | k
        · exact h2
        · exact h3 m k
      have a2 : r.foldl max x ≤ m := by
        rcases h1 with h1 | h1
        · rw [h1]; exact k2 x List.mem_cons_self
        · exact k2 _ (List.mem_cons_of_mem _ h1)
      show some _ = some m
      rw [Int.le_antisymm a2 a1]
theorem mnI_iff {ns : List Int} {m : Int} : mnI ns = some m ↔ m ∈ ns ∧ ∀ y ∈ ns, m ≤ y := by
  cases ns with
  | nil => simp [mnI]
  | cons x r =>
    obtain ⟨h1, h2, h3⟩ := foldl_min r x
    constructor
    · intro h
      cases h
      refine ⟨?_, fun y hy => ?_⟩
      · rcases h1 with h1 | h1
        · rw [h1]; exact List.mem_cons_self
        · exact List.mem_cons_of_mem _ h1
      · rcases List.mem_cons.mp hy with rfl | hy
        · exact h2
        · exact h3 y hy
    · rintro ⟨k1, k2⟩
      have a1 : r.foldl min x ≤ m := by
        rcases List.mem_cons.mp k1 with rfl | k
        · exact h2
        · exact h3 m k
      have a2 : m ≤ r.foldl min x := by
        rcases h1 with h1 | h1
        · rw [h1]; exact k2 x List.mem_cons_self
        · exact k2 _ (List.mem_cons_of_mem _ h1)
      show some _ = some m
      rw [Int.le_antisymm a1 a2]
def maxD : D → Option D
  | .list xs => ((intsOf xs).bind mxI).map .int
  | _ => none
def minD : D → Option D
  | .list xs => ((intsOf xs).bind mnI).map .int
  | _ => none
theorem listB {X : Cx} {G : Hp} {pn : List (Nat × Addr)} {F : Hp} {Γ : Ga} {σ : St} {H : Hp} {v : V} {ra : RV} {xs : List D} {bs : List Bool} (R : Rep X.K G pn Γ σ F H) (r : RvR X.K G F H Γ σ v ra) (q : ra.get Γ = some (.list xs)) (e : boolsOf xs = some bs) :
    ∃ a, v = .ref a ∧ SqL X.K H a (bs.map V.bl) := by
  obtain ⟨a, vs, rfl, h1, h2⟩ := rv_list R r q
  have ex := boolsOf_ok e
  subst ex
  rw [RpAll.bools h2] at h1
  exact ⟨a, rfl, h1⟩
theorem listI {X : Cx} {G : Hp} {pn : List (Nat × Addr)} {F : Hp} {Γ : Ga} {σ : St} {H : Hp} {v : V} {ra : RV} {xs : List D} {ns : List Int} (R : Rep X.K G pn Γ σ F H) (r : RvR X.K G F H Γ σ v ra) (q : ra.get Γ = some (.list xs)) (e : intsOf xs = some ns) :
    ∃ a, v = .ref a ∧ SqL X.K H a (ns.map V.int) := by
  obtain ⟨a, vs, rfl, h1, h2⟩ := rv_list R r q
  have ex := intsOf_ok e
  subst ex
  rw [RpAll.ints h2] at h1
  exact ⟨a, rfl, h1⟩
theorem fe_all (hc : X.calm = true) (hg : Gl X "all") (hm : X.mg "all" = none) (he : FE X E e f) (hs : starEach [e] X.env = [(false, eval e X.env)] := by rfl) : FE X E (.Call (.Name "all" p) [e] [] pos) (eUn (g1 allD) f) :=
  fe_b1 (cr_all hc) hg hm PyProof.Rows.boot_all he (fun G pn F Γ σ H v ra Q R r h => by
    obtain ⟨d, z, q1, q3, h⟩ := post_g1 h
    unfold allD at q3
    split at q3
    · rename_i xs
      cases q : boolsOf xs with
      | none => rw [q] at q3; cases q3
      | some bs =>
        rw [q] at q3
        cases q3
        obtain ⟨a, rfl, hs⟩ := listB R r q1 q
        exact ⟨a, bs, rfl, hs, post_d R h (.bl _)⟩
    · cases q3) (hs := hs)
theorem fe_any (hc : X.calm = true) (hg : Gl X "any") (hm : X.mg "any" = none) (he : FE X E e f) (hs : starEach [e] X.env = [(false, eval e X.env)] := by rfl) : FE X E (.Call (.Name "any" p) [e] [] pos) (eUn (g1 anyD) f) :=
  fe_b1 (cr_any hc) hg hm PyProof.Rows.boot_any he (fun G pn F Γ σ H v ra Q R r h => by
    obtain ⟨d, z, q1, q3, h⟩ := post_g1 h
    unfold anyD at q3
    split at q3
    · rename_i xs
      cases q : boolsOf xs with
      | none => rw [q] at q3; cases q3
      | some bs =>
        rw [q] at q3
        cases q3
        obtain ⟨a, rfl, hs⟩ := listB R r q1 q
        exact ⟨a, bs, rfl, hs, post_d R h (.bl _)⟩
    · cases q3) (hs := hs)
theorem fe_sum (hc : X.calm = true) (hg : Gl X "sum") (hm : X.mg "sum" = none) (he : FE X E e f) (hs : starEach [e] X.env = [(false, eval e X.env)] := by rfl) : FE X E (.Call (.Name "sum" p) [e] [] pos) (eUn (g1 sumD) f) :=
  fe_b1 (cr_sum hc) hg hm PyProof.Rows.boot_sum he (fun G pn F Γ σ H v ra Q R r h => by
    obtain ⟨d, z, q1, q3, h⟩ := post_g1 h
    unfold sumD at q3
    split at q3
    · rename_i xs
      cases q : intsOf xs with
      | none => rw [q] at q3; cases q3
      | some bs =>
        rw [q] at q3
        cases q3
        obtain ⟨a, rfl, hs⟩ := listI R r q1 q
        exact ⟨a, bs, rfl, hs, post_d R h (.int _)⟩
    · cases q3) (hs := hs)
theorem fe_max (hc : X.calm = true) (hg : Gl X "max") (hm : X.mg "max" = none) (he : FE X E e f) (hs : starEach [e] X.env = [(false, eval e X.env)] := by rfl) : FE X E (.Call (.Name "max" p) [e] [] pos) (eUn (g1 maxD) f) :=
  fe_b1 (cr_max hc) hg hm PyProof.Rows.boot_max he (fun G pn F Γ σ H v ra Q R r h => by
    obtain ⟨d, z, q1, q3, h⟩ := post_g1 h
    unfold maxD at q3
    split at q3
    · rename_i xs
      cases q : intsOf xs with
      | none => rw [q] at q3; cases q3
      | some ns =>
        cases q2 : mxI ns with
        | none => rw [q, Option.bind_some, q2] at q3; cases q3
        | some m =>
          rw [q, Option.bind_some, q2] at q3
          cases q3
          obtain ⟨a, rfl, hs⟩ := listI R r q1 q
          obtain ⟨k1, k2⟩ := mxI_iff.mp q2
          refine ⟨a, ns, rfl, hs, List.length_pos_of_mem k1, fun m' h1 h2 => ?_⟩
          rw [Int.le_antisymm (k2 m' h1) (h2 m k1)]
          exact post_d R h (.int _)
    · cases q3) (hs := hs)
theorem fe_min (hc : X.calm = true) (hg : Gl X "min") (hm : X.mg "min" = none) (he : FE X E e f) (hs : starEach [e] X.env = [(false, eval e X.env)] := by rfl) : FE X E (.Call (.Name "min" p) [e] [] pos) (eUn (g1 minD) f) :=
  fe_b1 (cr_min hc) hg hm PyProof.Rows.boot_min he (fun G pn F Γ σ H v ra Q R r h => by
    obtain ⟨d, z, q1, q3, h⟩ := post_g1 h
    unfold minD at q3
    split at q3
    · rename_i xs
      cases q : intsOf xs with
      | none => rw [q] at q3; cases q3
      | some ns =>
        cases q2 : mnI ns with
        | none => rw [q, Option.bind_some, q2] at q3; cases q3
        | some m =>
          rw [q, Option.bind_some, q2] at q3
          cases q3
          obtain ⟨a, rfl, hs⟩ := listI R r q1 q
          obtain ⟨k1, k2⟩ := mnI_iff.mp q2
          refine ⟨a, ns, rfl, hs, List.length_pos_of_mem k1, fun m' h1 h2 => ?_⟩
          rw [Int.le_antisymm (h2 m k1) (k2 m' h1)]
          exact post_d R h (.int _)
    · cases q3) (hs := hs)
def tupleD : D → Option D
  | .list xs => some (.tuple xs)
  | .tuple xs => some (.tuple xs)
  | _ => none
theorem fe_tuple (hg : Gl X "tuple") (hm : X.mg "tuple" = none) (he : FE X E e f) (hs : starEach [e] X.env = [(false, eval e X.env)] := by rfl) : FE X E (.Call (.Name "tuple" p) [e] [] pos) (eUn (g1 tupleD) f) :=
  fe_t1 call_tuple_of hg hm PyProof.Rows.boot_tuple he (fun G pn F Γ σ H v ra Q R r h => by
    obtain ⟨d, z, q1, q3, h⟩ := post_g1 h
    unfold tupleD at q3
    split at q3
    · cases q3
      obtain ⟨a, vs, rfl, h1, h2⟩ := rv_list R r q1
      exact ⟨a, vs, rfl, .inl ⟨h1, fun l hl => post_tup R h h2 hl⟩⟩
    · cases q3
      obtain ⟨a, vs, rfl, h1, h2, h3⟩ := rv_tup R r q1
      exact ⟨a, vs, rfl, .inr ⟨h1, post_d R h (.tup h3 h2)⟩⟩
    · cases q3) (hs := hs)
def gList (a : RV) : Ga → Rs (RV × Ga) := fun Γ => match a.get Γ with
  | some (.list xs) => .ok (.ow xs, Γ)
  | some (.tuple xs) => .ok (.ow xs, Γ)
  | _ => .bad
theorem fe_list (hg : Gl X "list") (hm : X.mg "list" = none) (he : FE X E e f) (hs : starEach [e] X.env = [(false, eval e X.env)] := by rfl) : FE X E (.Call (.Name "list" p) [e] [] pos) (eUn gList f) :=
  fe_t1 call_list_of hg hm (by decide +kernel) he (fun G pn F Γ σ H v ra Q R r h => by
    unfold gList at h
    split at h
    · rename_i xs q1
      obtain ⟨a, vs, rfl, h1, h2⟩ := rv_list R r q1
      exact ⟨a, vs, rfl, .inl h1, fun l hl => post_ow R h h2 hl⟩
    · rename_i xs q1
      obtain ⟨a, vs, rfl, h1, h2, h3⟩ := rv_tup R r q1
      exact ⟨a, vs, rfl, .inr h1, fun l hl => post_ow R h h2 hl⟩
    · exact h.elim) (hs := hs)
def intD : D → Option D
  | .int i => some (.int i)
  | .bool b => some (.int (if b then 1 else 0))
  | _ => none
theorem fe_intOf (hg : Gl X "int") (hm : X.mg "int" = none) (he : FE X E e f) (hs : starEach [e] X.env = [(false, eval e X.env)] := by rfl) : FE X E (.Call (.Name "int" p) [e] [] pos) (eUn (g1 intD) f) :=
  fe_t1 call_int1 hg hm (by decide +kernel) he (fun G pn F Γ σ H v ra Q R r h => by
    obtain ⟨d, z, q1, q3, h⟩ := post_g1 h
    unfold intD at q3
    split at q3
    · cases q3
      exact .inl ⟨_, by rw [dp_int (rv_get R r q1)], post_d R h (.int _)⟩
    · cases q3
      exact .inr ⟨_, by rw [dp_bl (rv_get R r q1)], post_d R h (.int _)⟩
    · cases q3) (hs := hs)
end

/-! ### isinstance of a built-in class -/
inductive Ty where
  | int | bool | str | tuple | list | dict
def Ty.name : Ty → String
  | .int => "int"
  | .bool => "bool"
  | .str => "str"
  | .tuple => "tuple"
  | .list => "list"
  | .dict => "dict"
def isiB : Ty → D → Bool
  | .int, .int _ => true
  | .int, .bool _ => true
  | .bool, .bool _ => true
  | .str, .str _ => true
  | .tuple, .tuple _ => true
  | .list, .list _ => true
  | .dict, .dict _ => true
  | _, _ => false
def tyD : D → String
  | .none => "NoneType"
  | .bool _ => "bool"
  | .int _ => "int"
  | .str _ => "str"
  | .list _ => "list"
  | .tuple _ => "tuple"
  | .dict _ => "dict"
theorem kit_isi (t : Ty) (d : D) : kitB (tyD d) t.name = some (isiB t d) := by
  have key : ∀ (t : Ty) (s : String) (b : Bool), (s, t.name, b) ∈ [("NoneType", "int", false), ("NoneType", "bool", false), ("NoneType", "str", false), ("NoneType", "tuple", false), ("NoneType", "list", false), ("NoneType", "dict", false),
      ("bool", "int", true), ("bool", "bool", true), ("bool", "str", false), ("bool", "tuple", false), ("bool", "list", false), ("bool", "dict", false),
      ("int", "int", true), ("int", "bool", false), ("int", "str", false), ("int", "tuple", false), ("int", "list", false), ("int", "dict", false),
      ("str", "int", false), ("str", "bool", false), ("str", "str", true), ("str", "tuple", false), ("str", "list", false), ("str", "dict", false),
      ("list", "int", false), ("list", "bool", false), ("list", "str", false), ("list", "tuple", false), ("list", "list", true), ("list", "dict", false),
      ("tuple", "int", false), ("tuple", "bool", false), ("tuple", "str", false), ("tuple", "tuple", true), ("tuple", "list", false), ("tuple", "dict", false),
      ("dict", "int", false), ("dict", "bool", false), ("dict", "str", false), ("dict", "tuple", false), ("dict", "list", false), ("dict", "dict", true)] → kitB s t.name = some b := by
    intro t s b h
    have all : ∀ p ∈ [("NoneType", "int", false), ("NoneType", "bool", false), ("NoneType", "str", false), ("NoneType", "tuple", false), ("NoneType", "list", false), ("NoneType", "dict", false),
      ("bool", "int", true), ("bool", "bool", true), ("bool", "str", false), ("bool", "tuple", false), ("bool", "list", false), ("bool", "dict", false),
      ("int", "int", true), ("int", "bool", false), ("int", "str", false), ("int", "tuple", false), ("int", "list", false), ("int", "dict", false),
      ("str", "int", false), ("str", "bool", false), ("str", "str", true), ("str", "tuple", false), ("str", "list", false), ("str", "dict", false),
      ("list", "int", false), ("list", "bool", false), ("list", "str", false), ("list", "tuple", false), ("list", "list", true), ("list", "dict", false),
      ("tuple", "int", false), ("tuple", "bool", false), ("tuple", "str", false), ("tuple", "tuple", true), ("tuple", "list", false), ("tuple", "dict", false),
      ("dict", "int", false), ("dict", "bool", false), ("dict", "str", false), ("dict", "tuple", false), ("dict", "list", false), ("dict", "dict", true)], kitB p.1 p.2.1 = some p.2.2 := by decide +kernel
    exact all _ h
  refine key t _ _ ?_
  cases t <;> cases d <;> simp [tyD, Ty.name, isiB]
def isiD (t : Ty) (d : D) : Option D := some (.bool (isiB t d))
theorem tyx_list {K : Frag} {H : Hp} {a : Addr} {vs : List V} (h : SqL K H a vs) : TyX K H (.ref a) (.type "list") := by
  rcases h with (h | ⟨o, h⟩) | ⟨o, its, n, h, hc, _⟩
  · exact .base (.lst h)
  · exact .base (.frz h)
  · exact .kList h hc
theorem tyx_tup {K : Frag} {H : Hp} {a : Addr} {vs : List V} (h : SqT K H a vs) : TyX K H (.ref a) (.type "tuple") := by
  rcases h with (h | ⟨o, h⟩) | ⟨o, its, n, h, hc, _⟩
  · exact .base (.tup h)
  · exact .fTuple h
  · exact .kTuple h hc
theorem tyx_dp {K : Frag} {H : Hp} {v : V} {d : D} (h : Dp K H v d) : TyX K H v (.type (tyD d)) := by
  cases h with
  | non => exact .base .non
  | bl b => exact .base (.bl b)
  | int i => exact .base (.int i)
  | str x => exact .base (.str x)
  | lst h _ => exact tyx_list h
  | tup h _ => exact tyx_tup h
section
variable {X : Cx} {E : WX} {f : FnE} {p p2 pos : Pos} {e : Expr}
theorem boot_ty (t : Ty) : bootBuiltins (Str.ofString t.name) = some (.type t.name) := by cases t <;> decide +kernel
theorem fe_isi (t : Ty) (hg : Gl X "isinstance") (hm : X.mg "isinstance" = none) (hg2 : Gl X (Str.ofString t.name)) (hm2 : X.mg (Str.ofString t.name) = none) (he : FE X E e f)
    (hs : starEach [e, .Name (Str.ofString t.name) p2] X.env = (false, eval e X.env) :: starEach [.Name (Str.ofString t.name) p2] X.env := by rfl) (hs2 : starEach [.Name (Str.ofString t.name) p2] X.env = [(false, eval (.Name (Str.ofString t.name) p2) X.env)] := by rfl)
    (hpl : (backTo pos (starEach [.Name (Str.ofString t.name) p2] X.env)).any (·.1) = false := by rfl) : FE X E (.Call (.Name "isinstance" p) [e, .Name (Str.ofString t.name) p2] [] pos) (eUn (g1 (isiD t)) f) := by
  have cls : PE X (.Name (Str.ofString t.name) p2) (tC (.ty t.name)) := pe_bltn hg2 hm2 (boot_ty t) rfl (by cases t <;> decide) (by cases t <;> decide)
  refine pe_imp (pe_callB call_isi hg hm PyProof.Rows.boot_isinstance (pa_cons he (pa_cons cls pa_nil hs2) hs) (he := hs) (hpl := hpl)) (tE_un (r := fun v H Q => rIsi X.K [v, .ty t.name] H Q) fun G pn F Γ σ H v ra Q R r h => ?_)
  obtain ⟨d, z, q1, q3, h⟩ := post_g1 h
  cases q3
  exact ⟨v, .ty t.name, _, _, _, rfl, .ty _, tyx_dp (rv_get R r q1), kit_ty (kit_isi t d), post_d R h (.bl _)⟩
end
end FL

/-! FP: enumerate, zip. -/
namespace PySem
open Sem (wp)
open AutoSeq1 (wpAny_loadPart')
theorem fp_enum_new (l : Addr) (items : Array Value) :
    Meets (Builtin.«enumerate.__new__» ⟨[.type "enumerate", .ref l], []⟩) (fun _ R s => s.heap.IsTuple l items ∧
      R (.ok (.ret (.ref (s.heap.push { cls := .type "tuple_iterator", data := .fields #[.ref l, .int 0 0] }).objs.size)))
        { s with heap := (s.heap.push { cls := .type "tuple_iterator", data := .fields #[.ref l, .int 0 0] }).push { cls := .type "enumerate", data := .fields #[.none, .bool false, .ref s.heap.objs.size, rawInt 0, .none, .none] } }) :=
  .of_wp fun prog w A R s h => by
    obtain ⟨hp, g, dr, tk, os⟩ := s
    obtain ⟨hl, h⟩ := h
    have hsub := sub_enumerate
    have hL : Heap.IsTuple (Shared.heap ⟨hp, g, dr, tk, os⟩) l items := hl
    obtain ⟨o, ho, hc, hd⟩ := hl
    wp_walk using wpAny_loadPart' ho
    refine wpAny_stack_any fun st => wpAny_pure ?_
    split
    · rename_i c _ _ _ _ _
      cases (c == Value.type "enumerate")
      · wp_walk using wpAny_loadPart' ho, wpAny_pyIter_tuple hL
        exact ⟨_, rfl, h⟩
      · wp_walk using wpAny_loadPart' ho, wpAny_pyIter_tuple hL
        exact ⟨_, rfl, h⟩
    · wp_walk using wpAny_loadPart' ho, wpAny_pyIter_tuple hL
      exact ⟨_, rfl, h⟩
section
variable {prog : Program} {w : World} {A : Around} {E : Value → Shared → Prop} {s : Shared}
theorem fp_enum_call {l : Addr} {items : Array Value} {Q : Value → Shared → Prop} (hL : s.heap.IsTuple l items)
    (h : ∀ h', IsEnum h' (s.heap.objs.size + 1) s.heap.objs.size 0 .none → h'.IsTupleIter s.heap.objs.size l 0 →
      (∀ b o, s.heap.get? b = some o → h'.get? b = some o) → Q (.ref (s.heap.objs.size + 1)) { s with heap := h' }) :
    wpAny (model prog w) A (call (.type "enumerate") [.ref l]) Q E s := by
  refine callType_new F.called_enumerate (by decide) (F.typeCall_enumerate_1 _) (F.newCall_enumerate_1 _) (fun obj => F.args_object_init_2 obj _) F.entry_enumerate_new (fp_enum_new l items) ⟨hL, ?_⟩
  generalize hT : (s.heap.push { cls := .type "tuple_iterator", data := .fields #[.ref l, .int 0 0] }) = hp1
  have z1 : hp1.objs.size = s.heap.objs.size + 1 := by rw [← hT]; exact Heap.size_push ..
  have g1 : hp1.get? s.heap.objs.size = some { cls := .type "tuple_iterator", data := .fields #[.ref l, .int 0 0] } := by rw [← hT]; exact Heap.get?_push_size _ rfl
  have k1 : ∀ b o, s.heap.get? b = some o → hp1.get? b = some o := fun b o x => by rw [← hT]; exact Heap.get?_push_of_some _ x
  have he := Heap.get?_push_size hp1 (o := { cls := .type "enumerate", data := .fields #[.none, .bool false, .ref s.heap.objs.size, rawInt 0, .none, .none] }) rfl
  show _ ∧ _
  rw [z1] at he ⊢
  exact ⟨⟨_, he, rfl⟩, h _ he ⟨_, Heap.get?_push_of_some _ g1, rfl, rfl⟩ fun b o x => Heap.get?_push_of_some _ (k1 b o x)⟩
end
end PySem
namespace FL
open PySem PySem.Spec L2
open PyProof.Rows (boot_enumerate boot_zip)

/-- the tuple at a, each item in a new pair -/
def Iet (K : Frag) (a : Addr) : It :=
  ⟨fun i H => ∃ (xs : List V) (x : V), SqT K H a xs ∧ xs[i]? = some x, fun i H v H' => ∃ T x, v = .ref T ∧ H T = none ∧ H' = upd H T (.tup [.int (i : Nat), x]) ∧ ∀ xs, SqT K H a xs → xs[i]? = some x, fun i H => ∃ xs : List V, SqT K H a xs ∧ xs.length ≤ i⟩
theorem walk_iet {K : Frag} {a : Addr} {xs : List V} : Walk (Iet K a) xs.length (fun H => SqT K H a xs) (YPair (fun i => some (.int (i : Nat))) (fun i => xs[i]?)) :=
  ⟨fun i _ hi q => ⟨xs, xs[i], q, by simp [hi]⟩, fun _ q => ⟨xs, q, Nat.le_refl _⟩, fun i H v H' _ q ⟨T, x, h1, h2, h3, h4⟩ => ⟨T, .int (i : Nat), x, h1, h2, h3, rfl, h4 xs q⟩⟩
theorem turn_iet {P : Program} {w : World} {K : Frag} {elts : List Expr} {kk : Nat} {tpos : Pos} (a e it : Addr) :
    Turn P w K (.Tuple elts kk tpos) (Iet K a) [e, it] e (fun i h => (∃ old, IsEnum h e it ((i : Nat) : Int) old) ∧ h.IsTupleIter it a i ∧ e ≠ it ∧ a ≠ it ∧ e ≠ a) where
  mem := by simp
  obj := fun i h ⟨⟨old, he⟩, ⟨o, ho, hc, hd⟩, _⟩ b hb => by
    rcases (show b = e ∨ b = it by simpa using hb) with rfl | rfl
    · exact ⟨_, he, fun v q => nomatch q⟩
    · exact ⟨o, ho, fun v q => by rw [hd] at q; cases q⟩
  keep := fun i h h' ⟨⟨old, he⟩, hi, hne⟩ k => ⟨⟨old, k e (by simp) _ he⟩, hi.at fun o q => k it (by simp) o q, hne⟩
  item := by
    intro X hP hw hK hc i pins s σ H E I hf ⟨⟨old, he⟩, hit, n1, n2, n3⟩ ⟨xs, x, hq, hx⟩
    subst hP hw hK
    obtain ⟨its, rv, p, hz⟩ := I.tuple hq
    obtain ⟨u, hu, ru⟩ := rv.get hx
    have hel : e < s.heap.objs.size := Heap.lt_size he
    have hil : it < s.heap.objs.size := by obtain ⟨_, q, _⟩ := hit; exact Heap.lt_size q
    have hi : i < its.toArray.size := by
      have : i < its.length := by
        rcases Nat.lt_or_ge i its.length with h | h
        · exact h
        · rw [List.getElem?_eq_none h] at hu; cases hu
      simpa using this
    refine wpAny_pyNext_enum_itemC (Draws.tuple (A := X.A.in1) (I.ok.hd hc) it a n2 its.toArray) he ⟨hit, p⟩ hi n1 (by simp [n1, n3]) fun y h' tk hy ho hst hT hsz hk => ?_
    obtain ⟨hit', _⟩ := hst
    have yu : y = u := by
      have e1 : its.toArray[i]? = some u := by simpa using hu
      rw [e1] at hy
      exact (Option.some.inj hy).symm
    subst yu
    refine ⟨_, rfl, wpAny_letOwnedTupleGo_enum (s := { s with heap := h', toks := tk + 1 }) ho fun h'' he' sb => ?_⟩
    have hT2 : h''.get? s.heap.objs.size = some { cls := .type "tuple", data := .seq #[.int i tk, y] } := (sb.2 _ (Nat.ne_of_gt hel)).trans hT
    have new : ObjOk X.prog X.w (upd H s.heap.objs.size (.tup [.int (i : Nat), x])) h'' s.heap.objs.size (.tup [.int (i : Nat), x]) :=
      ⟨by show 2 ≤ sizeLine; decide, [.int i tk, y], .cons ⟨_, rfl⟩ (.cons ru .nil), ⟨_, hT2, rfl, _, rfl⟩⟩
    have I1 : Inv X pins σ (upd H s.heap.objs.size (.tup [.int (i : Nat), x])) { s with heap := h'', toks := tk + 1 } :=
      I.turnedNew (ch := [e, it]) (fun b ob hb q => (sb.2 b (fun z => hb (by simp [z]))).trans (hk b ob (fun z => hb (by simp [z])) (fun z => hb (by simp [z])) q)) hf (Nat.le_refl _) new
    refine ⟨.ref s.heap.objs.size, _, I1, rfl, ⟨_, x, rfl, I.hok.fresh (Nat.le_refl _), rfl, fun ys hy => by rw [I.tuple_inj hy hq]; exact hx⟩, ⟨⟨y, ?_⟩, hit'.at fun o q => (sb.2 it (Ne.symm n1)).trans q, n1, n2, n3⟩, fun b hb => ?_⟩
    · rw [show ((i + 1 : Nat) : Int) = (i : Int) + 1 by omega]; exact he'
    · have hb' : b < s.heap.objs.size := by
        rcases (show b = e ∨ b = it by simpa using hb) with rfl | rfl
        · exact hel
        · exact hil
      rw [upd_ne (Nat.ne_of_lt hb')]
      exact (hf b hb).1
  done := by
    intro X hP hw hK hc i pins s σ H E I hf ⟨⟨old, he⟩, hit, n1, n2, n3⟩ ⟨xs, hq, hx⟩
    subst hP hw hK
    obtain ⟨its, rv, p, hz⟩ := I.tuple hq
    have hl := rv.length
    have tail : ∀ (n : Nat), its.toArray.size ≤ n → s.heap.IsTupleIter it a n → wpAny (model X.prog X.w) X.A (pyNext (.ref e)) (fun r s1 => r = none ∧ Inv X pins σ H s1) E s := fun n hn hn2 => by
      have D : Draws X.prog X.w X.A.in1 it [it, a] n (fun i v => its.toArray[i]? = some v ∧ False) (fun k h => k = n ∧ h.IsTupleIter it a n ∧ h.IsTuple a its.toArray) := {
        live := fun _ _ st => let ⟨o, ho, _⟩ := st.2.1; ⟨o, ho⟩
        frame := fun _ _ _ st hk => ⟨st.1, st.2.1.at fun o e => hk it (by simp) o e, st.2.2.at fun o e => hk a (by simp) o e⟩
        item := fun k s Q E hi st hQ => absurd st.1 (Nat.ne_of_lt hi)
        done := fun s Q E st hE => wpAny_nextOf_tuple_end (I.ok.hd hc) st.2.1 st.2.2 (by simp; simpa using hn) hE }
      refine wpAny_pyNext_enum_endD D he ⟨rfl, hn2, p⟩ fun h' eb => ?_
      obtain ⟨f0, f1, f2, f3, f4, f5⟩ := hf it (by simp)
      exact ⟨rfl, I.turned (t' := s.toks) (fun b o hb q => eb b o hb q) f0 f1 f3 f4 f5⟩
    exact tail i (by simp; omega) hit
  self := fun A i s Q E ⟨⟨_, he⟩, _⟩ h => wpAny_pyIter_enum he h
def iIet (K : Frag) (ta : TA) : TI := fun σ H R => ta σ H fun vs H1 => ∃ a xs, vs = [.ref a] ∧ SqT K H1 a xs ∧ R (Iet K a) H1
theorem pi_iet {X : Cx} {e : Expr} {ta : TA} {p pos tpos : Pos} {elts : List Expr} {kk : Nat} (hg : Gl X "enumerate") (hm : X.mg "enumerate" = none) (ha : PA X [e] ta) (hs : starEach [e] X.env = [(false, eval e X.env)] := by rfl) :
    PI X (.Tuple elts kk tpos) (.Call (.Name "enumerate" p) [e] [] pos) (iIet X.K ta) := by
  refine ⟨fun pins s σ H R I h => ?_⟩
  refine PyProof.Rows.Call_ (ld_blt I hg hm boot_enumerate (PyProof.Rows.callWith_type1 (thn (ha.run pos pins s σ H _ I h) fun us s1 ⟨vs, H1, I1, r1, a, xs, ex, hq, q⟩ => ?_) hs rfl))
  subst ex
  cases r1 with
  | cons r rr =>
    cases rr
    cases r
    obtain ⟨its, rv, p', hz⟩ := I1.tuple hq
    have la : a < s1.heap.objs.size := by obtain ⟨_, e1, _⟩ := p'; exact Heap.lt_size e1
    refine fp_enum_call p' fun h' he hit hk => wpAny_pyIter_enum he ?_
    have I2 : Inv X pins σ H1 { s1 with heap := h' } := I1.kept (t' := s1.toks) hk
    refine ⟨s1.heap.objs.size + 1, [s1.heap.objs.size + 1, s1.heap.objs.size], _, _, H1, rfl, I2, turn_iet a (s1.heap.objs.size + 1) s1.heap.objs.size, ⟨⟨.none, he⟩, hit, Nat.succ_ne_self _, Nat.ne_of_lt la, Nat.ne_of_gt (Nat.lt_succ_of_lt la)⟩, fun b hb => ?_, q⟩
    have hle : s1.heap.objs.size ≤ b := by
      rcases (show b = s1.heap.objs.size + 1 ∨ b = s1.heap.objs.size by simpa using hb) with rfl | rfl
      · exact Nat.le_add_right _ _
      · exact Nat.le_refl _
    exact I1.fpOk hle (I1.hok.fresh hle)

/-! ### pairs that are walked -/
theorem walkD_pair {K : Frag} {J : It} {xs : List D} {G2 Fs : Hp} {as bs : Nat → Option V} (w : Walk J xs.length (fun H => Same G2 H ∧ Same Fs H) (YPair as bs))
    (h : ∀ (i : Nat) (x : D) (F : Hp) (u v : V), Same Fs F → xs[i]? = some x → as i = some u → bs i = some v → ∃ d1 d2, x = .tuple [d1, d2] ∧ Rp K F u d1 ∧ Rp K F v d2) : WalkD K J xs G2 Fs :=
  ⟨_, w, fun i H v H' F Gc x s1 s2 s3 s4 y e => by
    obtain ⟨T, u, z, rfl, hT, rfl, ea, eb⟩ := y
    obtain ⟨d1, d2, rfl, r1, r2⟩ := h i x F u z s1 e ea eb
    have fT : F T = none := s2.free hT
    have gT : Gc T = none := s3.free hT
    have sm : Same F (upd F T (.tup [u, z])) := fun b o q => by rw [upd_ne (ne_of_none q fT)]; exact q
    refine ⟨upd F T (.tup [u, z]), ⟨sm, fun b hb => ?_⟩, .tup (.inl (.inl upd_same)) (.cons (Rp.mono sm r1) (.cons (Rp.mono sm r2) .nil)), .inr ⟨T, _, hT, rfl, rfl⟩⟩
    exact upd_ne fun z => hb (by rw [z]; exact gT)⟩
/-- the items numbered -/
def enuD : Nat → List D → List D
  | _, [] => []
  | i, x :: xs => .tuple [.int (i : Nat), x] :: enuD (i + 1) xs
theorem enuD_len : ∀ (k : Nat) (xs : List D), (enuD k xs).length = xs.length
  | _, [] => rfl
  | k, x :: xs => by unfold enuD; rw [List.length_cons, List.length_cons, enuD_len]
theorem enuD_get : ∀ (k : Nat) (xs : List D) (i : Nat), (enuD k xs)[i]? = (xs[i]?).map fun x => .tuple [.int ((k + i : Nat)), x]
  | _, [], i => by simp [enuD]
  | k, x :: xs, 0 => by simp [enuD]
  | k, x :: xs, i + 1 => by
    unfold enuD
    rw [List.getElem?_cons_succ, List.getElem?_cons_succ, enuD_get (k + 1) xs i]
    rw [show k + 1 + i = k + (i + 1) by omega]
theorem walkD_enu {K : Frag} {J : It} {vs : List V} {xs : List D} {G2 Fs : Hp} {G : Hp → Prop} (w : Walk J vs.length G (YPair (fun i => some (.int (i : Nat))) fun i => vs[i]?)) (h : ∀ H, Same G2 H ∧ Same Fs H → G H) (r : RpAll K Fs vs xs) : WalkD K J (enuD 0 xs) G2 Fs := by
  refine walkD_pair (by rw [enuD_len, ← r.len]; exact w.mono h fun i H x H' _ _ y => y) fun i x F u v s1 e ea eb => ?_
  obtain ⟨d, e1, r1⟩ := r.atV eb
  rw [enuD_get, e1] at e
  cases e
  cases ea
  refine ⟨_, _, rfl, ?_, Rp.mono s1 r1⟩
  rw [Nat.zero_add]
  exact .int _
def iEnu (f : FnA) : FnI := fun Γ => (f Γ).bind fun p => match p.1 with
  | [rv] => match rv.get p.2 with
    | some (.tuple xs) => .ok (enuD 0 xs, none, p.2)
    | _ => match itemsL rv p.2 with
      | some (xs, lk) => .ok (enuD 0 xs, lk, p.2)
      | none => .bad
  | _ => .bad
def zipD : List D → List D → List D
  | x :: xs, y :: ys => .tuple [x, y] :: zipD xs ys
  | _, _ => []
theorem zipD_len : ∀ (xs ys : List D), (zipD xs ys).length = min xs.length ys.length
  | [], ys => by simp [zipD]
  | x :: xs, [] => by simp [zipD]
  | x :: xs, y :: ys => by simp [zipD, zipD_len xs ys]
theorem zipD_get : ∀ (xs ys : List D) (i : Nat) (x y : D), xs[i]? = some x → ys[i]? = some y → (zipD xs ys)[i]? = some (.tuple [x, y])
  | x :: xs, y :: ys, 0, _, _, e1, e2 => by cases e1; cases e2; rfl
  | x :: xs, y :: ys, i + 1, _, _, e1, e2 => by simp [zipD]; exact zipD_get xs ys i _ _ e1 e2
  | [], ys, i, _, _, e1, _ => by simp at e1
  | x :: xs, [], i, _, _, _, e2 => by simp at e2
theorem walkD_zip {K : Frag} {J : It} {vs us : List V} {xs ys : List D} {G2 Fs : Hp} {G : Hp → Prop} {n : Nat} (w : n = min vs.length us.length → Walk J n G (YPair (fun i => vs[i]?) fun i => us[i]?)) (h : ∀ H, Same G2 H ∧ Same Fs H → G H) (r : RpAll K Fs vs xs) (q : RpAll K Fs us ys) (hn : n = min vs.length us.length) : WalkD K J (zipD xs ys) G2 Fs := by
  have en : (zipD xs ys).length = n := by rw [zipD_len, hn, r.len, q.len]
  refine walkD_pair (by rw [en]; exact (w hn).mono h fun i H x H' _ _ y => y) fun i x F u v s1 e ea eb => ?_
  obtain ⟨d, e1, r1⟩ := r.atV ea
  obtain ⟨d2, e2, r2⟩ := q.atV eb
  rw [zipD_get _ _ _ _ _ e1 e2] at e
  cases e
  exact ⟨_, _, rfl, Rp.mono s1 r1, Rp.mono s1 r2⟩
section
variable {X : Cx} {E : WX} {e e2 : Expr} {fa : FnA} {p pos tpos : Pos} {elts : List Expr} {kk : Nat}
theorem pi_or {t e : Expr} {t1 t2 : TI} (h1 : PI X t e t1) (h2 : PI X t e t2) : PI X t e (fun σ H R => t1 σ H R ∨ t2 σ H R) :=
  ⟨fun pins s σ H R I h => h.elim (h1.run pins s σ H R I) (h2.run pins s σ H R I)⟩
theorem fi_enu (hg : Gl X "enumerate") (hm : X.mg "enumerate" = none) (ha : FA X E [e] fa) (hs : starEach [e] X.env = [(false, eval e X.env)] := by rfl) : FI X E (.Tuple elts kk tpos) (.Call (.Name "enumerate" p) [e] [] pos) (iEnu fa) :=
  pi_imp (pi_or (pi_enum hg hm ha hs) (pi_iet hg hm ha hs)) fun σ H Rk ⟨G, pn, F, Γ, R, h⟩ => by
  unfold iEnu at h
  cases q : fa Γ with
  | bad => rw [q] at h; exact h.elim
  | exc x => rw [q] at h; exact .inl ⟨G, pn, F, Γ, R, by rw [q]; exact h⟩
  | ok p =>
    obtain ⟨rvs, Γ1⟩ := p
    rw [q] at h
    simp only [Rs.bind_ok] at h
    split at h
    · rename_i rv
      split at h
      · rename_i xs e1
        refine .inr ⟨G, pn, F, Γ, R, ?_⟩
        rw [q]
        intro vs F1 H1 A1 R1 r1
        obtain ⟨v, us, rfl, r2, r3⟩ := r1.uncons
        obtain rfl : us = [] := by cases r3; rfl
        have r4 : RvR X.K G F1 H1 Γ1 σ v rv := by
          rcases r2 with ⟨d, rfl, h⟩ | ⟨i, rfl, h⟩
          · exact h
          · exact h
        obtain ⟨a, ws, rfl, h1, h2, h3⟩ := rv_tup R1 r4 e1
        exact ⟨a, ws, rfl, h1, h _ F1 H1 G A1 R1 rfl (walkD_enu walk_iet (fun H' s => sqT_same s.2 h3) h2)⟩
      · cases q2 : itemsL rv Γ1 with
        | none => simp only [q2] at h; exact h.elim
        | some p2 =>
          obtain ⟨xs, lk⟩ := p2
          simp only [q2] at h
          refine .inl ⟨G, pn, F, Γ, R, ?_⟩
          rw [q]
          intro vs F1 H1 A1 R1 r1
          obtain ⟨v, us, rfl, r2, r3⟩ := r1.uncons
          obtain rfl : us = [] := by cases r3; rfl
          have r4 : RvR X.K G F1 H1 Γ1 σ v rv ∧ rv.still = true := by
            rcases r2 with ⟨d, rfl, h⟩ | ⟨i, rfl, h⟩
            · exact ⟨h, rfl⟩
            · exact ⟨h, rfl⟩
          obtain ⟨a, ws, G2, rfl, hs, lkr, wd, ra, hall⟩ := itemsL_ok R1 r4.1 r4.2 q2
          exact ⟨a, ws, rfl, hs, h _ F1 H1 G2 A1 R1 lkr (walkD_enu walk_enum (fun H' s => hall H' s) ra)⟩
    · exact h.elim
/-- which slot is shut: none of both, or one -/
def lkOr : Option Nat → Option Nat → Option (Option Nat)
  | none, b => some b
  | a, none => some a
  | _, _ => none
def iZp (f : FnA) : FnI := fun Γ => (f Γ).bind fun p => match p.1 with
  | [r1, r2] => match r1.get p.2, r2.get p.2 with
    | some (.tuple xs), some (.tuple ys) => .ok (zipD xs ys, none, p.2)
    | _, _ => match itemsL r1 p.2, itemsL r2 p.2 with
      | some (xs, l1), some (ys, l2) => match lkOr l1 l2 with
        | some lk => .ok (zipD xs ys, lk, p.2)
        | none => .bad
      | _, _ => .bad
  | _ => .bad
theorem walk_zipT {K : Frag} {a b : Addr} {xs ys : List V} {n : Nat} (hn : n = min xs.length ys.length) : Walk (RZ.ItzT K a b) n (fun H => SqT K H a xs ∧ SqT K H b ys) (YPair (fun i => xs[i]?) (fun i => ys[i]?)) := by
  subst hn
  refine ⟨fun i _ hi q => ?_, fun _ q => ⟨xs, ys, q.1, q.2, by omega⟩, fun i H v H' _ q ⟨T, x, z, h1, h2, h3, h4, h5⟩ => ⟨T, x, z, h1, h2, h3, h4 xs q.1, h5 ys q.2⟩⟩
  have h1 : i < xs.length := by omega
  have h2 : i < ys.length := by omega
  exact ⟨xs, ys, xs[i], ys[i], q.1, q.2, by simp [h1], by simp [h2]⟩
theorem fi_zip (hg : Gl X "zip") (hm : X.mg "zip" = none) (ha : FA X E [e, e2] fa)
    (hs : starEach [e, e2] X.env = (false, eval e X.env) :: starEach [e2] X.env := by rfl) (hpl : (backTo pos (starEach [e2] X.env)).any (·.1) = false := by rfl) : FI X E (.Tuple elts kk tpos) (.Call (.Name "zip" p) [e, e2] [] pos) (iZp fa) :=
  pi_imp (RZ.pi_zipA hg hm ha hs hpl) fun σ H Rk ⟨G, pn, F, Γ, R, h⟩ => by
  refine ⟨G, pn, F, Γ, R, ?_⟩
  unfold iZp at h
  cases q : fa Γ with
  | bad => rw [q] at h; exact h.elim
  | exc x => rw [q] at h; exact h
  | ok p =>
    obtain ⟨rvs, Γ1⟩ := p
    rw [q] at h
    simp only [Rs.bind_ok] at h
    intro vs F1 H1 A1 R1 rall
    split at h
    · rename_i r1 r2
      obtain ⟨v, vs, rfl, w1, rall⟩ := rall.uncons
      obtain ⟨u, us, rfl, w2, rall⟩ := rall.uncons
      obtain rfl : us = [] := by cases rall; rfl
      have rv : ∀ {r : RV} {v : V}, ((∃ d, r = .d d ∧ Rp X.K F1 v d) ∨ ∃ i, r = .sl i ∧ σ[i]? = some (some v)) → RvR X.K G F1 H1 Γ1 σ v r ∧ r.still = true := fun {r v} z => by
        rcases z with ⟨d, rfl, h⟩ | ⟨i, rfl, h⟩
        · exact ⟨h, rfl⟩
        · exact ⟨h, rfl⟩
      split at h
      · rename_i xs ys e1 e2
        obtain ⟨a, ws, rfl, h1, h2, h3⟩ := rv_tup R1 (rv w1).1 e1
        obtain ⟨b, zs, rfl, k1, k2, k3⟩ := rv_tup R1 (rv w2).1 e2
        exact ⟨a, b, ws, zs, rfl, .inr ⟨h1, k1, h _ F1 H1 G A1 R1 rfl (walkD_zip walk_zipT (fun H' s => ⟨sqT_same s.2 h3, sqT_same s.2 k3⟩) h2 k2 rfl)⟩⟩
      · split at h
        · rename_i xs l1 ys l2 q1 q2
          split at h
          · rename_i lk ql
            obtain ⟨a, ws, G2, rfl, hs, lkr, wd, ra, hall⟩ := itemsL_ok R1 (rv w1).1 (rv w1).2 q1
            obtain ⟨b, zs, G3, rfl, hs', lkr', wd', ra', hall'⟩ := itemsL_ok R1 (rv w2).1 (rv w2).2 q2
            have go : ∀ G4, Same G2 G4 → Same G3 G4 → LkR X.K G G4 F1 H1 Γ1 σ lk → Rk (Itz X.K a b) H1 := fun G4 s1 s2 lk4 =>
              h _ F1 H1 G4 A1 R1 lk4 (walkD_zip walk_zip (fun H' s => ⟨hall H' ⟨s1.trans s.1, s.2⟩, hall' H' ⟨s2.trans s.1, s.2⟩⟩) ra ra' rfl)
            refine ⟨a, b, ws, zs, rfl, .inl ⟨hs, hs', ?_⟩⟩
            have up : ∀ {i : Nat} {G5 : Hp}, LkR X.K G G5 F1 H1 Γ1 σ (some i) → Same G G5 := fun {i G5} ⟨a, vs, ys, e, _, _, _, _, _, ga⟩ => by
              subst e
              exact fun b o q => by rw [upd_ne (ne_of_none q ga)]; exact q
            cases l1 with
            | none =>
              obtain rfl : G2 = G := lkr
              have ql' : some l2 = some lk := ql
              cases ql'
              cases l2 with
              | none => exact go G3 (by obtain rfl : G3 = G2 := lkr'; exact Same.refl _) (Same.refl _) lkr'
              | some i => exact go G3 (up lkr') (Same.refl _) lkr'
            | some i =>
              cases l2 with
              | none =>
                obtain rfl : G3 = G := lkr'
                have ql' : some (some i) = some lk := ql
                cases ql'
                exact go G2 (Same.refl _) (up lkr) lkr
              | some j => cases ql
          · exact h.elim
        · exact h.elim
    · exact h.elim
/-- over a list or a tuple, as it comes -/
def iAny (f : FnE) : FnI := fun Γ => (eOp f Γ).bind fun p => match p.1.get p.2 with
  | some (.tuple xs) => .ok (xs, none, p.2)
  | _ => match itemsL p.1 p.2 with
    | some (xs, lk) => .ok (xs, lk, p.2)
    | none => .bad
theorem fi_any {tg : Expr} {fe : FnE} (he : FE X E e fe) : FI X E tg e (iAny fe) := pi_imp (pi_or (fi_list he) (fi_tup he)) fun σ H Rk ⟨G, pn, F, Γ, R, h⟩ => by
  unfold iAny at h
  cases q : eOp fe Γ with
  | bad => rw [q] at h; exact h.elim
  | exc x => rw [q] at h; exact .inl ⟨G, pn, F, Γ, R, by unfold iL; rw [q]; exact h⟩
  | ok p =>
    obtain ⟨rv, Γ1⟩ := p
    rw [q] at h
    simp only [Rs.bind_ok] at h
    split at h
    · rename_i xs e1
      refine .inr ⟨G, pn, F, Γ, R, ?_⟩
      unfold iT
      rw [q]
      simp only [Rs.bind_ok]
      rw [e1]
      exact h
    · refine .inl ⟨G, pn, F, Γ, R, ?_⟩
      unfold iL
      rw [q]
      exact h
end
end FL

/-! FQ: a law's facts in bundles. -/
namespace FL
open PySem PySem.Spec L2

abbrev vErr : List Value := [.type "ValueError", .type "Exception", .type "BaseException", .type "object"]
/-- an error class of the text, without an init of its own -/
structure Erc (K : Frag) (mg : Str → Option Value) (x : Str) : Prop where
  ex : ∃ C : Addr, PySem.W.excIn K C vErr "ValueError.__new__" = true ∧ mg x = some (.ref C) ∧ PySem.W.keepIn K (.ref C) = true ∧ PySem.W.subIn K (.ref C) (.type "BaseException") = some true ∧ PySem.W.typeIn K (.ref C) = some (.type "type")
theorem erc_mk {K : Frag} {h : Heap} {mg : Str → Option Value} {x : Str} {C : Addr} (X : K.In h) (G : h.Ns mainGlobals mg) (a : PySem.W.nsIn K mainGlobals x = some (some (.ref C))) (b : PySem.W.excIn K C vErr "ValueError.__new__" = true) (c : PySem.W.keepIn K (.ref C) = true)
    (d : PySem.W.subIn K (.ref C) (.type "BaseException") = some true) (e : PySem.W.typeIn K (.ref C) = some (.type "type")) : Erc K mg x := ⟨C, b, PySem.W.mg_of X G a, c, d, e⟩
/-- a def of the text, ready to be called -/
structure Clb (P : Program) (w : World) (K : Frag) (mg : Str → Option Value) (base : Heap) (k : Nat) (x : Str) (n : Nat) (run : FnR) : Prop where
  ex : ∃ (f : Addr) (fd : FuncData) (ps : List Str), Kp P w K mg base k f fd ps run ∧ mg x = some (.ref f) ∧ PySem.W.keepIn K (.ref f) = true ∧ Binds K fd ps [] ∧ ps.length = n
/-- a def's text where it lies -/
structure Tx (K : Frag) (mg : Str → Option Value) (x : Str) (st : Stmt) (ps : List Str) : Prop where
  ex : ∃ (f : Addr) (fd : FuncData), Fun K x x st f fd ∧ mg x = some (.ref f) ∧ Binds K fd ps []
theorem tx_mk {K : Frag} {h : Heap} {mg : Str → Option Value} {x : Str} {st : Stmt} {f : Addr} {oc : Value} {od an : Option Addr} {osl : Array (Option Value)} {kV doc pm cdv ct : Value} {ps : List Str} (X : K.In h) (G : h.Ns mainGlobals mg)
    (a : PySem.W.nsIn K mainGlobals x = some (some (.ref f))) (l : K.lookup f = some ⟨oc, od, .func (PySem.W.fnOf x x (defArgs st) (defBody st) (defScope st) .none kV doc pm an cdv ct), osl⟩) (c : PySem.W.codeIn K cdv x = true) (k : PySem.W.keepIn K (.ref f) = true)
    (hb : ∀ (kV doc pm : Value) (an : Option Addr) (cdv ct : Value) (us : List Value), us.length = ps.length → bindArgs (PySem.W.fnOf x x (defArgs st) (defBody st) (defScope st) .none kV doc pm an cdv ct) ⟨us, []⟩ = pure (ps.zip us)) : Tx K mg x st ps :=
  ⟨f, _, fun_mk l c k, PySem.W.mg_of X G a, (fun_mk l c k).binds hb⟩
/-- the context of a def's body -/
abbrev bX (P : Program) (w : World) (K : Frag) (mg : Str → Option Value) (base : Heap) (N : List Str) (x : Str) (st : Stmt) (f : Addr) (cdv : Value) (A : Around) (outer : List Env) (s : Shared) (H : Hp) (Ex : XK) : Cx :=
  cxOf (L2.CX P w) P w K mg base N x (defScope st) f cdv A outer s H Ex
abbrev bE (Ex : XK) : WX := fun c d _ H => Ex c d H
section
variable {P : Program} {w : World} {K : Frag} {mg : Str → Option Value} {base : Heap}
theorem clb_of {x : Str} {st : Stmt} {N ps : List Str} {k n : Nat} {fb : FnS} (T : Tx K mg x st ps) (S : FnScope N ps (defScope st)) (hn : ps.length = n)
    (body : ∀ (f : Addr) (cdv : Value) (A : Around) (outer : List Env) (s : Shared) (H : Hp) (Ex : XK), Cok (bX P w K mg base N x st f cdv A outer s H Ex) (bE Ex) k → Takes (bX P w K mg base N x st f cdv A outer s H Ex) (bE Ex) →
      PassesOwn (model P w) (bX P w K mg base N x st f cdv A outer s H Ex).A (bX P w K mg base N x st f cdv A outer s H Ex).env (bX P w K mg base N x st f cdv A outer s H Ex).xe → FSs (bX P w K mg base N x st f cdv A outer s H Ex) (bE Ex) (defBody st) fb) : Clb P w K mg base (k + 1) x n (runBody N.length fb) := by
  obtain ⟨f, fd, F, hm, hb⟩ := T.ex
  refine ⟨f, fd, ps, kp_of F S fun cdv A outer s H Ex room gd => ?_, hm, F.kp, hb, hn⟩
  have tk : Takes (bX P w K mg base N x st f cdv A outer s H Ex) (bE Ex) := takes_of rfl rfl rfl rfl
  exact body f cdv A outer s H Ex ⟨rfl, room, gd, fun σ => passAt tk σ⟩ tk (passes_of rfl)
end
section
variable {X : Cx} {E : WX} {k j n : Nat} {x : Str} {run : FnR} {e : Expr} {es : List Expr} {p pos : Pos} {fa : FnA}
theorem fe_callC (F : Clb X.prog X.w X.K X.mg X.base j x n run) (c : Cok X E k) (hj : j ≤ k) (hg : Gl X x) (io : Option Nat) (ha : FA X E (e :: es) fa)
    (hdb : (x == ("__debug__" : Str)) = false := by decide) (he : starEach (e :: es) X.env = (false, eval e X.env) :: starEach es X.env := by rfl) (hpl : (backTo pos (starEach es X.env)).any (·.1) = false := by rfl) :
    FE X E (.Call (.Name x p) (e :: es) [] pos) (eCall run n io fa) := by
  obtain ⟨f, fd, ps, K0, hm, hk, hb, rfl⟩ := F.ex
  exact fe_call (K0.up hj) c hg hm hk hb io ha hdb he hpl
theorem fs_raiseC {m : Str} {j : Nat} {p2 p3 : Pos} (hc : X.calm = true) (tk : Takes X E) (e : Erc X.K X.mg x) (hg : Gl X x) (hdb : (x == ("__debug__" : Str)) = false := by decide) :
    FS X E (.Raise (some (.Call (.Name x p) [.Constant (.str m) j p2] [] p3)) none pos) (sRaise x) := by
  obtain ⟨C, h1, h2, h3, h4, h5⟩ := e.ex
  exact fs_raise hc tk PySem.F.excBase_ValueError h1 h2 h3 (raises_own h4 h5) hg hdb
theorem cok_blk {s : Shared} {H : Hp} {scope : Scope} {cenv : Env} {fp : List Addr} (c : Cok X E k) : Cok (X.blk s H scope cenv fp) EN k :=
  ⟨c.calm, c.room, c.gd, fun σ pins H s e s' I z => by
    obtain ⟨_, _, _, _, _, _, _, _, _, _, _, _, q⟩ := z
    exact q.elim⟩
theorem Cok.u64 (c : Cok X E k) : X.A.units + 64 < cLine := by have := c.room.un; omega
theorem Cok.u65 (c : Cok X E k) : X.A.units + 65 < cLine := by have := c.room.un; omega
theorem fe_cint {i : Int} {t : Tok} (hg : Gl X x) (hm : X.mg x = some (.int i t)) (hd : (x == ("__debug__" : Str)) = false := by decide) : FE X E (.Name x pos) (eC (.int i)) :=
  fe_glob hg hm (v := .int i) ⟨t, rfl⟩ (fun F => .int i) hd
theorem fe_cstr {z : Str} {t : Tok} (hg : Gl X x) (hm : X.mg x = some (.str z t)) (hd : (x == ("__debug__" : Str)) = false := by decide) : FE X E (.Name x pos) (eC (.str z)) :=
  fe_glob hg hm (v := .str z) ⟨t, rfl⟩ (fun F => .str z) hd
end
end FL

/-! FT: the law itself. -/
namespace FL
open PySem PySem.Spec L2
open PyProof.Rows (AllBare IntsAre)

/-- what the law's def leaves -/
def Told (s1 : Shared) (r : Except Value Flow) (s' : Shared) : Prop := r = .ok (.ret (.bool true)) ∧ OldK s1.heap s'.heap ∧ s'.os = s1.os ∧ AllBare s'.gens
/-- the script in an abstract heap where nothing else is shown -/
structure Lone (K : Frag) (H : Hp) (a : Addr) (ns : List Int) : Prop where
  only : ∀ b o, H b = some o → b = a ∧ ∃ z, o = .frz z (.lst (ns.map V.int))
  has : SqS K H a (ns.map V.int)
theorem told_of {P : Program} {w : World} {K : Frag} {mg mb : Str → Option Value} {k : Nat} {fa a : Addr} {x : Str} {run : FnR} {s1 : Shared} {ns : List Int} {H : Hp} {outs : Ga} {oa : Obj}
    (hL : Lone K H a ns) (hok : HOk P w H s1.heap) (hno : H a ≠ none → K.lookup a = none) (hob : s1.heap.get? a = some oa) (hnd : ∀ es ep, oa.data ≠ .dict es ep)
    (KX : K.In s1.heap) (hns : s1.heap.Ns mainGlobals mg) (hb : s1.heap.Ns builtinsNs mb) (hbb : ∀ x : Str, x ≠ "__name__" → mb x = bootBuiltins x) (hlim : s1.heap.NoLimit) (hg : s1.gens = #[]) (hr : Room k callerA)
    (hfa : mg x = some (.ref fa)) (F : ∀ base : Heap, Clb P w K mg base k x 1 run)
    (ht : run [.scr ns] = .ok (.bool true) outs) : codeAny (model P w) callerA (.call (.ref fa) ⟨[.ref a], []⟩) (Told s1) s1 := by
  have out : ∀ {b : Addr} {o : Obj}, s1.heap.get? b = some o → H b = none → (hidT s1.heap H).get? b = some o := fun e n => hidT_get e n
  have nod : ∀ {b : Addr} {o : Obj} {es : Array DictEntry} {ep : Nat}, s1.heap.get? b = some o → o.data = .dict es ep → H b = none := fun {b o es ep} e z => by
    cases q : H b with
    | none => rfl
    | some u =>
      obtain ⟨rfl, _⟩ := hL.only b u q
      rw [hob] at e
      cases e
      exact (hnd _ _ z).elim
  have nss : ∀ {b : Addr} {m : Str → Option Value}, s1.heap.Ns b m → (hidT s1.heap H).Ns b m := fun {b m} ⟨o, es, ep, e, z, r⟩ => ⟨o, es, ep, out e (nod e z), z, r⟩
  have kin : K.In (hidT s1.heap H) := fun b o e => out (KX b o e) (by
    cases q : H b with
    | none => rfl
    | some u =>
      obtain ⟨rfl, _⟩ := hL.only b u q
      have := hno (by rw [q]; simp)
      rw [e] at this
      cases this)
  have md : Mod K mg (hidT s1.heap H) := ⟨kin, nss hns, ⟨mb, nss hb, hbb⟩, let ⟨mc, h1, h2⟩ := hlim; ⟨mc, nss h1, h2⟩⟩
  have en : Env0 P w K mg (hidT s1.heap H) callerA [] s1 H := ⟨rfl, md, fun b o e => of_hidT e, Nat.le_of_eq (hidT_size _ _), trivial, fun b z => absurd (show b ∈ ([] : List Addr) from z) (by simp), hok, .of_eq hg⟩
  have rep : Rep K (fun _ => none) [] ([Sl.scr ns].map some) ([V.ref a].map some) H H := {
    fh := fun _ _ z => z
    gh := fun _ _ z => by cases z
    sl := fun i s e => by
      cases i with
      | zero => cases e; exact ⟨.ref a, rfl, a, rfl, hL.has⟩
      | succ i => simp at e
    ap := fun i j si sj b e1 e2 o1 => by
      cases i with
      | zero => cases e1; cases o1
      | succ i => simp at e1
    lkp := fun i zs e => by
      cases i with
      | zero => cases e
      | succ i => simp at e
    pn := fun p hp => by cases hp
    len := rfl }
  have want : spF K mg run 1 [.ref a] H (fun v H' => v = .bl true ∧ Same H H') (fun _ _ _ => False) := by
    refine ⟨rfl, fun _ => none, [], H, [.scr ns], rep, fun p hp => absurd hp (by simp), ?_⟩
    rw [ht]
    intro v F' H' A1 S1 S2 rp _
    cases rp
    exact ⟨rfl, A1.1.trans S1⟩
  obtain ⟨f, fd, ps, kp, hm, _, hb1, hps⟩ := (F (hidT s1.heap H)).ex
  obtain rfl : fa = f := by
    have e := hfa.symm.trans hm
    cases e
    rfl
  rw [← hps] at want
  have bd := hb1 s1 [.ref a] KX (by rw [hps]; rfl)
  rw [List.append_nil] at bd
  refine codeAny_mono (kp.go callerA [] s1 H ⟨[.ref a], []⟩ [.ref a] [.ref a] _ _ hr rfl en bd (.cons rfl .nil) want) fun r s' h => ?_
  rcases r with e | fl
  · obtain ⟨_, _, _, _, _, _, _, _, _, _, _, _, z⟩ := h
    exact z.elim
  · cases fl with
    | next => exact False.elim h
    | brk => exact False.elim h
    | cont => exact False.elim h
    | ret u =>
      obtain ⟨v, H', os, bare, un, hok', r', rfl, sm⟩ := h
      obtain rfl : u = Value.bool true := r'
      refine ⟨rfl, OldK.of_keep fun b o e => ?_, os, bare⟩
      cases q : H b with
      | none => exact un.keep b o e q (fun z => by cases z) (by simp)
      | some u =>
        obtain ⟨_, z, rfl⟩ := hL.only b u q
        have e1 := (hok b _ q).1
        have e2 := (hok' b _ (sm b _ q)).1
        rw [e] at e1
        cases e1
        exact e2
theorem law_toldF {P : Program} {w : World} {K : Frag} {mg mb : Str → Option Value} {k : Nat} {fa a : Addr} {x : Str} {run : FnR} {s1 : Shared} {vs : List Value} {ns : List Int} {outs : Ga}
    (KX : K.In s1.heap) (hns : s1.heap.Ns mainGlobals mg) (hb : s1.heap.Ns builtinsNs mb) (hbb : ∀ x : Str, x ≠ "__name__" → mb x = bootBuiltins x) (hlim : s1.heap.NoLimit) (hg : s1.gens = #[])
    (hob : s1.heap.get? a = some { cls := .type "list", data := .seq vs.toArray }) (hi : IntsAre vs ns) (hl : ns.length ≤ sizeLine) (hr : Room k callerA)
    (hfa : mg x = some (.ref fa)) (F : ∀ base : Heap, Clb P w K mg base k x 1 run)
    (ht : run [.scr ns] = .ok (.bool true) outs) : codeAny (model P w) callerA (.call (.ref fa) ⟨[.ref a], []⟩) (Told s1) s1 := by
  have rv := vals_ints hi
  have nd : ∀ es ep, ({ cls := .type "list", data := .seq vs.toArray } : Obj).data ≠ .dict es ep := fun es ep z => by cases z
  cases hk : K.lookup a with
  | some o =>
    have e := KX a o hk
    rw [hob] at e
    cases e
    have no : ∀ (b : Addr) (u : HO), (fun _ => none : Hp) b = some u → False := fun b u z => by cases z
    refine told_of (H := fun _ => none) ⟨fun b u z => (no b u z).elim, .inr (.inr ⟨_, vs.toArray, _, hk, rfl, rfl, rfl, by rw [List.size_toArray, hi.length]; exact hl, by simpa using rv⟩)⟩ (fun b u z => (no b u z).elim) (fun z => absurd rfl z) hob nd KX hns hb hbb hlim hg hr hfa F ht
  | none =>
    obtain ⟨H, hH⟩ : ∃ H : Hp, H = upd (fun _ => none) a (.frz { cls := .type "list", data := .seq vs.toArray } (.lst (ns.map V.int))) := ⟨_, rfl⟩
    have hA : H a = some (.frz { cls := .type "list", data := .seq vs.toArray } (.lst (ns.map V.int))) := by rw [hH]; exact upd_same
    have hO : ∀ b o, H b = some o → b = a ∧ o = .frz { cls := .type "list", data := .seq vs.toArray } (.lst (ns.map V.int)) := fun b o e => by
      by_cases z : b = a
      · subst z; rw [hA] at e; exact ⟨rfl, (Option.some.inj e).symm⟩
      · rw [hH, upd_ne z] at e; cases e
    refine told_of (H := H) ⟨fun b o e => ⟨(hO b o e).1, _, (hO b o e).2⟩, .inl ⟨_, hA⟩⟩ (fun b o e => ?_) (fun _ => hk) hob nd KX hns hb hbb hlim hg hr hfa F ht
    obtain ⟨rfl, rfl⟩ := hO b o e
    exact ⟨hob, by rw [List.length_map]; exact hl, vs, _, rv, hob⟩

/-- the head's goal, from what the law's def is worth -/
theorem walkF {l : PySem.W.OpenLaw} {n k : Nat} {q : Program} {loose : List Str} {XP : (Str → Option Value) → Heap → Prop} {YP : World → Heap → Prop} {d : DefRec} {KK : Params → Frag} {run : FnR}
    (hn : l.most = some n) (hn2 : n ≤ sizeLine) (hdf : d.params.defaults = []) (hr : Room k callerA) (hY : ∀ (w : World) (h : Heap), YP w h → (KK w.params).In h)
    (F : ∀ (w : World) (mg : Str → Option Value) (h : Heap), (KK w.params).In h → h.Ns mainGlobals mg → ∀ base : Heap, Clb l.prog w (KK w.params) mg base k d.name 1 run)
    (ht : ∀ ns : List Int, ns.length ≤ n → (∀ z ∈ ns, Builtin.Int.intBits z ≤ 1048576) → ∃ outs, run [.scr ns] = .ok (.bool true) outs) :
    PySem.W.WalkO q loose XP YP l.row.toRowW d [] (fun f vs => PySem.call f vs) := by
  refine Att.attach_callB hn hdf fun w s0 s1 mg mb fa o pm cd doc a vs ns G Y ho hd hcd hmg hob hi hlen hbits hg => ?_
  have KX := hY w _ Y
  obtain ⟨outs, e⟩ := ht ns hlen hbits
  exact law_toldF KX G.T.g G.T.b G.T.builtins G.T.nolimit hg hob hi (Nat.le_trans hlen hn2) hr hmg (F w mg _ KX G.T.g) e
end FL

/-! FR: texts compared; repr. -/
namespace FL
open PySem PySem.Spec L2
def eqS : D → D → Option Bool
  | .str a, .str b => some (decide (a = b))
  | x, y => eqD x y
def neS (x y : D) : Option Bool := (eqS x y).map (!·)
section
variable {X : Cx}
theorem eqS_of {x y : D} {z : Bool} (h : eqS x y = some z) : (∃ a b, x = .str a ∧ y = .str b ∧ z = decide (a = b)) ∨ eqD x y = some z := by
  unfold eqS at h
  split at h
  · cases h; exact .inl ⟨_, _, rfl, rfl, rfl⟩
  · exact .inr h
theorem dec_st {a b : Str} : decide (V.str a = V.str b) = decide (a = b) := by simp
theorem cf_eqS (hu : X.A.units + 64 < cLine) : CmpF X .Eq eqS (fun x y H Q => rEq x y H Q ∨ rEqD X.K x y H Q) := ⟨op_eq.or (op_eqD hu), fun K eK H x y d e z Q h1 h2 f q => by
  rcases eqS_of f with ⟨a, b, rfl, rfl, rfl⟩ | f
  · cases h1
    cases h2
    exact .inl ⟨rfl, by rw [dec_st]; exact q⟩
  · exact .inr ((cf_eq hu).2 K eK H x y d e z Q h1 h2 f q)⟩
theorem cf_neS (hu : X.A.units + 64 < cLine) : CmpF X .NotEq neS (fun x y H Q => rNe x y H Q ∨ rNeD X.K x y H Q) := ⟨op_ne.or (op_neD hu), fun K eK H x y d e z Q h1 h2 f q => by
  unfold neS at f
  cases g : eqS d e with
  | none => rw [g] at f; cases f
  | some w =>
    rw [g] at f
    cases f
    rcases eqS_of g with ⟨a, b, rfl, rfl, rfl⟩ | g
    · cases h1
      cases h2
      exact .inl ⟨rfl, by rw [dec_st]; exact q⟩
    · exact .inr ((cf_ne hu).2 K eK H x y d e _ Q h1 h2 (by unfold neD; rw [g]; rfl) q)⟩
def shwOk (d : D) : Bool := PyData.showable d && !PyData.hasDict d && decide (PyData.depth d ≤ 100) && decide ((PyData.shown d).length ≤ lim)
def reprD : D → Option D
  | .none => some (.str "None")
  | .int i => if i.natAbs.log2 < 1920 then some (.str (toString i)) else none
  | .list xs => if shwOk (.list xs) then some (.str (PyData.shown (.list xs))) else none
  | .tuple xs => if shwOk (.tuple xs) then some (.str (PyData.shown (.tuple xs))) else none
  | _ => none
def rRepr (K : Frag) : List V → Hp → VK → Prop := fun xs H Q => ∃ v d t, xs = [v] ∧ Dp K H v d ∧ reprD d = some (.str t) ∧ Q (.str t) H
theorem call_reprF {E : WX} {k : Nat} (c : Cok X E k) : CallR X (.builtin "repr") (rRepr X.K) := by
  intro pins s σ H xs us Q I r h
  obtain ⟨v, d, t, rfl, hd, e, q⟩ := h
  have hu : X.A.units + 200 < cLine := by have := c.room.un; omega
  cases r with
  | cons rx rr =>
    rename_i u us'
    cases rr
    obtain ⟨as, rd⟩ := Dp.reads I d v u hd rx
    have big : ∀ (a : Addr), u = .ref a → shwOk d = true → wpAny (model X.prog X.w) X.A (call (.builtin "repr") [u]) (fun w s1 => ∃ tk, w = .str d.shown tk ∧ Inv X pins σ H s1) X.xe s := fun a eu ok => by
      subst eu
      unfold shwOk at ok
      simp only [Bool.and_eq_true, Bool.not_eq_true', decide_eq_true_eq] at ok
      obtain ⟨⟨⟨h1, h2⟩, h3⟩, h4⟩ := ok
      exact PySem.repr_of_reads' rd h1 (PyData.noDict_hsm h2) c.gd (by omega) (fun _ _ e => e) (fun h' u tk hk => ⟨u, rfl, I.kept (t' := tk) hk⟩) (by rw [lim_eq]; exact h4)
    cases hd with
    | non =>
      cases rx
      cases e
      exact PySem.P.repr_of_none ⟨.str _, H, I.tok _, ⟨_, rfl⟩, q⟩
    | bl b => cases e
    | int i =>
      obtain ⟨tk, rfl⟩ := rx
      replace e : (if i.natAbs.log2 < 1920 then some (PyData.str (toString i)) else none) = some (.str t) := e
      split at e
      · rename_i hz
        cases e
        exact PySem.P.repr_of_int hz ⟨.str _, H, I.tok _, ⟨_, rfl⟩, q⟩
      · cases e
    | str x => cases e
    | @lst a xs ds h1 h2 =>
      cases rx
      replace e : (if shwOk (.list ds) then some (PyData.str (PyData.shown (.list ds))) else none) = some (.str t) := e
      split at e
      · rename_i ok
        cases e
        exact wpAny_mono (big _ rfl ok) (fun w s1 ⟨tk, e, J⟩ => by subst e; exact ⟨.str _, H, J, ⟨_, rfl⟩, q⟩) fun _ _ x => x
      · cases e
    | @tup a xs ds h1 h2 =>
      cases rx
      replace e : (if shwOk (.tuple ds) then some (PyData.str (PyData.shown (.tuple ds))) else none) = some (.str t) := e
      split at e
      · rename_i ok
        cases e
        exact wpAny_mono (big _ rfl ok) (fun w s1 ⟨tk, e, J⟩ => by subst e; exact ⟨.str _, H, J, ⟨_, rfl⟩, q⟩) fun _ _ x => x
      · cases e
variable {E : WX} {f : FnE} {p pos : Pos} {e : Expr} {k : Nat}
theorem repr_str {d z : D} (h : reprD d = some z) : ∃ t, z = .str t := by
  unfold reprD at h
  split at h
  · cases h; exact ⟨_, rfl⟩
  · split at h
    · cases h; exact ⟨_, rfl⟩
    · cases h
  · split at h
    · cases h; exact ⟨_, rfl⟩
    · cases h
  · split at h
    · cases h; exact ⟨_, rfl⟩
    · cases h
  · cases h
theorem fe_repr (c : Cok X E k) (hg : Gl X "repr") (hm : X.mg "repr" = none) (he : FE X E e f) (hs : starEach [e] X.env = [(false, eval e X.env)] := by rfl) : FE X E (.Call (.Name "repr" p) [e] [] pos) (eUn (g1 reprD) f) :=
  fe_b1 (call_reprF c) hg hm (by decide +kernel) he (fun G pn F Γ σ H v ra Q R r h => by
    obtain ⟨d, z, q1, q3, h⟩ := post_g1 h
    obtain ⟨t, rfl⟩ := repr_str q3
    exact ⟨v, d, t, rfl, rv_get R r q1, q3, post_d R h (.str _)⟩) (hs := hs)
end
end FL

/-! FU: readings evaluated step by step. -/
namespace FL
open PySem PySem.Spec L2

def opK : RV × Ga → Rs (RV × Ga) | (r, Γ) => .ok (r.fz, Γ)
def getK : Option (Option Sl) → Option D
  | some (some s) => some s.data
  | _ => none
def varK (i : Nat) (Γ : Ga) : Option (Option Sl) → Rs (RV × Ga)
  | some (some (.fz d)) => .ok (.d d, Γ)
  | some (some _) => .ok (.sl i, Γ)
  | _ => .bad
def resK (Γ : Ga) : Option D → Rs (RV × Ga)
  | some z => .ok (.d z, Γ)
  | none => .bad
def g2K (op : D → D → Option D) (Γ : Ga) : Option D → Option D → Rs (RV × Ga)
  | some x, some y => resK Γ (op x y)
  | _, _ => .bad
def g1K (op : D → Option D) (Γ : Ga) : Option D → Rs (RV × Ga)
  | some x => resK Γ (op x)
  | _ => .bad
def binK2 (g : RV → RV → Ga → Rs (RV × Ga)) (r : RV) : RV × Ga → Rs (RV × Ga) | (q, Γ) => g r q Γ
def binK (g : RV → RV → Ga → Rs (RV × Ga)) (fb : FnE) : RV × Ga → Rs (RV × Ga) | (r, Γ) => (eOp fb Γ).bind (binK2 g r)
def unK (g : RV → Ga → Rs (RV × Ga)) : RV × Ga → Rs (RV × Ga) | (r, Γ) => g r Γ
def tstK : RV × Ga → Rs (Bool × Ga)
  | (.d (.bool b), Γ) => .ok (b, Γ)
  | _ => .bad
def notK : Bool × Ga → Rs (Bool × Ga) | (b, Γ) => .ok (!b, Γ)
def andK (g : FnT) : Bool × Ga → Rs (Bool × Ga)
  | (true, Γ) => g Γ
  | (false, Γ) => .ok (false, Γ)
def orK (g : FnT) : Bool × Ga → Rs (Bool × Ga)
  | (true, Γ) => .ok (true, Γ)
  | (false, Γ) => g Γ
def eNotK : Bool × Ga → Rs (RV × Ga) | (b, Γ) => .ok (.d (.bool (!b)), Γ)
def eAndK (g : FnE) : Bool × Ga → Rs (RV × Ga)
  | (true, Γ) => g Γ
  | (false, Γ) => .ok (.d (.bool false), Γ)
def eOrK (g : FnE) : Bool × Ga → Rs (RV × Ga)
  | (true, Γ) => .ok (.d (.bool true), Γ)
  | (false, Γ) => g Γ
def eIfK (f g : FnE) : Bool × Ga → Rs (RV × Ga)
  | (true, Γ) => f Γ
  | (false, Γ) => g Γ
def consK2 (r : RV) : List RV × Ga → Rs (List RV × Ga) | (rs, Γ) => .ok (r :: rs, Γ)
def consK (g : FnA) : RV × Ga → Rs (List RV × Ga) | (r, Γ) => (g Γ).bind (consK2 r)
def tupK2 : Option (List D × Ga) → Rs (RV × Ga)
  | some (xs, Γ) => if xs.length ≤ lim then .ok (.d (.tuple xs), Γ) else .bad
  | none => .bad
def tupK : List RV × Ga → Rs (RV × Ga) | (rs, Γ) => tupK2 (rvsFz rs Γ)
def lstK2 : Option (List D × Ga) → Rs (RV × Ga)
  | some (xs, Γ) => if xs.length ≤ lim then .ok (.ow xs, Γ) else .bad
  | none => .bad
def lstK : List RV × Ga → Rs (RV × Ga) | (rs, Γ) => lstK2 (rvsFz rs Γ)
def fzK (i : Nat) (Γ : Ga) : Option (Option Sl) → Option (D × Ga)
  | some (some (.ow xs)) => some (.list xs, Γ.set i (some (.fz (.list xs))))
  | some (some (.fz d)) => some (d, Γ)
  | _ => none
def fzsK2 (x : D) : Option (List D × Ga) → Option (List D × Ga)
  | some (xs, Γ) => some (x :: xs, Γ)
  | none => none
def fzsK (rs : List RV) : Option (D × Ga) → Option (List D × Ga)
  | some (x, Γ) => fzsK2 x (rvsFz rs Γ)
  | none => none
def SR.then (g : FnS) : SR → SR
  | .nx Γ => g Γ
  | r => r
def asgK2 : Option Ga → SR
  | some Γ => .nx Γ
  | none => .bad
def asgK (g : FnG) : RV × Ga → SR | (r, Γ) => asgK2 (g r Γ)
def exK : RV × Ga → SR | (_, Γ) => .nx Γ
def retK2 : Option (D × Ga) → SR
  | some (d, Γ) => .ret d Γ
  | none => .bad
def retK : RV × Ga → SR | (r, Γ) => retK2 (rvFz Γ r)
def sIfK (f g : FnS) : Bool × Ga → SR
  | (true, Γ) => f Γ
  | (false, Γ) => g Γ
def putK (i : Nat) (s : Sl) (Γ : Ga) : Bool → Option Ga
  | true => some (Γ.set i (some s))
  | false => none
def gNK (i : Nat) : Option (D × Ga) → Option Ga
  | some (d, Γ) => putK i (.fz d) Γ (freeAt Γ i)
  | none => none
def freeK : Option (Option Sl) → Bool
  | some (some s) => !s.pinned
  | some none => true
  | none => false
def parK3 (i j : Nat) (x y : D) (Γ : Ga) : Bool → SR
  | true => .nx ((Γ.set i (some (.fz x))).set j (some (.fz y)))
  | false => .bad
def parK2 (i j : Nat) : Option (List D × Ga) → SR
  | some ([x, y], Γ1) => parK3 i j x y Γ1 (freeAt Γ1 i && freeAt Γ1 j)
  | _ => .bad
def parK (i j : Nat) : List RV × Ga → SR | (rs, Γ) => parK2 i j (rvsFz rs Γ)
def gcK (gs : FnGs) (r : List D) : Option Ga → Option Ga
  | some Γ => gs r Γ
  | none => none
def writeK (i : Nat) (Γ : Ga) (f : List D → Option (List D)) : Option (Option Sl) → Option Ga
  | some (some (.ow xs)) => (f xs).map fun ys => Γ.set i (some (.ow ys))
  | some (some (.io xs)) => (f xs).map fun ys => Γ.set i (some (.io ys))
  | _ => none
def setK3 (i : Nat) (k : Int) : Option (D × Ga) → SR
  | some (x, Γ2) => asgK2 (slWrite Γ2 i fun xs => (ixN xs.length k).map fun j => xs.set j x)
  | none => .bad
def setK2 (i : Nat) (r : RV) : RV × Ga → SR
  | (.d (.int k), Γ) => setK3 i k (rvFz Γ r)
  | _ => .bad
def setK1 (i : Nat) (fk : FnE) (r : RV) (Γ : Ga) : Bool → SR
  | true => (fk Γ).toS (setK2 i r)
  | false => .bad
def setK (i : Nat) (fk : FnE) : RV × Ga → SR | (r, Γ) => setK1 i fk r Γ (hasAt Γ i)
def hasK : Option (Option Sl) → Bool
  | some (some _) => true
  | _ => false
def ownK : Option (Option Sl) → Bool
  | some (some (.ow _)) => true
  | some (some (.io _)) => true
  | _ => false
def metK2 (out : Ga → RV → Rs (RV × Ga)) : RV × Ga → Rs (RV × Ga) | (r, Γ) => out Γ r
def metK (fe : FnE) (out : Ga → RV → Rs (RV × Ga)) (Γ : Ga) : Bool → Rs (RV × Ga)
  | true => (eOp fe Γ).bind (metK2 out)
  | false => .bad
def nonK : Option Ga → Rs (RV × Ga)
  | some Γ => .ok (.d .none, Γ)
  | none => .bad
def appK (i : Nat) : Option (D × Ga) → Rs (RV × Ga)
  | some (x, Γ1) => nonK (slWrite Γ1 i fun xs => if xs.length < lim then some (xs ++ [x]) else none)
  | none => .bad
section
variable {Γ : Ga} {fa fb f : FnE} {ga : FnA} {ft gt : FnT} {fs gs : FnS} {i j : Nat} {r a b : RV} {rs : List RV}
@[simp] theorem eC_ap {x : D} : eC x Γ = .ok (.d x, Γ) := rfl
@[simp] theorem eVar_ap : eVar i Γ = varK i Γ Γ[i]? := by
  unfold eVar
  rcases Γ[i]? with _ | _ | s
  · rfl
  · rfl
  · cases s <;> rfl
@[simp] theorem eOp_ap : eOp f Γ = (f Γ).bind opK := by
  unfold eOp
  cases f Γ with
  | ok p => obtain ⟨r, Γ'⟩ := p; rfl
  | _ => rfl
@[simp] theorem eBin_ap {g : RV → RV → Ga → Rs (RV × Ga)} : eBin g fa fb Γ = (eOp fa Γ).bind (binK g fb) := by
  unfold eBin
  cases eOp fa Γ with
  | ok p => obtain ⟨r, Γ'⟩ := p; rfl
  | _ => rfl
@[simp] theorem eUn_ap {g : RV → Ga → Rs (RV × Ga)} : eUn g fa Γ = (eOp fa Γ).bind (unK g) := rfl
@[simp] theorem get_sl : RV.get Γ (.sl i) = getK Γ[i]? := by
  show (match Γ[i]? with | some (some s) => some s.data | _ => none) = _
  rcases Γ[i]? with _ | _ | s <;> rfl
@[simp] theorem g2_ap {op : D → D → Option D} : g2 op a b Γ = g2K op Γ (a.get Γ) (b.get Γ) := by
  unfold g2
  rcases a.get Γ with _ | x <;> rcases b.get Γ with _ | y
  · rfl
  · rfl
  · rfl
  · dsimp only [g2K]
    cases op x y <;> rfl
@[simp] theorem g1_ap {op : D → Option D} : g1 op a Γ = g1K op Γ (a.get Γ) := by
  unfold g1
  rcases a.get Γ with _ | x
  · rfl
  dsimp only [g1K]
  cases op x <;> rfl
@[simp] theorem gB_ap {op : D → D → Option Bool} : gB op a b Γ = g2K (fun x y => (op x y).map .bool) Γ (a.get Γ) (b.get Γ) := g2_ap
@[simp] theorem tst_ap : tst f Γ = (f Γ).bind tstK := by
  unfold tst
  rcases f Γ with ⟨r, Γ'⟩ | _ | _
  · cases r with
    | d x => cases x <;> rfl
    | _ => rfl
  · rfl
  · rfl
@[simp] theorem fNot_ap : fNot ft Γ = (ft Γ).bind notK := rfl
@[simp] theorem fAnd_ap : fAnd ft gt Γ = (ft Γ).bind (andK gt) := by
  unfold fAnd
  rcases ft Γ with ⟨_ | _, Γ'⟩ | _ | _ <;> rfl
@[simp] theorem fOr_ap : fOr ft gt Γ = (ft Γ).bind (orK gt) := by
  unfold fOr
  rcases ft Γ with ⟨_ | _, Γ'⟩ | _ | _ <;> rfl
@[simp] theorem eNot_ap : eNot f Γ = (tst f Γ).bind eNotK := rfl
@[simp] theorem eAnd_ap : eAnd f fb Γ = (tst f Γ).bind (eAndK fb) := by
  unfold eAnd
  rcases tst f Γ with ⟨_ | _, Γ'⟩ | _ | _ <;> rfl
@[simp] theorem eOr_ap : eOr f fb Γ = (tst f Γ).bind (eOrK fb) := by
  unfold eOr
  rcases tst f Γ with ⟨_ | _, Γ'⟩ | _ | _ <;> rfl
@[simp] theorem eIf_ap : eIf ft fa fb Γ = (ft Γ).bind (eIfK fa fb) := by
  unfold eIf
  rcases ft Γ with ⟨_ | _, Γ'⟩ | _ | _ <;> rfl
@[simp] theorem aNil_ap : aNil Γ = .ok ([], Γ) := rfl
@[simp] theorem aCons_ap : aCons f ga Γ = (eOp f Γ).bind (consK ga) := rfl
@[simp] theorem eTup_ap : eTup ga Γ = (ga Γ).bind tupK := by
  unfold eTup
  rcases ga Γ with ⟨rs, Γ'⟩ | _ | _ <;> try rfl
@[simp] theorem eLst_ap : eLst ga Γ = (ga Γ).bind lstK := by
  unfold eLst
  rcases ga Γ with ⟨rs, Γ'⟩ | _ | _ <;> try rfl
@[simp] theorem fz_d {x : D} : rvFz Γ (.d x) = some (x, Γ) := rfl
@[simp] theorem fz_ow {xs : List D} : rvFz Γ (.ow xs) = some (.list xs, Γ) := rfl
@[simp] theorem fz_sl : rvFz Γ (.sl i) = fzK i Γ Γ[i]? := by
  show (match Γ[i]? with
    | some (some (.ow xs)) => some (PyData.list xs, Γ.set i (some (.fz (.list xs))))
    | some (some (.fz d)) => some (d, Γ)
    | _ => none) = _
  rcases Γ[i]? with _ | _ | s
  · rfl
  · rfl
  · cases s <;> rfl
@[simp] theorem fzs_nil : rvsFz [] Γ = some ([], Γ) := rfl
@[simp] theorem fzs_cons : rvsFz (r :: rs) Γ = fzsK rs (rvFz Γ r) := by
  show (match rvFz Γ r with | some (x, Γ1) => (match rvsFz rs Γ1 with | some (xs, Γ2) => some (x :: xs, Γ2) | none => none) | none => none) = _
  rcases rvFz Γ r with _ | ⟨x, Γ1⟩
  · rfl
  · dsimp only [fzsK]
    rcases rvsFz rs Γ1 with _ | ⟨xs, Γ2⟩ <;> rfl
@[simp] theorem sSeq_ap : sSeq fs gs Γ = SR.then gs (fs Γ) := by
  unfold sSeq
  cases fs Γ <;> rfl
@[simp] theorem sAsg_ap {g : FnG} : sAsg f g Γ = (f Γ).toS (asgK g) := by
  unfold sAsg
  rcases f Γ with ⟨r, Γ'⟩ | _ | _ <;> try rfl
@[simp] theorem sExpr_ap : sExpr f Γ = (f Γ).toS exK := rfl
@[simp] theorem sNil_ap : sNil Γ = .nx Γ := rfl
@[simp] theorem sBreak_ap : sBreak Γ = .bk Γ := rfl
@[simp] theorem sCont_ap : sCont Γ = .ct Γ := rfl
@[simp] theorem sRetN_ap : sRetN Γ = .ret .none Γ := rfl
@[simp] theorem sRaise_ap {x : Str} : sRaise x Γ = .exc ⟨x, none⟩ := rfl
@[simp] theorem sRet_ap : sRet f Γ = (f Γ).toS retK := by
  unfold sRet
  rcases f Γ with ⟨r, Γ'⟩ | _ | _ <;> try rfl
@[simp] theorem sIf_ap : sIf ft fs gs Γ = (ft Γ).toS (sIfK fs gs) := by
  unfold sIf
  rcases ft Γ with ⟨_ | _, Γ'⟩ | _ | _ <;> rfl
@[simp] theorem freeAt_ap : freeAt Γ i = freeK Γ[i]? := by
  unfold freeAt
  rcases Γ[i]? with _ | _ | s <;> rfl
@[simp] theorem hasAt_ap : hasAt Γ i = hasK Γ[i]? := by
  unfold hasAt
  rcases Γ[i]? with _ | _ | s <;> rfl
@[simp] theorem ownAt_ap : ownAt Γ i = ownK Γ[i]? := by
  unfold ownAt
  rcases Γ[i]? with _ | _ | s
  · rfl
  · rfl
  · cases s <;> rfl
@[simp] theorem gN_d {x : D} : gN i (.d x) Γ = putK i (.fz x) Γ (freeAt Γ i) := by
  show (if freeAt Γ i then some (Γ.set i (some (.fz x))) else none) = _
  cases freeAt Γ i <;> rfl
@[simp] theorem gN_ow {xs : List D} : gN i (.ow xs) Γ = putK i (.ow xs) Γ (freeAt Γ i) := by
  show (if freeAt Γ i then some (Γ.set i (some (.ow xs))) else none) = _
  cases freeAt Γ i <;> rfl
@[simp] theorem gN_sl : gN i (.sl j) Γ = gNK i (rvFz Γ (.sl j)) := by
  show (match rvFz Γ (.sl j) with | some (d, Γ') => if freeAt Γ' i then some (Γ'.set i (some (.fz d))) else none | none => none) = _
  rcases rvFz Γ (.sl j) with _ | ⟨x, Γ1⟩
  · rfl
  · show _ = putK i (.fz x) Γ1 (freeAt Γ1 i)
    simp only
    cases freeAt Γ1 i <;> rfl
@[simp] theorem gsNil_ap : gsNil [] Γ = some Γ := rfl
@[simp] theorem gsCons_ap {g : FnG} {gs : FnGs} {d : D} {r : List D} : gsCons g gs (d :: r) Γ = gcK gs r (g (.d d) Γ) := by
  show (g (.d d) Γ).bind (fun Γ' => gs r Γ') = _
  cases g (.d d) Γ <;> rfl
@[simp] theorem gT_ap {gs : FnGs} {ds : List D} : gT gs (.d (.tuple ds)) Γ = gs ds Γ := rfl
@[simp] theorem sPar_ap : sPar i j ga Γ = (ga Γ).toS (parK i j) := by
  unfold sPar
  rcases ga Γ with ⟨rs, Γ'⟩ | _ | _ <;> try rfl
  show _ = parK2 i j (rvsFz rs Γ')
  show (match rvsFz rs Γ' with | some ([x, y], Γ1) => _ | _ => _) = _
  rcases rvsFz rs Γ' with _ | ⟨_ | ⟨x, _ | ⟨y, _ | _⟩⟩, Γ2⟩ <;> try rfl
  show (if (freeAt Γ2 i && freeAt Γ2 j) = true then _ else _) = parK3 i j x y Γ2 (freeAt Γ2 i && freeAt Γ2 j)
  cases (freeAt Γ2 i && freeAt Γ2 j) <;> rfl
@[simp] theorem slWrite_ap {h : List D → Option (List D)} : slWrite Γ i h = writeK i Γ h Γ[i]? := by
  unfold slWrite
  rcases Γ[i]? with _ | _ | s
  · rfl
  · rfl
  · cases s <;> rfl
@[simp] theorem sSetIx_ap {fk : FnE} : sSetIx i fk f Γ = (eOp f Γ).toS (setK i fk) := by
  unfold sSetIx
  rcases eOp f Γ with ⟨r, Γ'⟩ | _ | _ <;> try rfl
  show (if hasAt Γ' i = true then _ else _) = setK1 i fk r Γ' (hasAt Γ' i)
  cases hasAt Γ' i <;> try rfl
  show Rs.toS (fk Γ') _ = Rs.toS (fk Γ') (setK2 i r)
  rcases fk Γ' with ⟨q, Γ2⟩ | _ | _ <;> try rfl
  show (match rvFz Γ2 r, q with | some (x, Γ2), .d (.int k) => _ | _, _ => _) = _
  cases q with
  | d x =>
    cases x with
    | int k =>
      show _ = setK3 i k (rvFz Γ2 r)
      rcases rvFz Γ2 r with _ | ⟨x, Γ3⟩ <;> try rfl
    | _ => cases rvFz Γ2 r <;> rfl
  | _ => cases rvFz Γ2 r <;> rfl
@[simp] theorem eMet_ap {out : Ga → RV → Rs (RV × Ga)} : eMet i f out Γ = metK f out Γ (ownAt Γ i) := by
  unfold eMet
  cases ownAt Γ i <;> rfl
@[simp] theorem outApp_ap : outApp i Γ r = appK i (rvFz Γ r) := by
  unfold outApp
  rcases rvFz Γ r with _ | ⟨x, Γ3⟩ <;> try rfl
end
end FL

/-! FU: readings evaluated step by step. -/
namespace FL
open PySem PySem.Spec L2

/-! calls -/
def FR.val : FR → Rs D
  | .ok d _ => .ok d
  | .exc e => .exc e
  | .bad => .bad
def FR.io (j : Nat) : FR → Rs (D × List D)
  | .ok d outs => match outs[j]? with
    | some (some (.io xs)) => .ok (d, xs)
    | _ => .bad
  | .exc e => .exc e
  | .bad => .bad
def srVal : SR → Rs D
  | .nx _ => .ok .none
  | .ret d _ => .ok d
  | .exc e => .exc e
  | _ => .bad
def outAt (j : Nat) (d : D) (Γ : Ga) : Rs (D × List D) := match Γ[j]? with
  | some (some (.io xs)) => .ok (d, xs)
  | _ => .bad
def srIo (j : Nat) : SR → Rs (D × List D)
  | .nx Γ => outAt j .none Γ
  | .ret d Γ => outAt j d Γ
  | .exc e => .exc e
  | _ => .bad
@[simp] theorem run_val {n : Nat} {f : FnS} {args : List Sl} : (runBody n f args).val = srVal (f (args.map some ++ List.replicate (n - args.length) none)) := by
  unfold runBody
  cases f (args.map some ++ List.replicate (n - args.length) none) <;> rfl
@[simp] theorem run_io {n j : Nat} {f : FnS} {args : List Sl} : (runBody n f args).io j = srIo j (f (args.map some ++ List.replicate (n - args.length) none)) := by
  unfold runBody
  cases f (args.map some ++ List.replicate (n - args.length) none) <;> rfl
def plainAll (rvs : List RV) (io : Option Nat) (Γ : Ga) : Bool := (List.range rvs.length).all fun j => decide (io = some j) || ((rvs[j]?).map (plainRv Γ)).getD true
def backV (as : List Sl) (rvs : List RV) (io : Option Nat) (Γ0 Γ : Ga) (d : D) : Rs (RV × Ga) := if noL d then .ok (.d d, Γ) else match d with
  | .list ds => if as.all Sl.flat && noLs ds then .ok (.ow ds, Γ) else if plainAll rvs io Γ0 then .ok (.d (.list ds), Γ) else .bad
  | d => if plainAll rvs io Γ0 then .ok (.d d, Γ) else .bad
theorem back_eq {as : List Sl} {rvs : List RV} {io : Option Nat} {Γ0 Γ : Ga} {d : D} : (if noL d then Rs.ok (RV.d d, Γ) else match d with
        | .list ds => if as.all Sl.flat && noLs ds then .ok (.ow ds, Γ) else if ((List.range rvs.length).all fun j => decide (io = some j) || ((rvs[j]?).map (plainRv Γ0)).getD true) then .ok (.d (.list ds), Γ) else .bad
        | d => if ((List.range rvs.length).all fun j => decide (io = some j) || ((rvs[j]?).map (plainRv Γ0)).getD true) then .ok (.d d, Γ) else .bad) = backV as rvs io Γ0 Γ d := by
  unfold backV plainAll
  by_cases h : noL d = true
  · rw [if_pos h]
  · rw [if_neg h]
def callV (rvs : List RV) (Γ : Ga) (as : List Sl) : Rs D → Rs (RV × Ga)
  | .ok d => backV as rvs none Γ Γ d
  | .exc e => .exc e
  | .bad => .bad
def callK2 (run : FnR) (rvs : List RV) (Γ : Ga) : Option (List Sl) → Rs (RV × Ga)
  | some as => callV rvs Γ as (run as).val
  | none => .bad
def callK (run : FnR) (np : Nat) : List RV × Ga → Rs (RV × Ga)
  | (rvs, Γ) => if rvs.length = np then callK2 run rvs Γ (mkArgs Γ rvs none) else .bad
@[simp] theorem eCall_ap {run : FnR} {np : Nat} {fa : FnA} {Γ : Ga} : eCall run np none fa Γ = (fa Γ).bind (callK run np) := by
  unfold eCall
  rcases fa Γ with ⟨rvs, Γ1⟩ | _ | _ <;> try rfl
  show (if rvs.length = np ∧ ioFine rvs none = true then _ else _) = (if rvs.length = np then callK2 run rvs Γ1 (mkArgs Γ1 rvs none) else .bad)
  by_cases h : rvs.length = np
  · rw [if_pos ⟨h, rfl⟩, if_pos h]
    cases mkArgs Γ1 rvs none with
    | none => rfl
    | some as =>
      show (match run as with | .bad => _ | .exc e => _ | .ok d outs => _) = callV rvs Γ1 as (run as).val
      cases run as with
      | ok d outs =>
        show _ = backV as rvs none Γ1 Γ1 d
        exact back_eq
      | _ => rfl
  · rw [if_neg h, if_neg fun z => h z.1]
def ioK3 (as : List Sl) (rvs : List RV) (j : Nat) (Γ : Ga) (d : D) : Option Ga → Rs (RV × Ga)
  | some Γ2 => backV as rvs (some j) Γ Γ2 d
  | none => .bad
def ioK4 (i : Nat) (Γ : Ga) (ys : List D) : Option Ga := if noLs ys then slPut Γ i ys else none
def callIo (rvs : List RV) (Γ : Ga) (as : List Sl) (j i : Nat) : Rs (D × List D) → Rs (RV × Ga)
  | .ok (d, ys) => ioK3 as rvs j Γ d (ioK4 i Γ ys)
  | .exc e => .exc e
  | .bad => .bad
def callIoK2 (run : FnR) (rvs : List RV) (Γ : Ga) (j i : Nat) : Option (List Sl) → Rs (RV × Ga)
  | some as => callIo rvs Γ as j i ((run as).io j)
  | none => .bad
def callIoK1 (run : FnR) (rvs : List RV) (Γ : Ga) (j : Nat) : Option RV → Rs (RV × Ga)
  | some (.sl i) => if (rvs.eraseIdx j).all (fun r => !isSl i r) then callIoK2 run rvs Γ j i (mkArgs Γ rvs (some j)) else .bad
  | _ => .bad
def callIoK (run : FnR) (np j : Nat) : List RV × Ga → Rs (RV × Ga)
  | (rvs, Γ) => if rvs.length = np then callIoK1 run rvs Γ j rvs[j]? else .bad
theorem callIo_eq {run : FnR} {rvs : List RV} {Γ : Ga} {j i : Nat} {as : List Sl} (q : rvs[j]? = some (.sl i)) (h2 : (rvs.eraseIdx j).all (fun r => !isSl i r) = true) : (match run as with
    | .bad => Rs.bad
    | .exc e => .exc e
    | .ok d outs => match ioBack rvs (some j) outs Γ with
      | none => .bad
      | some Γ2 => if noL d then .ok (.d d, Γ2) else match d with
        | .list ds => if as.all Sl.flat && noLs ds then .ok (.ow ds, Γ2) else if ((List.range rvs.length).all fun m => decide (some j = some m) || ((rvs[m]?).map (plainRv Γ)).getD true) then .ok (.d (.list ds), Γ2) else .bad
        | d => if ((List.range rvs.length).all fun m => decide (some j = some m) || ((rvs[m]?).map (plainRv Γ)).getD true) then .ok (.d d, Γ2) else .bad) = callIo rvs Γ as j i ((run as).io j) := by
  cases run as with
  | bad => rfl
  | exc e => rfl
  | ok d outs =>
    have e : ioBack rvs (some j) outs Γ = match outs[j]? with
      | some (some (.io ys)) => ioK4 i Γ ys
      | _ => none := by
      unfold ioBack ioK4
      simp only [q]
      rw [if_pos h2] <;> rcases outs[j]? with _ | _ | s <;> first | rfl | (cases s <;> rfl)
    dsimp only
    rw [e]
    unfold FR.io
    dsimp only
    rcases outs[j]? with _ | _ | s
    · rfl
    · rfl
    · cases s with
      | io ys =>
        dsimp only [callIo]
        cases ioK4 i Γ ys with
        | none => rfl
        | some Γ2 => exact back_eq
      | fz x => rfl
      | ow x => rfl
      | lk x => rfl
      | scr x => rfl
@[simp] theorem eCallIo_ap {run : FnR} {np j : Nat} {fa : FnA} {Γ : Ga} : eCall run np (some j) fa Γ = (fa Γ).bind (callIoK run np j) := by
  unfold eCall
  rcases fa Γ with ⟨rvs, Γ1⟩ | _ | _
  · simp only [Rs.bind_ok]
    show _ = (if rvs.length = np then callIoK1 run rvs Γ1 j rvs[j]? else .bad)
    by_cases h : rvs.length = np
    · rw [if_pos h]
      cases q : rvs[j]? with
      | none => rw [if_neg (by rintro ⟨_, z⟩; unfold ioFine at z; simp [q] at z)]; rfl
      | some r =>
        cases r with
        | d x => rw [if_neg (by rintro ⟨_, z⟩; unfold ioFine at z; simp [q] at z)]; rfl
        | ow x => rw [if_neg (by rintro ⟨_, z⟩; unfold ioFine at z; simp [q] at z)]; rfl
        | sl i =>
          show _ = (if (rvs.eraseIdx j).all (fun r => !isSl i r) = true then callIoK2 run rvs Γ1 j i (mkArgs Γ1 rvs (some j)) else .bad)
          have e : ioFine rvs (some j) = (rvs.eraseIdx j).all fun r => !isSl i r := by unfold ioFine; simp only [q]
          rw [e]
          by_cases h2 : (rvs.eraseIdx j).all (fun r => !isSl i r) = true
          · rw [if_pos ⟨h, h2⟩, if_pos h2]
            cases mkArgs Γ1 rvs (some j) with
            | none => rfl
            | some as => exact callIo_eq q h2
          · rw [if_neg h2, if_neg fun z => h2 z.2]
    · rw [if_neg h, if_neg fun z => h z.1]
  · rfl
  · rfl
end FL

/-! FU3: loops and built-ins evaluated. -/
namespace FL
open PySem PySem.Spec L2

def itK (Γ : Ga) : Option (List D × Option Nat) → Rs (List D × Option Nat × Ga)
  | some (xs, lk) => .ok (xs, lk, Γ)
  | none => .bad
def itemK (i : Nat) : Option (Option Sl) → Option (List D × Option Nat)
  | some (some (.ow xs)) => some (xs, some i)
  | some (some (.lk xs)) => some (xs, none)
  | some (some (.scr ns)) => some (ns.map .int, none)
  | _ => none
def anyK2 (r : RV) (Γ : Ga) : Option D → Rs (List D × Option Nat × Ga)
  | some (.tuple xs) => .ok (xs, none, Γ)
  | _ => itK Γ (itemsL r Γ)
def iAnyK : RV × Ga → Rs (List D × Option Nat × Ga) | (r, Γ) => anyK2 r Γ (r.get Γ)
def enuK2 (r : RV) (Γ : Ga) : Option D → Rs (List D × Option Nat × Ga)
  | some (.tuple xs) => .ok (enuD 0 xs, none, Γ)
  | _ => itK Γ ((itemsL r Γ).map fun p => (enuD 0 p.1, p.2))
def enuK : List RV × Ga → Rs (List D × Option Nat × Ga)
  | ([r], Γ) => enuK2 r Γ (r.get Γ)
  | _ => .bad
def rgK1 (j : Int) (Γ : Ga) : Bool → Rs (List D × Option Nat × Ga)
  | true => .ok (rgs 0 j.toNat, none, Γ)
  | false => .bad
def r1K : List RV × Ga → Rs (List D × Option Nat × Ga)
  | ([.d (.int j)], Γ) => rgK1 j Γ (rgOk j)
  | _ => .bad
def rgK2 (i j : Int) (Γ : Ga) : Bool → Rs (List D × Option Nat × Ga)
  | true => .ok (rgs i (j - i).toNat, none, Γ)
  | false => .bad
def r2K : List RV × Ga → Rs (List D × Option Nat × Ga)
  | ([.d (.int i), .d (.int j)], Γ) => rgK2 i j Γ (rgOk i && rgOk j)
  | _ => .bad
def forK (g : FnG) (b : FnS) : List D × Option Nat × Ga → SR
  | (xs, none, Γ) => loopF g b xs Γ
  | (xs, some i, Γ) => unl i (loopF g b xs (shut i Γ))
def loopK (g : FnG) (b : FnS) (xs : List D) : SR → SR
  | .nx Γ2 => loopF g b xs Γ2
  | .ct Γ2 => loopF g b xs Γ2
  | .bk Γ2 => .nx Γ2
  | .ret d Γ2 => .ret d Γ2
  | .exc e => .exc e
  | .bad => .bad
def loopK1 (g : FnG) (b : FnS) (xs : List D) : Option Ga → SR
  | some Γ => loopK g b xs (b Γ)
  | none => .bad
section
variable {Γ : Ga} {f : FnE} {ga : FnA} {i : Nat} {g : FnG} {b : FnS} {r : RV}
@[simp] theorem items_sl : itemsL (.sl i) Γ = itemK i Γ[i]? := by
  show (match Γ[i]? with
    | some (some (.ow xs)) => some (xs, some i)
    | some (some (.lk xs)) => some (xs, none)
    | some (some (.scr ns)) => some (ns.map PyData.int, none)
    | _ => none) = _
  rcases Γ[i]? with _ | _ | s
  · rfl
  · rfl
  · cases s <;> rfl
@[simp] theorem items_l {xs : List D} : itemsL (.d (.list xs)) Γ = some (xs, none) := rfl
@[simp] theorem items_ow {xs : List D} : itemsL (.ow xs) Γ = some (xs, none) := rfl
@[simp] theorem iAny_ap : iAny f Γ = (eOp f Γ).bind iAnyK := by
  unfold iAny
  rcases eOp f Γ with ⟨r, Γ1⟩ | _ | _
  · simp only [Rs.bind_ok]
    dsimp only [iAnyK]
    have e : (match itemsL r Γ1 with | some (xs, lk) => Rs.ok (xs, lk, Γ1) | none => .bad) = itK Γ1 (itemsL r Γ1) := by rcases itemsL r Γ1 with _ | ⟨xs, lk⟩ <;> rfl
    rcases r.get Γ1 with _ | x
    · exact e
    · cases x <;> first | exact e | rfl
  · rfl
  · rfl
@[simp] theorem iEnu_ap : iEnu ga Γ = (ga Γ).bind enuK := by
  unfold iEnu
  rcases ga Γ with ⟨rs, Γ1⟩ | _ | _
  · simp only [Rs.bind_ok]
    rcases rs with _ | ⟨r, _ | ⟨r2, rs⟩⟩
    · rfl
    · dsimp only [enuK]
      have e : (match itemsL r Γ1 with | some (xs, lk) => Rs.ok (enuD 0 xs, lk, Γ1) | none => .bad) = itK Γ1 ((itemsL r Γ1).map fun p => (enuD 0 p.1, p.2)) := by rcases itemsL r Γ1 with _ | ⟨xs, lk⟩ <;> rfl
      rcases r.get Γ1 with _ | x
      · exact e
      · cases x <;> first | exact e | rfl
    · rfl
  · rfl
  · rfl
@[simp] theorem iR1_ap : iR1 ga Γ = (ga Γ).bind r1K := by
  unfold iR1
  rcases ga Γ with ⟨rs, Γ1⟩ | _ | _
  · simp only [Rs.bind_ok]
    rcases rs with _ | ⟨r, _ | ⟨r2, rs⟩⟩
    · rfl
    · cases r with
      | d x =>
        cases x with
        | int j =>
          dsimp only [r1K]
          cases rgOk j <;> rfl
        | _ => rfl
      | _ => rfl
    · cases r with
      | d x => cases x <;> rfl
      | _ => rfl
  · rfl
  · rfl
@[simp] theorem sFor_ap {fi : FnI} : sFor fi g b Γ = (fi Γ).toS (forK g b) := by
  unfold sFor
  rcases fi Γ with ⟨xs, _ | i, Γ1⟩ | _ | _ <;> rfl
theorem loop_nil : loopF g b [] Γ = .nx Γ := rfl
theorem loop_cons {x : D} {xs : List D} : loopF g b (x :: xs) Γ = loopK1 g b xs (g (.d x) Γ) := by
  show (match g (.d x) Γ with | none => SR.bad | some Γ1 => _) = _
  cases g (.d x) Γ with
  | none => rfl
  | some Γ1 =>
    dsimp only [loopK1]
    cases b Γ1 <;> rfl
/-- a loop that runs to its end -/
theorem loop_all (P : List D → Ga → Prop) (step : ∀ x xs Γ, P (x :: xs) Γ → ∃ Γ1 Γ2, g (.d x) Γ = some Γ1 ∧ b Γ1 = .nx Γ2 ∧ P xs Γ2) : ∀ xs Γ, P xs Γ → ∃ Γ', loopF g b xs Γ = .nx Γ' ∧ P [] Γ'
  | [], Γ, h => ⟨Γ, rfl, h⟩
  | x :: xs, Γ, h => by
    obtain ⟨Γ1, Γ2, e1, e2, h2⟩ := step x xs Γ h
    obtain ⟨Γ', e3, h3⟩ := loop_all P step xs Γ2 h2
    exact ⟨Γ', by rw [loop_cons, e1]; dsimp only [loopK1]; rw [e2]; exact e3, h3⟩
/-- .. by the number of turns -/
theorem loop_range (P : Nat → Ga → Prop) {xs : List D} (step : ∀ i x Γ, xs[i]? = some x → P i Γ → ∃ Γ1 Γ2, g (.d x) Γ = some Γ1 ∧ b Γ1 = .nx Γ2 ∧ P (i + 1) Γ2) {Γ : Ga} (h0 : P 0 Γ) : ∃ Γ', loopF g b xs Γ = .nx Γ' ∧ P xs.length Γ' := by
  obtain ⟨Γ', e, i, hi, hp⟩ := loop_all (g := g) (b := b) (fun ys Γ => ∃ i, xs.drop i = ys ∧ i + ys.length = xs.length ∧ P i Γ) (fun x ys Γ ⟨i, e, l, p⟩ => by
    have hx : xs[i]? = some x := by
      have : (xs.drop i)[0]? = some x := by rw [e]; rfl
      simpa using this
    obtain ⟨Γ1, Γ2, e1, e2, p2⟩ := step i x Γ hx p
    refine ⟨Γ1, Γ2, e1, e2, i + 1, ?_, ?_, p2⟩
    · rw [← List.drop_drop, e]; rfl
    · rw [List.length_cons] at l; omega) xs Γ ⟨0, rfl, by simp, h0⟩
  refine ⟨Γ', e, ?_⟩
  have : i = xs.length := by simpa using hp.1
  rw [← this]
  exact hp.2
end
theorem fdivOk_of {j : Int} (h : 0 < j) (h2 : j < 2 ^ 64) : fdivOk j = true := by
  unfold fdivOk
  rw [Bool.and_eq_true, decide_eq_true_eq, decide_eq_true_eq]
  refine ⟨h, ?_⟩
  have : j.natAbs < 2 ^ 64 := by omega
  have h3 : j.natAbs ≠ 0 := by omega
  have := (Nat.log2_lt h3).mpr this
  omega
theorem log2_of {i : Int} {n : Nat} (h : i.natAbs < 2 ^ (n + 1)) : i.natAbs.log2 ≤ n := by
  by_cases z : i.natAbs = 0
  · rw [z]; simp
  · have := (Nat.log2_lt z).mpr h
    omega
/-- numbers of at most so many bits -/
def bits (n : Nat) (i : Int) : Prop := i.natAbs < 2 ^ n
theorem bits.up {n m : Nat} {i : Int} (h : bits n i) (l : n ≤ m) : bits m i := Nat.lt_of_lt_of_le h (Nat.pow_le_pow_right (by decide) l)
theorem bits.mul {n m : Nat} {i j : Int} (h : bits n i) (q : bits m j) : bits (n + m) (i * j) := by
  unfold bits at *
  rw [Int.natAbs_mul, Nat.pow_add]
  exact Nat.mul_lt_mul'' h q
theorem bits.add {n : Nat} {i j : Int} (h : bits n i) (q : bits n j) : bits (n + 1) (i + j) := by
  unfold bits at *
  have := Int.natAbs_add_le i j
  rw [Nat.pow_succ]
  omega
theorem mulOk_of {n m : Nat} {i j : Int} (h : bits n i) (q : bits m j) (l : n + m ≤ 1000000) : mulOk i j = true := by
  unfold mulOk
  rw [decide_eq_true_eq]
  have a : i.natAbs.log2 < n ∨ i.natAbs.log2 = 0 := by
    by_cases z : i.natAbs = 0
    · right; rw [z]; simp
    · left; exact (Nat.log2_lt z).mpr h
  have b : j.natAbs.log2 < m ∨ j.natAbs.log2 = 0 := by
    by_cases z : j.natAbs = 0
    · right; rw [z]; simp
    · left; exact (Nat.log2_lt z).mpr q
  omega
/-- small numbers: 500 bits each way -/
theorem mulOk_sm {i j : Int} (h : bits 400000 i) (q : bits 400000 j) : mulOk i j = true := mulOk_of h q (by decide)
theorem bits_mod {i m : Int} {n : Nat} (h : 0 < m) (q : bits n m) : bits n (i % m) := by
  unfold bits at *
  have a := Int.emod_nonneg i (Int.ne_of_gt h)
  have b := Int.emod_lt_of_pos i h
  omega
theorem rgs_get {lo : Int} {n i : Nat} (h : i < n) : (rgs lo n)[i]? = some (.int (lo + (i : Nat))) := by
  unfold rgs
  simp [h]
theorem rgs_len {lo : Int} {n : Nat} : (rgs lo n).length = n := by simp [rgs]
end FL

/-! FU4: the words of evaluation. -/
namespace FL
open PySem PySem.Spec L2
@[simp] theorem bind_ok_s {α β : Type} {a : α} {k : α → Rs β} : (Rs.ok a : Rs α).bind k = k a := rfl
@[simp] theorem bind_exc {α β : Type} {e : Exc} {k : α → Rs β} : (Rs.exc e : Rs α).bind k = .exc e := rfl
@[simp] theorem bind_bad {α β : Type} {k : α → Rs β} : (Rs.bad : Rs α).bind k = .bad := rfl
@[simp] theorem toS_ok {α : Type} {a : α} {k : α → SR} : (Rs.ok a).toS k = k a := rfl
@[simp] theorem toS_exc {α : Type} {e : Exc} {k : α → SR} : (Rs.exc e : Rs α).toS k = .exc e := rfl
@[simp] theorem toS_bad {α : Type} {k : α → SR} : (Rs.bad : Rs α).toS k = .bad := rfl
@[simp] theorem fz_rd {x : D} : RV.fz (.d x) = .d x := rfl
@[simp] theorem fz_row {x : List D} : RV.fz (.ow x) = .d (.list x) := rfl
@[simp] theorem fz_rsl {i : Nat} : RV.fz (.sl i) = .sl i := rfl
@[simp] theorem get_d {x : D} {Γ : Ga} : RV.get Γ (.d x) = some x := rfl
@[simp] theorem get_ow {x : List D} {Γ : Ga} : RV.get Γ (.ow x) = some (.list x) := rfl
section
set_option autoImplicit true in
@[simp] theorem opK_q1  : opK  ((r, Γ)) = .ok (r.fz, Γ) := by first | rfl | (unfold opK; rfl)
set_option autoImplicit true in
@[simp] theorem getK_q1  : getK  (some (some s)) = some s.data := by first | rfl | (unfold getK; rfl)
set_option autoImplicit true in
@[simp] theorem varK_q1 {i : Nat} {Γ : Ga} : varK i Γ (some (some (.fz d))) = .ok (.d d, Γ) := by first | rfl | (unfold varK; rfl)
set_option autoImplicit true in
@[simp] theorem resK_q1 {Γ : Ga} : resK Γ (some z) = .ok (.d z, Γ) := by first | rfl | (unfold resK; rfl)
set_option autoImplicit true in
@[simp] theorem resK_q2 {Γ : Ga} : resK Γ (none) = .bad := by first | rfl | (unfold resK; rfl)
set_option autoImplicit true in
@[simp] theorem g2K_q1 {op : D → D → Option D} {Γ : Ga} : g2K op Γ (some x) (some y) = resK Γ (op x y) := by first | rfl | (unfold g2K; rfl)
set_option autoImplicit true in
@[simp] theorem g1K_q1 {op : D → Option D} {Γ : Ga} : g1K op Γ (some x) = resK Γ (op x) := by first | rfl | (unfold g1K; rfl)
set_option autoImplicit true in
@[simp] theorem binK2_q1 {g : RV → RV → Ga → Rs (RV × Ga)} {r : RV} : binK2 g r ((q, Γ)) = g r q Γ := by first | rfl | (unfold binK2; rfl)
set_option autoImplicit true in
@[simp] theorem binK_q1 {g : RV → RV → Ga → Rs (RV × Ga)} {fb : FnE} : binK g fb ((r, Γ)) = (eOp fb Γ).bind (binK2 g r) := by first | rfl | (unfold binK; rfl)
set_option autoImplicit true in
@[simp] theorem unK_q1 {g : RV → Ga → Rs (RV × Ga)} : unK g ((r, Γ)) = g r Γ := by first | rfl | (unfold unK; rfl)
set_option autoImplicit true in
@[simp] theorem tstK_q1  : tstK  ((.d (.bool b), Γ)) = .ok (b, Γ) := by first | rfl | (unfold tstK; rfl)
set_option autoImplicit true in
@[simp] theorem notK_q1  : notK  ((b, Γ)) = .ok (!b, Γ) := by first | rfl | (unfold notK; rfl)
set_option autoImplicit true in
@[simp] theorem andK_q1 {g : FnT} : andK g ((true, Γ)) = g Γ := by first | rfl | (unfold andK; rfl)
set_option autoImplicit true in
@[simp] theorem andK_q2 {g : FnT} : andK g ((false, Γ)) = .ok (false, Γ) := by first | rfl | (unfold andK; rfl)
set_option autoImplicit true in
@[simp] theorem orK_q1 {g : FnT} : orK g ((true, Γ)) = .ok (true, Γ) := by first | rfl | (unfold orK; rfl)
set_option autoImplicit true in
@[simp] theorem orK_q2 {g : FnT} : orK g ((false, Γ)) = g Γ := by first | rfl | (unfold orK; rfl)
set_option autoImplicit true in
@[simp] theorem eNotK_q1  : eNotK  ((b, Γ)) = .ok (.d (.bool (!b)), Γ) := by first | rfl | (unfold eNotK; rfl)
set_option autoImplicit true in
@[simp] theorem eAndK_q1 {g : FnE} : eAndK g ((true, Γ)) = g Γ := by first | rfl | (unfold eAndK; rfl)
set_option autoImplicit true in
@[simp] theorem eAndK_q2 {g : FnE} : eAndK g ((false, Γ)) = .ok (.d (.bool false), Γ) := by first | rfl | (unfold eAndK; rfl)
set_option autoImplicit true in
@[simp] theorem eOrK_q1 {g : FnE} : eOrK g ((true, Γ)) = .ok (.d (.bool true), Γ) := by first | rfl | (unfold eOrK; rfl)
set_option autoImplicit true in
@[simp] theorem eOrK_q2 {g : FnE} : eOrK g ((false, Γ)) = g Γ := by first | rfl | (unfold eOrK; rfl)
set_option autoImplicit true in
@[simp] theorem eIfK_q1 {f : FnE} {g : FnE} : eIfK f g ((true, Γ)) = f Γ := by first | rfl | (unfold eIfK; rfl)
set_option autoImplicit true in
@[simp] theorem eIfK_q2 {f : FnE} {g : FnE} : eIfK f g ((false, Γ)) = g Γ := by first | rfl | (unfold eIfK; rfl)
set_option autoImplicit true in
@[simp] theorem consK2_q1 {r : RV} : consK2 r ((rs, Γ)) = .ok (r :: rs, Γ) := by first | rfl | (unfold consK2; rfl)
set_option autoImplicit true in
@[simp] theorem consK_q1 {g : FnA} : consK g ((r, Γ)) = (g Γ).bind (consK2 r) := by first | rfl | (unfold consK; rfl)
set_option autoImplicit true in
@[simp] theorem tupK2_q1  : tupK2  (some (xs, Γ)) = if xs.length ≤ lim then .ok (.d (.tuple xs), Γ) else .bad := by first | rfl | (unfold tupK2; rfl)
set_option autoImplicit true in
@[simp] theorem tupK2_q2  : tupK2  (none) = .bad := by first | rfl | (unfold tupK2; rfl)
set_option autoImplicit true in
@[simp] theorem tupK_q1  : tupK  ((rs, Γ)) = tupK2 (rvsFz rs Γ) := by first | rfl | (unfold tupK; rfl)
set_option autoImplicit true in
@[simp] theorem lstK2_q1  : lstK2  (some (xs, Γ)) = if xs.length ≤ lim then .ok (.ow xs, Γ) else .bad := by first | rfl | (unfold lstK2; rfl)
set_option autoImplicit true in
@[simp] theorem lstK2_q2  : lstK2  (none) = .bad := by first | rfl | (unfold lstK2; rfl)
set_option autoImplicit true in
@[simp] theorem lstK_q1  : lstK  ((rs, Γ)) = lstK2 (rvsFz rs Γ) := by first | rfl | (unfold lstK; rfl)
set_option autoImplicit true in
@[simp] theorem fzK_q1 {i : Nat} {Γ : Ga} : fzK i Γ (some (some (.ow xs))) = some (.list xs, Γ.set i (some (.fz (.list xs)))) := by first | rfl | (unfold fzK; rfl)
set_option autoImplicit true in
@[simp] theorem fzK_q2 {i : Nat} {Γ : Ga} : fzK i Γ (some (some (.fz d))) = some (d, Γ) := by first | rfl | (unfold fzK; rfl)
set_option autoImplicit true in
@[simp] theorem fzsK2_q1 {x : D} : fzsK2 x (some (xs, Γ)) = some (x :: xs, Γ) := by first | rfl | (unfold fzsK2; rfl)
set_option autoImplicit true in
@[simp] theorem fzsK2_q2 {x : D} : fzsK2 x (none) = none := by first | rfl | (unfold fzsK2; rfl)
set_option autoImplicit true in
@[simp] theorem fzsK_q1 {rs : List RV} : fzsK rs (some (x, Γ)) = fzsK2 x (rvsFz rs Γ) := by first | rfl | (unfold fzsK; rfl)
set_option autoImplicit true in
@[simp] theorem fzsK_q2 {rs : List RV} : fzsK rs (none) = none := by first | rfl | (unfold fzsK; rfl)
set_option autoImplicit true in
@[simp] theorem SR_then_q1 {g : FnS} : SR.then g (.nx Γ) = g Γ := by first | rfl | (unfold SR.then; rfl)
set_option autoImplicit true in
@[simp] theorem asgK2_q1  : asgK2  (some Γ) = .nx Γ := by first | rfl | (unfold asgK2; rfl)
set_option autoImplicit true in
@[simp] theorem asgK2_q2  : asgK2  (none) = .bad := by first | rfl | (unfold asgK2; rfl)
set_option autoImplicit true in
@[simp] theorem asgK_q1 {g : FnG} : asgK g ((r, Γ)) = asgK2 (g r Γ) := by first | rfl | (unfold asgK; rfl)
set_option autoImplicit true in
@[simp] theorem exK_q1  : exK  ((r0, Γ)) = .nx Γ := by first | rfl | (unfold exK; rfl)
set_option autoImplicit true in
@[simp] theorem retK2_q1  : retK2  (some (d, Γ)) = .ret d Γ := by first | rfl | (unfold retK2; rfl)
set_option autoImplicit true in
@[simp] theorem retK2_q2  : retK2  (none) = .bad := by first | rfl | (unfold retK2; rfl)
set_option autoImplicit true in
@[simp] theorem retK_q1  : retK  ((r, Γ)) = retK2 (rvFz Γ r) := by first | rfl | (unfold retK; rfl)
set_option autoImplicit true in
@[simp] theorem sIfK_q1 {f : FnS} {g : FnS} : sIfK f g ((true, Γ)) = f Γ := by first | rfl | (unfold sIfK; rfl)
set_option autoImplicit true in
@[simp] theorem sIfK_q2 {f : FnS} {g : FnS} : sIfK f g ((false, Γ)) = g Γ := by first | rfl | (unfold sIfK; rfl)
set_option autoImplicit true in
@[simp] theorem putK_q1 {i : Nat} {s : Sl} {Γ : Ga} : putK i s Γ (true) = some (Γ.set i (some s)) := by first | rfl | (unfold putK; rfl)
set_option autoImplicit true in
@[simp] theorem putK_q2 {i : Nat} {s : Sl} {Γ : Ga} : putK i s Γ (false) = none := by first | rfl | (unfold putK; rfl)
set_option autoImplicit true in
@[simp] theorem gNK_q1 {i : Nat} : gNK i (some (d, Γ)) = putK i (.fz d) Γ (freeAt Γ i) := by first | rfl | (unfold gNK; rfl)
set_option autoImplicit true in
@[simp] theorem gNK_q2 {i : Nat} : gNK i (none) = none := by first | rfl | (unfold gNK; rfl)
set_option autoImplicit true in
@[simp] theorem freeK_q1  : freeK  (some (some s)) = !s.pinned := by first | rfl | (unfold freeK; rfl)
set_option autoImplicit true in
@[simp] theorem freeK_q2  : freeK  (some none) = true := by first | rfl | (unfold freeK; rfl)
set_option autoImplicit true in
@[simp] theorem freeK_q3  : freeK  (none) = false := by first | rfl | (unfold freeK; rfl)
set_option autoImplicit true in
@[simp] theorem parK3_q1 {i : Nat} {j : Nat} {x : D} {y : D} {Γ : Ga} : parK3 i j x y Γ (true) = .nx ((Γ.set i (some (.fz x))).set j (some (.fz y))) := by first | rfl | (unfold parK3; rfl)
set_option autoImplicit true in
@[simp] theorem parK3_q2 {i : Nat} {j : Nat} {x : D} {y : D} {Γ : Ga} : parK3 i j x y Γ (false) = .bad := by first | rfl | (unfold parK3; rfl)
set_option autoImplicit true in
@[simp] theorem parK2_q1 {i : Nat} {j : Nat} : parK2 i j (some ([x, y], Γ1)) = parK3 i j x y Γ1 (freeAt Γ1 i && freeAt Γ1 j) := by first | rfl | (unfold parK2; rfl)
set_option autoImplicit true in
@[simp] theorem parK_q1 {i : Nat} {j : Nat} : parK i j ((rs, Γ)) = parK2 i j (rvsFz rs Γ) := by first | rfl | (unfold parK; rfl)
set_option autoImplicit true in
@[simp] theorem gcK_q1 {gs : FnGs} {r : List D} : gcK gs r (some Γ) = gs r Γ := by first | rfl | (unfold gcK; rfl)
set_option autoImplicit true in
@[simp] theorem gcK_q2 {gs : FnGs} {r : List D} : gcK gs r (none) = none := by first | rfl | (unfold gcK; rfl)
set_option autoImplicit true in
@[simp] theorem writeK_q1 {i : Nat} {Γ : Ga} {f : List D → Option (List D)} : writeK i Γ f (some (some (.ow xs))) = (f xs).map fun ys => Γ.set i (some (.ow ys)) := by first | rfl | (unfold writeK; rfl)
set_option autoImplicit true in
@[simp] theorem writeK_q2 {i : Nat} {Γ : Ga} {f : List D → Option (List D)} : writeK i Γ f (some (some (.io xs))) = (f xs).map fun ys => Γ.set i (some (.io ys)) := by first | rfl | (unfold writeK; rfl)
set_option autoImplicit true in
@[simp] theorem setK3_q1 {i : Nat} {k : Int} : setK3 i k (some (x, Γ2)) = asgK2 (slWrite Γ2 i fun xs => (ixN xs.length k).map fun j => xs.set j x) := by first | rfl | (unfold setK3; rfl)
set_option autoImplicit true in
@[simp] theorem setK3_q2 {i : Nat} {k : Int} : setK3 i k (none) = .bad := by first | rfl | (unfold setK3; rfl)
set_option autoImplicit true in
@[simp] theorem setK2_q1 {i : Nat} {r : RV} : setK2 i r ((.d (.int k), Γ)) = setK3 i k (rvFz Γ r) := by first | rfl | (unfold setK2; rfl)
set_option autoImplicit true in
@[simp] theorem setK1_q1 {i : Nat} {fk : FnE} {r : RV} {Γ : Ga} : setK1 i fk r Γ (true) = (fk Γ).toS (setK2 i r) := by first | rfl | (unfold setK1; rfl)
set_option autoImplicit true in
@[simp] theorem setK1_q2 {i : Nat} {fk : FnE} {r : RV} {Γ : Ga} : setK1 i fk r Γ (false) = .bad := by first | rfl | (unfold setK1; rfl)
set_option autoImplicit true in
@[simp] theorem setK_q1 {i : Nat} {fk : FnE} : setK i fk ((r, Γ)) = setK1 i fk r Γ (hasAt Γ i) := by first | rfl | (unfold setK; rfl)
set_option autoImplicit true in
@[simp] theorem metK2_q1 {out : Ga → RV → Rs (RV × Ga)} : metK2 out ((r, Γ)) = out Γ r := by first | rfl | (unfold metK2; rfl)
set_option autoImplicit true in
@[simp] theorem metK_q1 {fe : FnE} {out : Ga → RV → Rs (RV × Ga)} {Γ : Ga} : metK fe out Γ (true) = (eOp fe Γ).bind (metK2 out) := by first | rfl | (unfold metK; rfl)
set_option autoImplicit true in
@[simp] theorem metK_q2 {fe : FnE} {out : Ga → RV → Rs (RV × Ga)} {Γ : Ga} : metK fe out Γ (false) = .bad := by first | rfl | (unfold metK; rfl)
set_option autoImplicit true in
@[simp] theorem nonK_q1  : nonK  (some Γ) = .ok (.d .none, Γ) := by first | rfl | (unfold nonK; rfl)
set_option autoImplicit true in
@[simp] theorem nonK_q2  : nonK  (none) = .bad := by first | rfl | (unfold nonK; rfl)
set_option autoImplicit true in
@[simp] theorem appK_q1 {i : Nat} : appK i (some (x, Γ1)) = nonK (slWrite Γ1 i fun xs => if xs.length < lim then some (xs ++ [x]) else none) := by first | rfl | (unfold appK; rfl)
set_option autoImplicit true in
@[simp] theorem appK_q2 {i : Nat} : appK i (none) = .bad := by first | rfl | (unfold appK; rfl)
set_option autoImplicit true in
@[simp] theorem FR_val_q1  : FR.val  (.exc e) = .exc e := by first | rfl | (unfold FR.val; rfl)
set_option autoImplicit true in
@[simp] theorem FR_val_q2  : FR.val  (.bad) = .bad := by first | rfl | (unfold FR.val; rfl)
set_option autoImplicit true in
@[simp] theorem srVal_q1  : srVal  (.exc e) = .exc e := by first | rfl | (unfold srVal; rfl)
set_option autoImplicit true in
@[simp] theorem callV_q1 {rvs : List RV} {Γ : Ga} {as : List Sl} : callV rvs Γ as (.ok d) = backV as rvs none Γ Γ d := by first | rfl | (unfold callV; rfl)
set_option autoImplicit true in
@[simp] theorem callV_q2 {rvs : List RV} {Γ : Ga} {as : List Sl} : callV rvs Γ as (.exc e) = .exc e := by first | rfl | (unfold callV; rfl)
set_option autoImplicit true in
@[simp] theorem callV_q3 {rvs : List RV} {Γ : Ga} {as : List Sl} : callV rvs Γ as (.bad) = .bad := by first | rfl | (unfold callV; rfl)
set_option autoImplicit true in
@[simp] theorem callK2_q1 {run : FnR} {rvs : List RV} {Γ : Ga} : callK2 run rvs Γ (some as) = callV rvs Γ as (run as).val := by first | rfl | (unfold callK2; rfl)
set_option autoImplicit true in
@[simp] theorem callK2_q2 {run : FnR} {rvs : List RV} {Γ : Ga} : callK2 run rvs Γ (none) = .bad := by first | rfl | (unfold callK2; rfl)
set_option autoImplicit true in
@[simp] theorem callK_q1 {run : FnR} {np : Nat} : callK run np ((rvs, Γ)) = if rvs.length = np then callK2 run rvs Γ (mkArgs Γ rvs none) else .bad := by first | rfl | (unfold callK; rfl)
set_option autoImplicit true in
@[simp] theorem ioK3_q1 {as : List Sl} {rvs : List RV} {j : Nat} {Γ : Ga} {d : D} : ioK3 as rvs j Γ d (some Γ2) = backV as rvs (some j) Γ Γ2 d := by first | rfl | (unfold ioK3; rfl)
set_option autoImplicit true in
@[simp] theorem ioK3_q2 {as : List Sl} {rvs : List RV} {j : Nat} {Γ : Ga} {d : D} : ioK3 as rvs j Γ d (none) = .bad := by first | rfl | (unfold ioK3; rfl)
set_option autoImplicit true in
@[simp] theorem callIo_q1 {rvs : List RV} {Γ : Ga} {as : List Sl} {j : Nat} {i : Nat} : callIo rvs Γ as j i (.ok (d, ys)) = ioK3 as rvs j Γ d (ioK4 i Γ ys) := by first | rfl | (unfold callIo; rfl)
set_option autoImplicit true in
@[simp] theorem callIo_q2 {rvs : List RV} {Γ : Ga} {as : List Sl} {j : Nat} {i : Nat} : callIo rvs Γ as j i (.exc e) = .exc e := by first | rfl | (unfold callIo; rfl)
set_option autoImplicit true in
@[simp] theorem callIo_q3 {rvs : List RV} {Γ : Ga} {as : List Sl} {j : Nat} {i : Nat} : callIo rvs Γ as j i (.bad) = .bad := by first | rfl | (unfold callIo; rfl)
set_option autoImplicit true in
@[simp] theorem callIoK2_q1 {run : FnR} {rvs : List RV} {Γ : Ga} {j : Nat} {i : Nat} : callIoK2 run rvs Γ j i (some as) = callIo rvs Γ as j i ((run as).io j) := by first | rfl | (unfold callIoK2; rfl)
set_option autoImplicit true in
@[simp] theorem callIoK2_q2 {run : FnR} {rvs : List RV} {Γ : Ga} {j : Nat} {i : Nat} : callIoK2 run rvs Γ j i (none) = .bad := by first | rfl | (unfold callIoK2; rfl)
set_option autoImplicit true in
@[simp] theorem callIoK1_q1 {run : FnR} {rvs : List RV} {Γ : Ga} {j : Nat} : callIoK1 run rvs Γ j (some (.sl i)) = if (rvs.eraseIdx j).all (fun r => !isSl i r) then callIoK2 run rvs Γ j i (mkArgs Γ rvs (some j)) else .bad := by first | rfl | (unfold callIoK1; rfl)
set_option autoImplicit true in
@[simp] theorem callIoK_q1 {run : FnR} {np : Nat} {j : Nat} : callIoK run np j ((rvs, Γ)) = if rvs.length = np then callIoK1 run rvs Γ j rvs[j]? else .bad := by first | rfl | (unfold callIoK; rfl)
set_option autoImplicit true in
@[simp] theorem itK_q1 {Γ : Ga} : itK Γ (some (xs, lk)) = .ok (xs, lk, Γ) := by first | rfl | (unfold itK; rfl)
set_option autoImplicit true in
@[simp] theorem itK_q2 {Γ : Ga} : itK Γ (none) = .bad := by first | rfl | (unfold itK; rfl)
set_option autoImplicit true in
@[simp] theorem itemK_q1 {i : Nat} : itemK i (some (some (.ow xs))) = some (xs, some i) := by first | rfl | (unfold itemK; rfl)
set_option autoImplicit true in
@[simp] theorem itemK_q2 {i : Nat} : itemK i (some (some (.lk xs))) = some (xs, none) := by first | rfl | (unfold itemK; rfl)
set_option autoImplicit true in
@[simp] theorem itemK_q3 {i : Nat} : itemK i (some (some (.scr ns))) = some (ns.map .int, none) := by first | rfl | (unfold itemK; rfl)
set_option autoImplicit true in
@[simp] theorem anyK2_q1 {r : RV} {Γ : Ga} : anyK2 r Γ (some (.tuple xs)) = .ok (xs, none, Γ) := by first | rfl | (unfold anyK2; rfl)
set_option autoImplicit true in
@[simp] theorem iAnyK_q1  : iAnyK  ((r, Γ)) = anyK2 r Γ (r.get Γ) := by first | rfl | (unfold iAnyK; rfl)
set_option autoImplicit true in
@[simp] theorem enuK2_q1 {r : RV} {Γ : Ga} : enuK2 r Γ (some (.tuple xs)) = .ok (enuD 0 xs, none, Γ) := by first | rfl | (unfold enuK2; rfl)
set_option autoImplicit true in
@[simp] theorem enuK_q1  : enuK  (([r], Γ)) = enuK2 r Γ (r.get Γ) := by first | rfl | (unfold enuK; rfl)
set_option autoImplicit true in
@[simp] theorem rgK1_q1 {j : Int} {Γ : Ga} : rgK1 j Γ (true) = .ok (rgs 0 j.toNat, none, Γ) := by first | rfl | (unfold rgK1; rfl)
set_option autoImplicit true in
@[simp] theorem rgK1_q2 {j : Int} {Γ : Ga} : rgK1 j Γ (false) = .bad := by first | rfl | (unfold rgK1; rfl)
set_option autoImplicit true in
@[simp] theorem r1K_q1  : r1K  (([.d (.int j)], Γ)) = rgK1 j Γ (rgOk j) := by first | rfl | (unfold r1K; rfl)
set_option autoImplicit true in
@[simp] theorem rgK2_q1 {i : Int} {j : Int} {Γ : Ga} : rgK2 i j Γ (true) = .ok (rgs i (j - i).toNat, none, Γ) := by first | rfl | (unfold rgK2; rfl)
set_option autoImplicit true in
@[simp] theorem rgK2_q2 {i : Int} {j : Int} {Γ : Ga} : rgK2 i j Γ (false) = .bad := by first | rfl | (unfold rgK2; rfl)
set_option autoImplicit true in
@[simp] theorem r2K_q1  : r2K  (([.d (.int i), .d (.int j)], Γ)) = rgK2 i j Γ (rgOk i && rgOk j) := by first | rfl | (unfold r2K; rfl)
set_option autoImplicit true in
@[simp] theorem forK_q1 {g : FnG} {b : FnS} : forK g b ((xs, none, Γ)) = loopF g b xs Γ := by first | rfl | (unfold forK; rfl)
set_option autoImplicit true in
@[simp] theorem forK_q2 {g : FnG} {b : FnS} : forK g b ((xs, some i, Γ)) = unl i (loopF g b xs (shut i Γ)) := by first | rfl | (unfold forK; rfl)
set_option autoImplicit true in
@[simp] theorem loopK_q1 {g : FnG} {b : FnS} {xs : List D} : loopK g b xs (.nx Γ2) = loopF g b xs Γ2 := by first | rfl | (unfold loopK; rfl)
set_option autoImplicit true in
@[simp] theorem loopK_q2 {g : FnG} {b : FnS} {xs : List D} : loopK g b xs (.ct Γ2) = loopF g b xs Γ2 := by first | rfl | (unfold loopK; rfl)
set_option autoImplicit true in
@[simp] theorem loopK_q3 {g : FnG} {b : FnS} {xs : List D} : loopK g b xs (.bk Γ2) = .nx Γ2 := by first | rfl | (unfold loopK; rfl)
set_option autoImplicit true in
@[simp] theorem loopK_q4 {g : FnG} {b : FnS} {xs : List D} : loopK g b xs (.ret d Γ2) = .ret d Γ2 := by first | rfl | (unfold loopK; rfl)
set_option autoImplicit true in
@[simp] theorem loopK_q5 {g : FnG} {b : FnS} {xs : List D} : loopK g b xs (.exc e) = .exc e := by first | rfl | (unfold loopK; rfl)
set_option autoImplicit true in
@[simp] theorem loopK_q6 {g : FnG} {b : FnS} {xs : List D} : loopK g b xs (.bad) = .bad := by first | rfl | (unfold loopK; rfl)
set_option autoImplicit true in
@[simp] theorem loopK1_q1 {g : FnG} {b : FnS} {xs : List D} : loopK1 g b xs (some Γ) = loopK g b xs (b Γ) := by first | rfl | (unfold loopK1; rfl)
set_option autoImplicit true in
@[simp] theorem loopK1_q2 {g : FnG} {b : FnS} {xs : List D} : loopK1 g b xs (none) = .bad := by first | rfl | (unfold loopK1; rfl)
set_option autoImplicit true in
@[simp] theorem RV_lst_q1 {Γ : Ga} : RV.lst Γ (.d (.list xs)) = some xs := by first | rfl | (unfold RV.lst; rfl)
set_option autoImplicit true in
@[simp] theorem RV_lst_q2 {Γ : Ga} : RV.lst Γ (.ow xs) = some xs := by first | rfl | (unfold RV.lst; rfl)
set_option autoImplicit true in
@[simp] theorem addD_q1  : addD  (.int a) (.int b) = some (.int (a + b)) := by first | rfl | (unfold addD; rfl)
set_option autoImplicit true in
@[simp] theorem addD_q2  : addD  (.str a) (.str b) = if a.length + b.length ≤ lim then some (.str (a ++ b)) else none := by first | rfl | (unfold addD; rfl)
set_option autoImplicit true in
@[simp] theorem addD_q3  : addD  (.tuple a) (.tuple b) = if a.length + b.length ≤ lim then some (.tuple (a ++ b)) else none := by first | rfl | (unfold addD; rfl)
set_option autoImplicit true in
@[simp] theorem subD_q1  : subD  (.int a) (.int b) = some (.int (a - b)) := by first | rfl | (unfold subD; rfl)
set_option autoImplicit true in
@[simp] theorem fdivD_q1  : fdivD  (.int a) (.int b) = if fdivOk b then some (.int (a / b)) else none := by first | rfl | (unfold fdivD; rfl)
set_option autoImplicit true in
@[simp] theorem modD_q1  : modD  (.int a) (.int b) = if 0 < b then some (.int (a % b)) else none := by first | rfl | (unfold modD; rfl)
set_option autoImplicit true in
@[simp] theorem powD_q1  : powD  (.int a) (.int b) = if 0 ≤ b ∧ b ≤ 1000000 ∧ a.natAbs < 2 ^ 64 then some (.int (a ^ b.toNat)) else none := by first | rfl | (unfold powD; rfl)
set_option autoImplicit true in
@[simp] theorem negD_q1  : negD  (.int a) = some (.int (-a)) := by first | rfl | (unfold negD; rfl)
set_option autoImplicit true in
@[simp] theorem ltD_q1  : ltD  (.int a) (.int b) = some (decide (a < b)) := by first | rfl | (unfold ltD; rfl)
set_option autoImplicit true in
@[simp] theorem leD_q1  : leD  (.int a) (.int b) = some (decide (a ≤ b)) := by first | rfl | (unfold leD; rfl)
set_option autoImplicit true in
@[simp] theorem gtD_q1  : gtD  (.int a) (.int b) = some (decide (b < a)) := by first | rfl | (unfold gtD; rfl)
set_option autoImplicit true in
@[simp] theorem geD_q1  : geD  (.int a) (.int b) = some (decide (b ≤ a)) := by first | rfl | (unfold geD; rfl)
set_option autoImplicit true in
@[simp] theorem lenD_q1  : lenD  (.list xs) = some (.int xs.length) := by first | rfl | (unfold lenD; rfl)
set_option autoImplicit true in
@[simp] theorem lenD_q2  : lenD  (.tuple xs) = some (.int xs.length) := by first | rfl | (unfold lenD; rfl)
set_option autoImplicit true in
@[simp] theorem lenD_q3  : lenD  (.str z) = if z.length ≤ lim then some (.int z.length) else none := by first | rfl | (unfold lenD; rfl)
set_option autoImplicit true in
@[simp] theorem absD_q1  : absD  (.int i) = some (.int (if i < 0 then -i else i)) := by first | rfl | (unfold absD; rfl)
set_option autoImplicit true in
@[simp] theorem max2D_q1  : max2D  (.int i) (.int j) = some (.int (max i j)) := by first | rfl | (unfold max2D; rfl)
set_option autoImplicit true in
@[simp] theorem min2D_q1  : min2D  (.int i) (.int j) = some (.int (min i j)) := by first | rfl | (unfold min2D; rfl)
set_option autoImplicit true in
@[simp] theorem divmodD_q1  : divmodD  (.int i) (.int j) = if fdivOk j then some (.tuple [.int (i / j), .int (i % j)]) else none := by first | rfl | (unfold divmodD; rfl)
set_option autoImplicit true in
@[simp] theorem sumD_q1  : sumD  (.list xs) = (intsOf xs).map fun ns => .int ns.sum := by first | rfl | (unfold sumD; rfl)
set_option autoImplicit true in
@[simp] theorem noL_q1  : noL  (.tuple xs) = noLs xs := by first | rfl | (unfold noL; rfl)
set_option autoImplicit true in
@[simp] theorem noLs_q1  : noLs  ([]) = true := by first | rfl | (unfold noLs; rfl)
end
section
variable {Γ : Ga} {i j : Nat} {xs : List D} {ns : List Int} {g : FnS} {d : D} {e : Exc} {r s : RV} {t : Sl} {rs : List RV}
@[simp] theorem varK_ow : varK i Γ (some (some (.ow xs))) = .ok (.sl i, Γ) := rfl
@[simp] theorem varK_io : varK i Γ (some (some (.io xs))) = .ok (.sl i, Γ) := rfl
@[simp] theorem varK_lk : varK i Γ (some (some (.lk xs))) = .ok (.sl i, Γ) := rfl
@[simp] theorem varK_scr : varK i Γ (some (some (.scr ns))) = .ok (.sl i, Γ) := rfl
@[simp] theorem hasK_s : hasK (some (some t)) = true := rfl
@[simp] theorem ownK_ow : ownK (some (some (.ow xs))) = true := rfl
@[simp] theorem ownK_io : ownK (some (some (.io xs))) = true := rfl
@[simp] theorem then_ret : SR.then g (.ret d Γ) = .ret d Γ := rfl
@[simp] theorem then_exc : SR.then g (.exc e) = .exc e := rfl
@[simp] theorem then_bk : SR.then g (.bk Γ) = .bk Γ := rfl
@[simp] theorem then_ct : SR.then g (.ct Γ) = .ct Γ := rfl
@[simp] theorem then_bad : SR.then g .bad = .bad := rfl
@[simp] theorem srVal_nx : srVal (.nx Γ) = .ok .none := rfl
@[simp] theorem srVal_ret : srVal (.ret d Γ) = .ok d := rfl
@[simp] theorem srIo_nx : srIo j (.nx Γ) = outAt j .none Γ := rfl
@[simp] theorem srIo_ret : srIo j (.ret d Γ) = outAt j d Γ := rfl
@[simp] theorem srIo_exc : srIo j (.exc e) = .exc e := rfl
@[simp] theorem noL_int {k : Int} : noL (.int k) = true := by unfold noL; rfl
@[simp] theorem noL_bool {b : Bool} : noL (.bool b) = true := by unfold noL; rfl
@[simp] theorem noL_none : noL .none = true := by unfold noL; rfl
@[simp] theorem noL_str {z : Str} : noL (.str z) = true := by unfold noL; rfl
@[simp] theorem noL_list : noL (.list xs) = false := by unfold noL; rfl
@[simp] theorem noLs_cons {x : D} : noLs (x :: xs) = (noL x && noLs xs) := by rw [noLs]
@[simp] theorem is_none {x : D} : isND x .none = some (isNone x) := rfl
@[simp] theorem isnt_none {x : D} : isNotND x .none = some (!isNone x) := rfl
@[simp] theorem isNone_n : isNone .none = true := rfl
@[simp] theorem isNone_i {k : Int} : isNone (.int k) = false := rfl
@[simp] theorem isNone_b {b : Bool} : isNone (.bool b) = false := rfl
@[simp] theorem isNone_t : isNone (.tuple xs) = false := rfl
@[simp] theorem isNone_l : isNone (.list xs) = false := rfl
@[simp] theorem isi_ap {t : Ty} : isiD t d = some (.bool (isiB t d)) := rfl
@[simp] theorem isi_tt : isiB .tuple (.tuple xs) = true := rfl
@[simp] theorem isi_ti {k : Int} : isiB .tuple (.int k) = false := rfl
@[simp] theorem isi_ii {k : Int} : isiB .int (.int k) = true := rfl
@[simp] theorem isi_bi {k : Int} : isiB .bool (.int k) = false := rfl
@[simp] theorem isi_in : isiB .int .none = false := rfl
@[simp] theorem isi_it : isiB .int (.tuple xs) = false := rfl
@[simp] theorem isi_il : isiB .int (.list xs) = false := rfl
def lstOf : Option (Option Sl) → Option (List D)
  | some (some (.ow xs)) => some xs
  | some (some (.io xs)) => some xs
  | some (some (.lk xs)) => some xs
  | _ => none
@[simp] theorem lstOf_ow : lstOf (some (some (.ow xs))) = some xs := rfl
@[simp] theorem lstOf_io : lstOf (some (some (.io xs))) = some xs := rfl
@[simp] theorem lstOf_lk : lstOf (some (some (.lk xs))) = some xs := rfl
@[simp] theorem argSl_d {x : D} : argSl Γ (.d x) = some (.fz x) := rfl
def sendK : Option (Option Sl) → Option Sl
  | some (some (.ow xs)) => some (.fz (.list xs))
  | some (some (.io xs)) => some (.fz (.list xs))
  | some (some (.lk xs)) => some (.fz (.list xs))
  | some (some (.scr ns)) => some (.scr ns)
  | some (some (.fz d)) => some (.fz d)
  | _ => none
@[simp] theorem sendK_ow : sendK (some (some (.ow xs))) = some (.fz (.list xs)) := rfl
@[simp] theorem sendK_io : sendK (some (some (.io xs))) = some (.fz (.list xs)) := rfl
@[simp] theorem sendK_lk : sendK (some (some (.lk xs))) = some (.fz (.list xs)) := rfl
@[simp] theorem sendK_scr : sendK (some (some (.scr ns))) = some (.scr ns) := rfl
@[simp] theorem sendK_fz : sendK (some (some (.fz d))) = some (.fz d) := rfl
@[simp] theorem argSl_sl : argSl Γ (.sl i) = sendK Γ[i]? := by
  show (match Γ[i]? with
    | some (some (.ow xs)) => some (Sl.fz (.list xs))
    | some (some (.io xs)) => some (.fz (.list xs))
    | some (some (.lk xs)) => some (.fz (.list xs))
    | some (some (.scr ns)) => some (.scr ns)
    | some (some (.fz d)) => some (.fz d)
    | _ => none) = _
  rcases Γ[i]? with _ | _ | s
  · rfl
  · rfl
  · cases s <;> rfl
def lendK : Option (Option Sl) → Option Sl
  | some (some (.ow xs)) => some (.io xs)
  | some (some (.io xs)) => some (.io xs)
  | _ => none
@[simp] theorem lendK_ow : lendK (some (some (.ow xs))) = some (.io xs) := rfl
@[simp] theorem lendK_io : lendK (some (some (.io xs))) = some (.io xs) := rfl
@[simp] theorem argIo_sl : argIo Γ (.sl i) = lendK Γ[i]? := by
  show (match Γ[i]? with
    | some (some (.ow xs)) => some (Sl.io xs)
    | some (some (.io xs)) => some (.io xs)
    | _ => none) = _
  rcases Γ[i]? with _ | _ | s
  · rfl
  · rfl
  · cases s <;> rfl
def mkK2 (s : Sl) : Option (List Sl) → Option (List Sl)
  | some as => some (s :: as)
  | none => none
def mkK (Γ : Ga) (rs : List RV) (io : Option Nat) : Option Sl → Option (List Sl)
  | some s => mkK2 s (mkArgs Γ rs io)
  | none => none
@[simp] theorem mkK2_s {s : Sl} {as : List Sl} : mkK2 s (some as) = some (s :: as) := rfl
@[simp] theorem mkK_s {s : Sl} {io : Option Nat} : mkK Γ rs io (some s) = mkK2 s (mkArgs Γ rs io) := rfl
@[simp] theorem mk_cons : mkArgs Γ (r :: rs) none = mkK Γ rs none (argSl Γ r) := by
  rw [mkArgs]
  cases argSl Γ r with
  | none => rfl
  | some s => show (mkArgs Γ rs none).map _ = mkK2 s (mkArgs Γ rs none); cases mkArgs Γ rs none <;> rfl
@[simp] theorem mk_cons0 : mkArgs Γ (r :: rs) (some 0) = mkK Γ rs none (argIo Γ r) := by
  rw [mkArgs]
  cases argIo Γ r with
  | none => rfl
  | some s => show (mkArgs Γ rs none).map _ = mkK2 s (mkArgs Γ rs none); cases mkArgs Γ rs none <;> rfl
@[simp] theorem mk_consn {n : Nat} : mkArgs Γ (r :: rs) (some (n + 1)) = mkK Γ rs (some n) (argSl Γ r) := by
  rw [mkArgs]
  cases argSl Γ r with
  | none => rfl
  | some s => show (mkArgs Γ rs (some n)).map _ = mkK2 s (mkArgs Γ rs (some n)); cases mkArgs Γ rs (some n) <;> rfl
def slPutK (i : Nat) (Γ : Ga) (ys : List D) : Option (Option Sl) → Option Ga
  | some (some (.ow _)) => some (Γ.set i (some (.ow ys)))
  | some (some (.io _)) => some (Γ.set i (some (.io ys)))
  | _ => none
@[simp] theorem slPutK_ow {ys : List D} : slPutK i Γ ys (some (some (.ow xs))) = some (Γ.set i (some (.ow ys))) := rfl
@[simp] theorem slPutK_io {ys : List D} : slPutK i Γ ys (some (some (.io xs))) = some (Γ.set i (some (.io ys))) := rfl
@[simp] theorem slPut_ap {ys : List D} : slPut Γ i ys = slPutK i Γ ys Γ[i]? := by
  unfold slPut
  rcases Γ[i]? with _ | _ | s
  · rfl
  · rfl
  · cases s <;> rfl
@[simp] theorem isSl_d {x : D} : isSl i (.d x) = false := rfl
@[simp] theorem isSl_s : isSl i (.sl j) = (i == j) := rfl
@[simp] theorem outAt_ap : outAt j d Γ = (match Γ[j]? with | some (some (.io xs)) => .ok (d, xs) | _ => .bad) := rfl
@[simp] theorem anyK2_t {xs : List D} : anyK2 r Γ (some (.tuple xs)) = .ok (xs, none, Γ) := rfl
@[simp] theorem anyK2_l {xs : List D} : anyK2 r Γ (some (.list xs)) = itK Γ (itemsL r Γ) := rfl
@[simp] theorem enuK2_t {xs : List D} : enuK2 r Γ (some (.tuple xs)) = .ok (enuD 0 xs, none, Γ) := rfl
@[simp] theorem enuK2_l {xs : List D} : enuK2 r Γ (some (.list xs)) = itK Γ ((itemsL r Γ).map fun p => (enuD 0 p.1, p.2)) := rfl
@[simp] theorem data_fz {x : D} : Sl.data (.fz x) = x := rfl
@[simp] theorem data_ow : Sl.data (.ow xs) = .list xs := rfl
@[simp] theorem data_io : Sl.data (.io xs) = .list xs := rfl
@[simp] theorem data_lk : Sl.data (.lk xs) = .list xs := rfl
@[simp] theorem data_scr : Sl.data (.scr ns) = .list (ns.map .int) := rfl
@[simp] theorem pin_fz {x : D} : Sl.pinned (.fz x) = false := rfl
@[simp] theorem pin_ow : Sl.pinned (.ow xs) = false := rfl
@[simp] theorem pin_io : Sl.pinned (.io xs) = true := rfl
@[simp] theorem pin_lk : Sl.pinned (.lk xs) = true := rfl
@[simp] theorem pin_scr : Sl.pinned (.scr ns) = false := rfl
end
theorem mul_dd {x y : D} {Γ : Ga} (h : RV.lst Γ (.d x) = none) : gMul (.d x) (.d y) Γ = g2K mulD Γ (some x) (some y) := by
  unfold gMul
  rw [h]
  show g2 mulD (.d x) (.d y) Γ = _
  rw [g2_ap]; rfl
theorem add_dd {x y : D} {Γ : Ga} (h : RV.lst Γ (.d x) = none) : gAdd (.d x) (.d y) Γ = g2K addD Γ (some x) (some y) := by
  unfold gAdd
  rw [h]
  show g2 addD (.d x) (.d y) Γ = _
  rw [g2_ap]; rfl
@[simp] theorem lst_int {Γ : Ga} {i : Int} : RV.lst Γ (.d (.int i)) = none := rfl
@[simp] theorem lst_tup {Γ : Ga} {xs : List D} : RV.lst Γ (.d (.tuple xs)) = none := rfl
@[simp] theorem lst_str {Γ : Ga} {z : Str} : RV.lst Γ (.d (.str z)) = none := rfl
@[simp] theorem mul_gi {i : Int} {y : D} {Γ : Ga} : gMul (.d (.int i)) (.d y) Γ = g2K mulD Γ (some (.int i)) (some y) := mul_dd lst_int
@[simp] theorem add_gi {i : Int} {y : D} {Γ : Ga} : gAdd (.d (.int i)) (.d y) Γ = g2K addD Γ (some (.int i)) (some y) := add_dd lst_int
@[simp] theorem add_gt {xs : List D} {y : D} {Γ : Ga} : gAdd (.d (.tuple xs)) (.d y) Γ = g2K addD Γ (some (.tuple xs)) (some y) := add_dd lst_tup
@[simp] theorem add_gs {z : Str} {y : D} {Γ : Ga} : gAdd (.d (.str z)) (.d y) Γ = g2K addD Γ (some (.str z)) (some y) := add_dd lst_str
@[simp] theorem mul_ii {i j : Int} (h : mulOk i j = true) : mulD (.int i) (.int j) = some (.int (i * j)) := by show (if mulOk i j = true then some (PyData.int (i * j)) else none) = _; rw [if_pos h]
theorem shp_of {d : D} (h : d.canLay0 = true) (q : d.depth ≤ 64) : SeqAt.shaped d = true := by unfold SeqAt.shaped; rw [h, decide_eq_true q]; rfl
/-- data of at most so many floors, without texts -/
inductive Shp : Nat → D → Prop
  | non {n : Nat} : Shp n .none
  | bl {n : Nat} (b : Bool) : Shp n (.bool b)
  | int {n : Nat} (i : Int) : Shp n (.int i)
  | tup {n : Nat} {xs : List D} : (∀ x ∈ xs, Shp n x) → Shp (n + 1) (.tuple xs)
  | lst {n : Nat} {xs : List D} : (∀ x ∈ xs, Shp n x) → Shp (n + 1) (.list xs)
theorem lay_all : ∀ {xs : List D} {n : Nat}, (∀ x ∈ xs, x.canLay0 = true ∧ x.depth ≤ n) → PyData.canLayAll0 xs = true ∧ PyData.depthAll xs ≤ n
  | [], n, _ => by simp [PyData.canLayAll0, PyData.depthAll]
  | x :: xs, n, h => by
    have h1 := h x (by simp)
    have h2 := lay_all (xs := xs) (n := n) fun y hy => h y (by simp [hy])
    simp only [PyData.canLayAll0, PyData.depthAll, h1.1, h2.1, Bool.and_self, true_and]
    omega
theorem Shp.lay {n : Nat} {d : D} (h : Shp n d) : d.canLay0 = true ∧ d.depth ≤ n + 1 := by
  induction h with
  | non => simp [PyData.canLay0, PyData.depth]
  | bl b => simp [PyData.canLay0, PyData.depth]
  | int i => simp [PyData.canLay0, PyData.depth]
  | tup h ih =>
    obtain ⟨a, b⟩ := lay_all ih
    simp only [PyData.canLay0, PyData.depth]
    exact ⟨a, by omega⟩
  | lst h ih =>
    obtain ⟨a, b⟩ := lay_all ih
    simp only [PyData.canLay0, PyData.depth]
    exact ⟨a, by omega⟩
theorem Shp.shaped {n : Nat} {d : D} (h : Shp n d) (l : n ≤ 63) : SeqAt.shaped d = true := shp_of h.lay.1 (by have := h.lay.2; omega)
theorem shp_int {i : Int} : SeqAt.shaped (.int i) = true := (Shp.int (n := 0) i).shaped (by decide)
theorem eq_shp {n m : Nat} {x y : D} (h : Shp n x) (q : Shp m y) (l : n ≤ 63) (k : m ≤ 63) : eqD x y = some (PyData.eqv x y) := by
  unfold eqD
  rw [h.shaped l, q.shaped k]
  rfl
@[simp] theorem eq_ii {i j : Int} : eqD (.int i) (.int j) = some (decide (i = j)) := by
  unfold eqD
  rw [if_pos (by simp [shp_int]), PyData.eqv]
  simp [BEq.beq]
@[simp] theorem ne_ii {i j : Int} : neD (.int i) (.int j) = some (!decide (i = j)) := by unfold neD; rw [eq_ii]; rfl
@[simp] theorem back_no {as : List Sl} {rvs : List RV} {io : Option Nat} {Γ0 Γ : Ga} {d : D} (h : noL d = true) : backV as rvs io Γ0 Γ d = .ok (.d d, Γ) := by unfold backV; rw [if_pos h]
@[simp] theorem mk_nil {Γ : Ga} {io : Option Nat} : mkArgs Γ [] io = some [] := by cases io <;> (unfold mkArgs; rfl)
end FL

/-! FU5: comprehensions evaluated; stores. -/
namespace FL
open PySem PySem.Spec L2
section
variable {Γ Γ1 : Ga} {fi : FnI} {vs : List Nat} {g : FnG} {t : FnT} {f : FnE}
theorem lcF_map {F : D → D} : ∀ (xs acc : List D) (Γ : Ga), (∀ x ∈ xs, ∃ Γ1, g (.d x) Γ = some Γ1 ∧ f Γ1 = .ok (.d (F x), Γ1) ∧ wipeG Γ1 vs = Γ) → acc.length + xs.length ≤ lim → lcF vs g tOk f xs acc Γ = .ok (acc ++ xs.map F, Γ)
  | [], acc, Γ, _, _ => by simp [lcF]
  | x :: xs, acc, Γ, h, l => by
    obtain ⟨Γ1, e1, e2, e3⟩ := h x (by simp)
    have l' : acc.length < lim := by rw [List.length_cons] at l; omega
    unfold lcF
    rw [e1]
    simp only [tOk, Rs.bind_ok, if_true, e2, fz_d]
    rw [if_pos l', e3, lcF_map xs (acc ++ [F x]) Γ (fun y hy => h y (by simp [hy])) (by rw [List.length_append, List.length_cons, List.length_nil]; rw [List.length_cons] at l; omega)]
    simp
theorem lcF_filt {F : D → D} {c : D → Bool} : ∀ (xs acc : List D) (Γ : Ga), (∀ x ∈ xs, ∃ Γ1, g (.d x) Γ = some Γ1 ∧ t Γ1 = .ok (c x, Γ1) ∧ (c x = true → f Γ1 = .ok (.d (F x), Γ1)) ∧ wipeG Γ1 vs = Γ) → acc.length + xs.length ≤ lim → lcF vs g t f xs acc Γ = .ok (acc ++ (xs.filter c).map F, Γ)
  | [], acc, Γ, _, _ => by simp [lcF]
  | x :: xs, acc, Γ, h, l => by
    obtain ⟨Γ1, e1, e0, e2, e3⟩ := h x (by simp)
    rw [List.length_cons] at l
    have l' : acc.length < lim := by omega
    unfold lcF
    rw [e1]
    simp only [e0, Rs.bind_ok]
    cases q : c x with
    | true =>
      simp only [if_true, e2 q, Rs.bind_ok, fz_d]
      rw [if_pos l', e3, lcF_filt xs (acc ++ [F x]) Γ (fun y hy => h y (by simp [hy])) (by rw [List.length_append, List.length_cons, List.length_nil]; omega)]
      simp [q]
    | false =>
      simp only [Bool.false_eq_true, if_false]
      rw [e3, lcF_filt xs acc Γ (fun y hy => h y (by simp [hy])) (by omega)]
      simp [q]
theorem wipeG_len : ∀ vs : List Nat, (wipeG Γ vs).length = Γ.length
  | [] => rfl
  | v :: vs => by unfold wipeG; rw [List.length_set, wipeG_len vs]
theorem wipeG_out {i : Nat} : ∀ {vs : List Nat}, i ∉ vs → (wipeG Γ vs)[i]? = Γ[i]?
  | [], _ => rfl
  | v :: vs, h => by
    unfold wipeG
    rw [List.getElem?_set_ne (by rintro rfl; simp at h), wipeG_out fun z => h (by simp [z])]
theorem mend_wipe : mend Γ (wipeG Γ vs) vs = Γ := by
  unfold mend
  rw [wipeG_len]
  apply List.ext_getElem?
  intro i
  rw [List.getElem?_map]
  by_cases h : i < Γ.length
  · rw [List.getElem?_range h]
    by_cases m : i ∈ vs
    · simp [m, h]
    · simp [m, wipeG_out m, h]
  · rw [List.getElem?_eq_none (by simp; omega), List.getElem?_eq_none (by omega)]; rfl
theorem eLc_map {F : D → D} {xs : List D} (hi : fi Γ = .ok (xs, none, Γ1)) (hp : vs.all (plainAt Γ1) = true) (h : ∀ x ∈ xs, ∃ Γ2, g (.d x) (wipeG Γ1 vs) = some Γ2 ∧ f Γ2 = .ok (.d (F x), Γ2) ∧ wipeG Γ2 vs = wipeG Γ1 vs) (l : xs.length ≤ lim) :
    eLc fi vs g tOk f Γ = .ok (.ow (xs.map F), Γ1) := by
  unfold eLc
  rw [hi]
  simp only [Rs.bind_ok]
  rw [if_pos hp, lcF_map xs [] _ h (by simpa using l)]
  simp only [mend_wipe, List.nil_append]
theorem eLc_filt {F : D → D} {c : D → Bool} {xs : List D} (hi : fi Γ = .ok (xs, none, Γ1)) (hp : vs.all (plainAt Γ1) = true) (h : ∀ x ∈ xs, ∃ Γ2, g (.d x) (wipeG Γ1 vs) = some Γ2 ∧ t Γ2 = .ok (c x, Γ2) ∧ (c x = true → f Γ2 = .ok (.d (F x), Γ2)) ∧ wipeG Γ2 vs = wipeG Γ1 vs) (l : xs.length ≤ lim) :
    eLc fi vs g t f Γ = .ok (.ow ((xs.filter c).map F), Γ1) := by
  unfold eLc
  rw [hi]
  simp only [Rs.bind_ok]
  rw [if_pos hp, lcF_filt xs [] _ h (by simpa using l)]
  simp only [mend_wipe, List.nil_append]
end
theorem lim_of {n : Nat} (h : n ≤ 1000000) : n ≤ lim := Nat.le_trans h (by decide)
theorem lim_of' {n : Nat} (h : n < 1000000) : n < lim := Nat.lt_of_lt_of_le h (by decide)
theorem eLc_mapk {Γ Γ1 : Ga} {fi : FnI} {vs : List Nat} {g : FnG} {f : FnE} {α : Type} {ks : List α} {d F : α → D} (hi : fi Γ = .ok (ks.map d, none, Γ1)) (hp : vs.all (plainAt Γ1) = true) (h : ∀ x ∈ ks, ∃ Γ2, g (.d (d x)) (wipeG Γ1 vs) = some Γ2 ∧ f Γ2 = .ok (.d (F x), Γ2) ∧ wipeG Γ2 vs = wipeG Γ1 vs) (l : ks.length ≤ 1000000) :
    eLc fi vs g tOk f Γ = .ok (.ow (ks.map F), Γ1) := by
  have lc : ∀ (ks : List α) (acc : List D), (∀ x ∈ ks, ∃ Γ2, g (.d (d x)) (wipeG Γ1 vs) = some Γ2 ∧ f Γ2 = .ok (.d (F x), Γ2) ∧ wipeG Γ2 vs = wipeG Γ1 vs) → acc.length + ks.length ≤ lim → lcF vs g tOk f (ks.map d) acc (wipeG Γ1 vs) = .ok (acc ++ ks.map F, wipeG Γ1 vs) := by
    intro ks
    induction ks with
    | nil => intro acc _ _; simp [lcF]
    | cons x ks ih =>
      intro acc h l
      obtain ⟨Γ2, e1, e2, e3⟩ := h x (by simp)
      rw [List.length_cons] at l
      have l' : acc.length < lim := by omega
      rw [List.map_cons]
      unfold lcF
      rw [e1]
      simp only [tOk, Rs.bind_ok, if_true, e2, fz_d]
      rw [if_pos l', e3, ih (acc ++ [F x]) (fun y hy => h y (by simp [hy])) (by rw [List.length_append, List.length_cons, List.length_nil]; omega)]
      simp
  unfold eLc
  rw [hi]
  simp only [Rs.bind_ok]
  rw [if_pos hp, lc ks [] h (by rw [List.length_nil, Nat.zero_add]; exact lim_of l)]
  simp only [mend_wipe, List.nil_append]
@[simp] theorem all_map {α : Type} {xs : List α} {p : α → Bool} : allD (.list (xs.map fun x => .bool (p x))) = some (.bool (xs.all p)) := by
  have : xs.map (fun x => PyData.bool (p x)) = (xs.map p).map .bool := by rw [List.map_map]; rfl
  rw [this]
  show (boolsOf ((xs.map p).map .bool)).map _ = _
  rw [boolsOf_map]
  simp
@[simp] theorem any_map {α : Type} {xs : List α} {p : α → Bool} : anyD (.list (xs.map fun x => .bool (p x))) = some (.bool (xs.any p)) := by
  have : xs.map (fun x => PyData.bool (p x)) = (xs.map p).map .bool := by rw [List.map_map]; rfl
  rw [this]
  show (boolsOf ((xs.map p).map .bool)).map _ = _
  rw [boolsOf_map]
  simp
theorem ints_map {α : Type} {xs : List α} {p : α → Int} : intsOf (xs.map fun x => .int (p x)) = some (xs.map p) := by
  have : xs.map (fun x => PyData.int (p x)) = (xs.map p).map .int := by rw [List.map_map]; rfl
  rw [this, intsOf_map]
@[simp] theorem tupleD_l {xs : List D} : tupleD (.list xs) = some (.tuple xs) := rfl
@[simp] theorem tupleD_t {xs : List D} : tupleD (.tuple xs) = some (.tuple xs) := rfl
theorem mx_some {r : List Int} {x : Int} : ∃ m, mxI (x :: r) = some m ∧ (m = x ∨ m ∈ r) ∧ x ≤ m ∧ ∀ y ∈ r, y ≤ m := ⟨_, rfl, (foldl_max r x).1, (foldl_max r x).2.1, (foldl_max r x).2.2⟩
theorem atI_nat {α : Type} {xs : List α} {n : Nat} {x : α} (h : xs[n]? = some x) : atI xs (n : Int) = some x := by
  have hl : n < xs.length := by
    rcases Nat.lt_or_ge n xs.length with l | l
    · exact l
    · rw [List.getElem?_eq_none l] at h; cases h
  unfold atI ixN
  rw [if_pos (Int.natCast_nonneg n), if_pos (by omega)]
  simpa using h
theorem ix_tup {α : Type} {ks : List α} {f : α → D} {n : Nat} {k : α} (h : ks[n]? = some k) : ixD (.tuple (ks.map f)) (.int (n : Int)) = some (f k) := by
  show atI (ks.map f) (n : Int) = some (f k)
  exact atI_nat (by rw [List.getElem?_map, h]; rfl)
theorem ix_lst {α : Type} {ks : List α} {f : α → D} {n : Nat} {k : α} (h : ks[n]? = some k) : ixD (.list (ks.map f)) (.int (n : Int)) = some (f k) := by
  show atI (ks.map f) (n : Int) = some (f k)
  exact atI_nat (by rw [List.getElem?_map, h]; rfl)
@[simp] theorem bitK {x : Option Sl} {d : D} (h : x = some (.fz d)) : freeK (some x) = true := by rw [h]; rfl
theorem bits_lt {n : Nat} {i : Int} (h1 : 0 ≤ i) (h2 : i < ((2 ^ n : Nat) : Int)) : bits n i := by unfold bits; omega
@[simp] theorem ixt_0 {a : D} {r : List D} : ixD (.tuple (a :: r)) (.int 0) = some a := atI_nat (xs := a :: r) (n := 0) rfl
@[simp] theorem ixt_1 {a b : D} {r : List D} : ixD (.tuple (a :: b :: r)) (.int 1) = some b := atI_nat (xs := a :: b :: r) (n := 1) rfl
@[simp] theorem ixt_2 {a b c : D} {r : List D} : ixD (.tuple (a :: b :: c :: r)) (.int 2) = some c := atI_nat (xs := a :: b :: c :: r) (n := 2) rfl
@[simp] theorem ixt_3 {a b c d : D} {r : List D} : ixD (.tuple (a :: b :: c :: d :: r)) (.int 3) = some d := atI_nat (xs := a :: b :: c :: d :: r) (n := 3) rfl
@[simp] theorem ixt_4 {a b c d e : D} {r : List D} : ixD (.tuple (a :: b :: c :: d :: e :: r)) (.int 4) = some e := atI_nat (xs := a :: b :: c :: d :: e :: r) (n := 4) rfl
@[simp] theorem ixl_0 {a : D} {r : List D} : ixD (.list (a :: r)) (.int 0) = some a := atI_nat (xs := a :: r) (n := 0) rfl
@[simp] theorem ixl_1 {a b : D} {r : List D} : ixD (.list (a :: b :: r)) (.int 1) = some b := atI_nat (xs := a :: b :: r) (n := 1) rfl
@[simp] theorem ixl_2 {a b c : D} {r : List D} : ixD (.list (a :: b :: c :: r)) (.int 2) = some c := atI_nat (xs := a :: b :: c :: r) (n := 2) rfl
@[simp] theorem ixl_3 {a b c d : D} {r : List D} : ixD (.list (a :: b :: c :: d :: r)) (.int 3) = some d := atI_nat (xs := a :: b :: c :: d :: r) (n := 3) rfl
@[simp] theorem ixl_4 {a b c d e : D} {r : List D} : ixD (.list (a :: b :: c :: d :: e :: r)) (.int 4) = some e := atI_nat (xs := a :: b :: c :: d :: e :: r) (n := 4) rfl
theorem rgOk_b {i : Int} (h : -1000000000 ≤ i) (l : i ≤ 1000000000) : rgOk i = true := by
  unfold rgOk
  rw [Bool.and_eq_true, decide_eq_true_eq, decide_eq_true_eq]
  exact ⟨Int.le_trans (by decide) h, Int.lt_of_le_of_lt l (by decide)⟩
theorem rgOk_n {n : Nat} (h : n ≤ 1000000) : rgOk ((n : Nat) : Int) = true := rgOk_b (by omega) (by omega)
theorem rgOk_1 : rgOk 1 = true := rgOk_b (by decide) (by decide)
theorem r2_ap {fa : FnA} {Γ Γ1 : Ga} {i j : Int} (h : fa Γ = .ok ([.d (.int i), .d (.int j)], Γ1)) (hi : rgOk i = true) (hj : rgOk j = true) : iR2 fa Γ = .ok (rgs i (j - i).toNat, none, Γ1) := by
  unfold iR2
  rw [h]
  simp only [Rs.bind_ok]
  rw [hi, hj]
  rfl
@[simp] theorem lim_s : lim = 16777216 := rfl
@[simp] theorem ioK4_s {i : Nat} {Γ : Ga} {ys : List D} : ioK4 i Γ ys = if noLs ys then slPut Γ i ys else none := rfl
end FL

/-! FU6: what may be shown; kinds and stores; the box. -/
namespace FL
open PySem PySem.Spec L2
mutual
/-- none, truths, numbers of less than 1920 bits, lists and tuples of such -/
def numOk : D → Bool
  | .none => true
  | .bool _ => true
  | .int i => decide (i.natAbs.log2 < 1920)
  | .list xs => numsOk xs
  | .tuple xs => numsOk xs
  | _ => false
def numsOk : List D → Bool
  | [] => true
  | x :: xs => numOk x && numsOk xs
end
mutual
def wt : D → Nat
  | .list xs => wts xs + 3
  | .tuple xs => wts xs + 3
  | _ => 1921
def wts : List D → Nat
  | [] => 0
  | x :: xs => wt x + 2 + wts xs
end
theorem app_len (a b : Str) : (a ++ b).length = a.length + b.length := Str.length_append a b
theorem from_len : ∀ (ts : List Str) (k : Nat) (acc : Str), (textFrom k acc ts).length ≤ acc.length + (ts.map fun t => t.length + 2).sum
  | [], k, acc => by simp [textFrom]
  | t :: r, k, acc => by
    have ih := from_len r (k + 1) (acc ++ (if k > 0 then ", " else "" : String) ++ t)
    rw [List.map_cons, List.sum_cons]
    refine Nat.le_trans ih ?_
    rw [app_len, app_len]
    have : (Str.ofString (if k > 0 then ", " else "" : String)).length ≤ 2 := by split <;> decide
    omega
theorem join_len : ∀ (ts : List Str), (Str.join ", " ts).length ≤ (ts.map fun t => t.length + 2).sum := fun ts => by
  cases ts with
  | nil => exact Nat.zero_le _
  | cons t r =>
    have := join_length_add (t :: r) (by simp)
    have q : ∀ l : List Str, piled l = (l.map fun t => t.length + 2).sum := fun l => by
      induction l with
      | nil => rfl
      | cons x l ih => simp [piled] at ih ⊢
    rw [q] at this
    omega
mutual
theorem shown_wt : ∀ (d : D), numOk d = true → d.showable = true ∧ d.hasDict = false ∧ d.shown.length ≤ wt d
  | .none, _ => by simp only [PyData.showable, PyData.hasDict, PyData.shown, wt]; decide
  | .bool b, _ => by cases b <;> (simp only [PyData.showable, PyData.hasDict, PyData.shown, wt]; decide)
  | .int i, h => by
    unfold numOk at h
    have h' := of_decide_eq_true h
    refine ⟨by simp only [PyData.showable]; exact h, by simp only [PyData.hasDict], ?_⟩
    simp only [PyData.shown, wt]
    exact PyProof.Rows.int_text_len_1921 h'
  | .str _, h => by unfold numOk at h; cases h
  | .dict _, h => by unfold numOk at h; cases h
  | .list xs, h => by
    unfold numOk at h
    obtain ⟨a, b, c⟩ := shown_wts xs h
    refine ⟨by simp only [PyData.showable]; exact a, by simp only [PyData.hasDict]; exact b, ?_⟩
    simp only [PyData.shown, wt, listText]
    rw [app_len]
    have := from_len (PyData.shownAll xs) 0 "["
    have q1 : (Str.ofString "[").length = 1 := by decide
    have q2 : (Str.ofString "]").length = 1 := by decide
    omega
  | .tuple xs, h => by
    unfold numOk at h
    obtain ⟨a, b, c⟩ := shown_wts xs h
    refine ⟨by simp only [PyData.showable]; exact a, by simp only [PyData.hasDict]; exact b, ?_⟩
    simp only [PyData.shown, wt, tupleText]
    rw [app_len, app_len]
    have := join_len (PyData.shownAll xs)
    have q1 : (Str.ofString "(").length = 1 := by decide
    have q2 : (Str.ofString (if (PyData.shownAll xs).length == 1 then ",)" else ")" : String)).length ≤ 2 := by split <;> decide
    omega
theorem shown_wts : ∀ (xs : List D), numsOk xs = true → PyData.showableAll xs = true ∧ PyData.hasDictAll xs = false ∧ ((PyData.shownAll xs).map fun t => t.length + 2).sum ≤ wts xs
  | [], _ => by simp [PyData.showableAll, PyData.hasDictAll, PyData.shownAll, wts]
  | x :: xs, h => by
    unfold numsOk at h
    rw [Bool.and_eq_true] at h
    obtain ⟨a, b, c⟩ := shown_wt x h.1
    obtain ⟨a2, b2, c2⟩ := shown_wts xs h.2
    refine ⟨by simp only [PyData.showableAll, a, a2, Bool.and_self], by simp only [PyData.hasDictAll, b, b2, Bool.or_self], ?_⟩
    simp only [PyData.shownAll, wts, List.map_cons, List.sum_cons]
    omega
end
theorem shwOk_of {n : Nat} {d : D} (h : numOk d = true) (s : Shp n d) (hn : n ≤ 90) (w : wt d ≤ 1000000) : shwOk d = true := by
  obtain ⟨a, b, c⟩ := shown_wt d h
  have dp := s.lay.2
  unfold shwOk
  simp only [Bool.and_eq_true, Bool.not_eq_true', decide_eq_true_eq]
  exact ⟨⟨⟨a, b⟩, by omega⟩, Nat.le_trans c (lim_of w)⟩
theorem numsOk_of {xs : List D} (h : ∀ x ∈ xs, numOk x = true) : numsOk xs = true := by
  induction xs with
  | nil => unfold numsOk; rfl
  | cons x xs ih => unfold numsOk; rw [h x (by simp), ih fun y hy => h y (by simp [hy])]; rfl
theorem wts_of {xs : List D} {a : Nat} (h : ∀ x ∈ xs, wt x ≤ a) : wts xs ≤ (a + 2) * xs.length := by
  induction xs with
  | nil => unfold wts; omega
  | cons x xs ih =>
    have h1 := h x (by simp)
    have h2 := ih fun y hy => h y (by simp [hy])
    unfold wts
    rw [List.length_cons, Nat.mul_add, Nat.mul_one]
    omega
/-! comparing -/
@[simp] theorem eqS_ii {i j : Int} : eqS (.int i) (.int j) = some (decide (i = j)) := eq_ii
@[simp] theorem neS_ii {i j : Int} : neS (.int i) (.int j) = some (!decide (i = j)) := by unfold neS; rw [eqS_ii]; rfl
@[simp] theorem eqS_ss {a b : Str} : eqS (.str a) (.str b) = some (decide (a = b)) := rfl
@[simp] theorem neS_ss {a b : Str} : neS (.str a) (.str b) = some (!decide (a = b)) := rfl
theorem eqS_shp {n m : Nat} {x y : D} (h : Shp n x) (q : Shp m y) (l : n ≤ 63) (k : m ≤ 63) : eqS x y = some (PyData.eqv x y) := by
  rw [← eq_shp h q l k]
  cases h <;> rfl
theorem neS_shp {n m : Nat} {x y : D} (h : Shp n x) (q : Shp m y) (l : n ≤ 63) (k : m ≤ 63) : neS x y = some (!PyData.eqv x y) := by unfold neS; rw [eqS_shp h q l k]; rfl
theorem repr_l {xs : List D} (h : shwOk (.list xs) = true) : reprD (.list xs) = some (.str (PyData.shown (.list xs))) := by
  show (if shwOk (.list xs) then some (PyData.str (PyData.shown (.list xs))) else none) = _
  rw [if_pos h]
theorem repr_t {xs : List D} (h : shwOk (.tuple xs) = true) : reprD (.tuple xs) = some (.str (PyData.shown (.tuple xs))) := by
  show (if shwOk (.tuple xs) then some (PyData.str (PyData.shown (.tuple xs))) else none) = _
  rw [if_pos h]
/-! kinds -/
structure Kn where
  w : Int
  v : Int
  m : Option Int
def mD : Option Int → D
  | none => .none
  | some i => .int i
def Kn.d (k : Kn) : D := .tuple [.int k.w, .int k.v, mD k.m]
@[simp] theorem kn0 (k : Kn) : ixD k.d (.int 0) = some (.int k.w) := by unfold Kn.d; simp
@[simp] theorem kn1 (k : Kn) : ixD k.d (.int 1) = some (.int k.v) := by unfold Kn.d; simp
@[simp] theorem kn2 (k : Kn) : ixD k.d (.int 2) = some (mD k.m) := by unfold Kn.d; simp
structure Kn.ok (k : Kn) : Prop where
  w1 : 1 ≤ k.w
  v0 : 0 ≤ k.v
  m0 : ∀ x, k.m = some x → 0 ≤ x
theorem Kn.shp (k : Kn) : Shp 1 k.d := by
  refine .tup fun y hy => ?_
  simp at hy
  rcases hy with rfl | rfl | rfl
  · exact .int _
  · exact .int _
  · cases k.m with
    | none => exact .non
    | some i => exact .int i
theorem noL_kn (k : Kn) : noL k.d = true := by
  unfold Kn.d
  rcases k with ⟨w, v, _ | m⟩ <;> simp [mD]
theorem noLs_kn (ks : List Kn) : noLs (ks.map Kn.d) = true := by
  induction ks with
  | nil => simp
  | cons k ks ih => simp [ih, noL_kn]
@[simp] theorem isNone_m (m : Option Int) : isNone (mD m) = m.isNone := by cases m <;> rfl
end FL

/-! FU7: comprehensions over what is written as a map. -/
namespace FL
open PySem PySem.Spec L2
section
variable {α : Type} {Γ Γ1 Γ0 : Ga} {fi : FnI} {vs : List Nat} {g : FnG} {t : FnT} {f : FnE} {ks : List α} {d F : α → D} {c : α → Bool}
theorem lcF_k : ∀ (ks : List α) (acc : List D), (∀ x ∈ ks, ∃ Γ2, g (.d (d x)) (wipeG Γ1 vs) = some Γ2 ∧ t Γ2 = .ok (c x, Γ2) ∧ (c x = true → f Γ2 = .ok (.d (F x), Γ2)) ∧ wipeG Γ2 vs = wipeG Γ1 vs) → acc.length + ks.length ≤ lim → lcF vs g t f (ks.map d) acc (wipeG Γ1 vs) = .ok (acc ++ (ks.filter c).map F, wipeG Γ1 vs) := by
  intro ks
  induction ks with
  | nil => intro acc _ _; simp -implicitDefEqProofs [lcF]
  | cons x ks ih =>
    intro acc h l
    obtain ⟨Γ2, e1, e0, e2, e3⟩ := h x (by simp)
    rw [List.length_cons] at l
    have l' : acc.length < lim := by omega
    rw [List.map_cons]
    unfold lcF
    rw [e1]
    simp only [e0, bind_ok_s]
    cases q : c x with
    | true =>
      simp only [if_true, e2 q, bind_ok_s, fz_d]
      rw [if_pos l', e3, ih (acc ++ [F x]) (fun y hy => h y (by simp [hy])) (by rw [List.length_append, List.length_cons, List.length_nil]; omega), List.filter_cons_of_pos q]
      simp
    | false =>
      simp only [Bool.false_eq_true, if_false]
      rw [e3, ih acc (fun y hy => h y (by simp [hy])) (by omega), List.filter_cons_of_neg (by simp [q])]
/-- a comprehension with an if -/
theorem eLc_if (hi : fi Γ = .ok (ks.map d, none, Γ1)) (hp : vs.all (plainAt Γ1) = true) (h : ∀ x ∈ ks, ∃ Γ2, g (.d (d x)) (wipeG Γ1 vs) = some Γ2 ∧ t Γ2 = .ok (c x, Γ2) ∧ (c x = true → f Γ2 = .ok (.d (F x), Γ2)) ∧ wipeG Γ2 vs = wipeG Γ1 vs) (l : ks.length ≤ 1000000) :
    eLc fi vs g t f Γ = .ok (.ow ((ks.filter c).map F), Γ1) := by
  unfold eLc
  rw [hi]
  simp only [bind_ok_s]
  rw [if_pos hp, lcF_k ks [] h (by rw [List.length_nil, Nat.zero_add]; exact lim_of l)]
  simp only [mend_wipe, List.nil_append]
/-- .. over a name's own list, shut meanwhile -/
theorem eLc_lk {i : Nat} (hi : fi Γ = .ok (ks.map d, some i, Γ0)) (hs : shut i Γ0 = Γ1) (hu : unlk i Γ1 = some Γ0) (hp : vs.all (plainAt Γ1) = true) (h : ∀ x ∈ ks, ∃ Γ2, g (.d (d x)) (wipeG Γ1 vs) = some Γ2 ∧ t Γ2 = .ok (c x, Γ2) ∧ (c x = true → f Γ2 = .ok (.d (F x), Γ2)) ∧ wipeG Γ2 vs = wipeG Γ1 vs) (l : ks.length ≤ 1000000) :
    eLc fi vs g t f Γ = .ok (.ow ((ks.filter c).map F), Γ0) := by
  unfold eLc
  rw [hi]
  simp only [bind_ok_s]
  rw [hs, if_pos hp, lcF_k ks [] h (by rw [List.length_nil, Nat.zero_add]; exact lim_of l)]
  simp only [mend_wipe, List.nil_append, hu]
end
theorem filter_t {α : Type} {l : List α} : l.filter (fun _ => true) = l := by simp
theorem rgs0 {n : Nat} : rgs 0 n = (List.range n).map fun (i : Nat) => PyData.int (i : Int) := by
  unfold rgs
  exact List.map_congr_left fun i _ => by rw [Int.zero_add]
theorem enu_range (xs : List D) : enuD 0 xs = (List.range xs.length).map fun (i : Nat) => PyData.tuple [.int (i : Int), xs.getD i .none] := by
  apply List.ext_getElem?
  intro i
  rw [enuD_get, List.getElem?_map]
  by_cases h : i < xs.length
  · rw [List.getElem?_range h]
    simp [h, List.getD, Nat.zero_add]
  · rw [List.getElem?_eq_none (by omega), List.getElem?_eq_none (by simp; omega)]
    rfl
theorem eqv_int {i j : Int} : PyData.eqv (.int i) (.int j) = decide (i = j) := by rw [PyData.eqv]; simp [BEq.beq]
theorem notIn_ints {i : Nat} {G : List Nat} : notInD (.int (i : Int)) (.list (G.map fun (j : Nat) => PyData.int (j : Int))) = some (!decide (i ∈ G)) := by
  unfold notInD
  have e : inD (.int (i : Int)) (.list (G.map fun (j : Nat) => PyData.int (j : Int))) = some (decide (i ∈ G)) := by
    show (if SeqAt.shaped (.int (i : Int)) && SeqAt.shaped (.list (G.map fun (j : Nat) => PyData.int (j : Int))) then some ((G.map fun (j : Nat) => PyData.int (j : Int)).any fun z => PyData.eqv z (.int (i : Int))) else none) = _
    rw [shp_int, (Shp.lst (n := 0) (xs := G.map fun (j : Nat) => PyData.int (j : Int)) fun x hx => by obtain ⟨j, _, rfl⟩ := List.mem_map.mp hx; exact .int _).shaped (by decide)]
    rw [if_pos (by rfl)]
    congr 1
    rw [Bool.eq_iff_iff]
    simp only [List.any_map, List.any_eq_true, decide_eq_true_eq, Function.comp, eqv_int]
    constructor
    · rintro ⟨j, hj, e⟩
      have : j = i := by omega
      exact this ▸ hj
    · exact fun h => ⟨i, h, rfl⟩
  rw [e]; rfl
theorem lt_of_get {α : Type} {l : List α} {i : Nat} {x : α} (h : l[i]? = some x) : i < l.length := by
  rcases Nat.lt_or_ge i l.length with q | q
  · exact q
  · rw [List.getElem?_eq_none q] at h; cases h
theorem ne_nil {α : Type} {l : List α} {F : α → D} (hs : ∀ x ∈ l, Shp 8 (F x)) : neS (.list (l.map F)) (.list []) = some (!l.isEmpty) := by
  rw [neS_shp (n := 9) (m := 1) (.lst fun x hx => by obtain ⟨y, hy, rfl⟩ := List.mem_map.mp hx; exact hs y hy) (.lst fun x hx => by simp at hx) (by decide) (by decide)]
  cases l with
  | nil => rw [List.map_nil, PyData.eqv, PyData.eqvAll]; rfl
  | cons x l => rw [List.map_cons, PyData.eqv, PyData.eqvAll]; rfl
end FL

/-! FU8: while; the greatest divisor. -/
namespace FL
open PySem PySem.Spec L2
section
variable {t : FnT} {b : FnS}
/-- a while that comes to its end: a number that falls at each turn -/
theorem while_run (P : Nat → Ga → Prop) (Q : Ga → Prop) (step : ∀ n Γ, P n Γ → (t Γ = .ok (false, Γ) ∧ Q Γ) ∨ ∃ Γ2, t Γ = .ok (true, Γ) ∧ b Γ = .nx Γ2 ∧ ∃ m, m < n ∧ P m Γ2) : ∀ n Γ, P n Γ → ∃ Γ', sWhile t b Γ = .nx Γ' ∧ Q Γ' := by
  have go : ∀ n Γ, P n Γ → ∃ k Γ', whileN t b k Γ = .nx Γ' ∧ Q Γ' := fun n => by
    induction n using Nat.strongRecOn with
    | _ n ih =>
      intro Γ h
      rcases step n Γ h with ⟨e, q⟩ | ⟨Γ2, e, eb, m, hm, h2⟩
      · refine ⟨1, Γ, ?_, q⟩
        unfold whileN
        rw [e]; rfl
      · obtain ⟨k, Γ', e2, q⟩ := ih m hm Γ2 h2
        refine ⟨k + 1, Γ', ?_, q⟩
        unfold whileN
        rw [e, toS_ok]
        simp only [if_true, eb]
        exact e2
  intro n Γ h
  obtain ⟨k, Γ', e, q⟩ := go n Γ h
  exact ⟨Γ', by rw [sWhile_eq (n := k) (by rw [e]; rfl), e], q⟩
end
abbrev gcdT : FnT := tst (eBin (gB gtD) (eVar 1) (eC (.int 0)))
abbrev gcdB : FnS := sPar 0 1 (aCons (eVar 1) (aCons (eBin (g2 modD) (eVar 0) (eVar 1)) aNil))
theorem gcd_run {a b : Int} (ha : 0 ≤ a) (hb : 0 ≤ b) : sWhile gcdT gcdB [some (.fz (.int a)), some (.fz (.int b))] = .nx [some (.fz (.int (Int.gcd a b : Nat))), some (.fz (.int 0))] := by
  obtain ⟨Γ', e, q⟩ := while_run (t := gcdT) (b := gcdB) (fun n Γ => ∃ x y : Int, 0 ≤ x ∧ 0 ≤ y ∧ y.toNat = n ∧ Int.gcd x y = Int.gcd a b ∧ Γ = [some (.fz (.int x)), some (.fz (.int y))]) (fun Γ => Γ = [some (.fz (.int (Int.gcd a b : Nat))), some (.fz (.int 0))])
    (fun n Γ ⟨x, y, hx, hy, hn, hg, hΓ⟩ => by
      subst hΓ
      by_cases c : 0 < y
      · refine .inr ⟨[some (.fz (.int y)), some (.fz (.int (x % y)))], by simp -implicitDefEqProofs [c], by simp -implicitDefEqProofs [c], (x % y).toNat, ?_, y, x % y, hy, Int.emod_nonneg _ (by omega), rfl, ?_, rfl⟩
        · have := Int.emod_lt_of_pos x c
          have := Int.emod_nonneg x (Int.ne_of_gt c)
          omega
        · rw [← hg]
          obtain ⟨x', rfl⟩ := Int.eq_ofNat_of_zero_le hx
          obtain ⟨y', rfl⟩ := Int.eq_ofNat_of_zero_le hy
          rw [← Int.natCast_emod]
          show Nat.gcd y' (x' % y') = Nat.gcd x' y'
          rw [Nat.gcd_comm x' y', Nat.gcd_rec y' x', Nat.gcd_comm]
      · have y0 : y = 0 := by omega
        subst y0
        have e : ((Int.gcd a b : Nat) : Int) = x := by rw [← hg, Int.gcd_zero_right]; omega
        exact .inl ⟨by simp -implicitDefEqProofs, by rw [e]⟩) b.toNat _ ⟨a, b, ha, hb, rfl, rfl, rfl⟩
  rw [e, q]
end FL

/-! law_k63_bounds_of_two_prices: the walk, printed by gen.py -/
namespace Lw_k63
open PySem PySem.Spec L2 FL
/-- _law_box (script, k) slots 0:script 1:k 2:here 3:number 4:j 5:part -/
noncomputable def B1__law_box : FnS := (sSeq (sAsg (eBin (g2 modD) (eBin gAdd (eBin gAdd (eBin gMul (eBin (g2 modD) (eVar 2) (eC (.int 2147483647))) (eC (.int 48271))) (eBin gMul (eC (.int 7919)) (eVar 4))) (eC (.int 1))) (eC (.int 2147483647))) (gN 5))
    (sSeq (sAsg (eBin (g2 modD) (eBin gMul (eVar 5) (eVar 5)) (eC (.int 2147483629))) (gN 5))
    (sAsg (eBin gAdd (eBin gMul (eVar 3) (eC (.int 2147483647))) (eBin (g2 modD) (eBin gMul (eVar 5) (eBin gAdd (eVar 5) (eC (.int 13)))) (eC (.int 2147483647)))) (gN 3))))
noncomputable def f__law_box : FnS := (sSeq (sAsg (eBin gAdd (eBin gMul (eC (.int 7919)) (eVar 1)) (eC (.int 13))) (gN 2))
    (sSeq (sIf (tst (eBin (gB ltD) (eVar 1) (eUn (g1 lenD) (eVar 0)))) (sAsg (eBin (g2 ixD) (eVar 0) (eVar 1)) (gN 2)) sNil)
    (sSeq (sIf (tst (eBin (gB eqS) (eBin (g2 modD) (eVar 2) (eC (.int 2))) (eC (.int 0)))) (sRet (eLst (aCons (eBin (g2 fdivD) (eVar 2) (eC (.int 2))) aNil))) sNil)
    (sSeq (sAsg (eC (.int 0)) (gN 3))
    (sSeq (sFor (iR1 (aCons (eC (.int 16)) aNil)) (gN 4) B1__law_box)
    (sRet (eLst (aCons (eVar 3) aNil))))))))
noncomputable def run__law_box : FnR := runBody 6 f__law_box
/-- _law_divisor (one, other) slots 0:one 1:other -/
noncomputable def T1__law_divisor : FnT := (tst (eBin (gB gtD) (eVar 1) (eC (.int 0))))
noncomputable def B2__law_divisor : FnS := (sPar 0 1 (aCons (eVar 1) (aCons (eBin (g2 modD) (eVar 0) (eVar 1)) aNil)))
noncomputable def f__law_divisor : FnS := (sSeq (sPar 0 1 (aCons (eUn (g1 absD) (eVar 0)) (aCons (eUn (g1 absD) (eVar 1)) aNil)))
    (sSeq (sWhile T1__law_divisor B2__law_divisor)
    (sRet (eVar 0))))
noncomputable def run__law_divisor : FnR := runBody 2 f__law_divisor
/-- _law_low (top, bottom) slots 0:top 1:bottom 2:by -/
noncomputable def f__law_low : FnS := (sSeq (sAsg (eCall run__law_divisor 2 none (aCons (eVar 0) (aCons (eVar 1) aNil))) (gN 2))
    (sRet (eTup (aCons (eBin (g2 fdivD) (eVar 0) (eVar 2)) (aCons (eBin (g2 fdivD) (eVar 1) (eVar 2)) aNil)))))
noncomputable def run__law_low : FnR := runBody 3 f__law_low
/-- _law_plus (one, other) slots 0:one 1:other -/
noncomputable def f__law_plus : FnS := (sRet (eCall run__law_low 2 none (aCons (eBin gAdd (eBin gMul (eBin (g2 ixD) (eVar 0) (eC (.int 0))) (eBin (g2 ixD) (eVar 1) (eC (.int 1)))) (eBin gMul (eBin (g2 ixD) (eVar 1) (eC (.int 0))) (eBin (g2 ixD) (eVar 0) (eC (.int 1))))) (aCons (eBin gMul (eBin (g2 ixD) (eVar 0) (eC (.int 1))) (eBin (g2 ixD) (eVar 1) (eC (.int 1)))) aNil))))
noncomputable def run__law_plus : FnR := runBody 2 f__law_plus
/-- _law_take (box, many) slots 0:box 1:many 2:left 3:digit -/
noncomputable def f__law_take : FnS := (sSeq (sAsg (eBin (g2 divmodD) (eBin (g2 ixD) (eVar 0) (eC (.int 0))) (eVar 1)) (gT (gsCons (gN 2) (gsCons (gN 3) gsNil))))
    (sSeq (sSetIx 0 (eC (.int 0)) (eVar 2))
    (sRet (eVar 3))))
noncomputable def run__law_take : FnR := runBody 4 f__law_take
/-- _law_price (box, store) slots 0:box 1:store 2:kinds 3:way 4:kind -/
noncomputable def L1__law_price : FnE := (eLc (iAny (eVar 1)) [4] (gN 4) (tst (eBin (gB gtD) (eBin (g2 ixD) (eVar 4) (eC (.int 1))) (eC (.int 0)))) (eVar 4))
noncomputable def f__law_price : FnS := (sSeq (sAsg L1__law_price (gN 2))
    (sSeq (sAsg (eCall run__law_take 2 (some 0) (aCons (eVar 0) (aCons (eC (.int 3)) aNil))) (gN 3))
    (sSeq (sIf (fOr (tst (eBin (gB eqS) (eVar 3) (eC (.int 0)))) (tst (eBin (gB eqS) (eVar 2) (eLst aNil)))) (sRet (eCall run__law_low 2 none (aCons (eCall run__law_take 2 (some 0) (aCons (eVar 0) (aCons (eC (.int 9)) aNil))) (aCons (eBin gAdd (eC (.int 1)) (eCall run__law_take 2 (some 0) (aCons (eVar 0) (aCons (eC (.int 9)) aNil)))) aNil)))) sNil)
    (sSeq (sAsg (eBin (g2 ixD) (eVar 2) (eCall run__law_take 2 (some 0) (aCons (eVar 0) (aCons (eUn (g1 lenD) (eVar 2)) aNil)))) (gN 4))
    (sRet (eIf (tst (eBin (gB eqS) (eVar 3) (eC (.int 1)))) (eCall run__law_low 2 none (aCons (eBin (g2 ixD) (eVar 4) (eC (.int 1))) (aCons (eBin (g2 ixD) (eVar 4) (eC (.int 0))) aNil))) (eTup (aCons (eC (.int 0)) (aCons (eC (.int 1)) aNil)))))))))
noncomputable def run__law_price : FnR := runBody 5 f__law_price
/-- _law_single (box, most) slots 0:box 1:most 2:far 3:found 4:k 5:heft 6:gain -/
noncomputable def B1__law_single : FnS := (sSeq (sPar 5 6 (aCons (eBin gAdd (eBin gMul (eVar 2) (eBin gAdd (eC (.int 1)) (eCall run__law_take 2 (some 0) (aCons (eVar 0) (aCons (eC (.int 9)) aNil))))) (eBin gMul (eVar 4) (eBin (g2 subD) (eVar 2) (eC (.int 1))))) (aCons (eCall run__law_take 2 (some 0) (aCons (eVar 0) (aCons (eC (.int 12)) aNil))) aNil)))
    (sExpr (eMet 3 (eTup (aCons (eVar 5) (aCons (eVar 6) (aCons (eUn (g1 intD) (eBin (gB gtD) (eCall run__law_take 2 (some 0) (aCons (eVar 0) (aCons (eC (.int 5)) aNil))) (eC (.int 0)))) aNil)))) (outApp 3))))
noncomputable def f__law_single : FnS := (sSeq (sAsg (eBin (g2 ixD) (eLst (aCons (eC (.int 1)) (aCons (eC (.int 1)) (aCons (eBin (g2 powD) (eC (.int 10)) (eC (.int 15))) aNil)))) (eCall run__law_take 2 (some 0) (aCons (eVar 0) (aCons (eC (.int 3)) aNil)))) (gN 2))
    (sSeq (sAsg (eLst aNil) (gN 3))
    (sSeq (sFor (iR1 (aCons (eCall run__law_take 2 (some 0) (aCons (eVar 0) (aCons (eBin gAdd (eVar 1) (eC (.int 1))) aNil))) aNil)) (gN 4) B1__law_single)
    (sRet (eUn (g1 tupleD) (eVar 3))))))
noncomputable def run__law_single : FnR := runBody 7 f__law_single
/-- common (one, other) slots 0:one 1:other -/
noncomputable def T1_common : FnT := (tst (eBin (gB gtD) (eVar 1) (eC (.int 0))))
noncomputable def B2_common : FnS := (sPar 0 1 (aCons (eVar 1) (aCons (eBin (g2 modD) (eVar 0) (eVar 1)) aNil)))
noncomputable def f_common : FnS := (sSeq (sWhile T1_common B2_common)
    (sRet (eVar 0)))
noncomputable def run_common : FnR := runBody 2 f_common
/-- is_from (thing, least) slots 0:thing 1:least -/
noncomputable def f_is_from : FnS := (sRet (eAnd (eUn (g1 (isiD .int)) (eVar 0)) (eAnd (eNot (eUn (g1 (isiD .bool)) (eVar 0))) (eBin (gB geD) (eVar 0) (eVar 1)))))
noncomputable def run_is_from : FnR := runBody 2 f_is_from
/-- is_price (thing) slots 0:thing -/
noncomputable def f_is_price : FnS := (sSeq (sIf (fOr (fNot (tst (eUn (g1 (isiD .tuple)) (eVar 0)))) (fOr (tst (eBin (gB neS) (eUn (g1 lenD) (eVar 0)) (eC (.int 2)))) (fOr (fNot (tst (eCall run_is_from 2 none (aCons (eBin (g2 ixD) (eVar 0) (eC (.int 0))) (aCons (eC (.int 0)) aNil))))) (fNot (tst (eCall run_is_from 2 none (aCons (eBin (g2 ixD) (eVar 0) (eC (.int 1))) (aCons (eC (.int 1)) aNil)))))))) (sRet (eC (.bool false))) sNil)
    (sRet (eBin (gB eqS) (eCall run_common 2 none (aCons (eBin (g2 ixD) (eVar 0) (eC (.int 0))) (aCons (eBin (g2 ixD) (eVar 0) (eC (.int 1))) aNil))) (eC (.int 1)))))
noncomputable def run_is_price : FnR := runBody 1 f_is_price
/-- made (top, bottom) slots 0:top 1:bottom 2:share -/
noncomputable def f_made : FnS := (sSeq (sAsg (eCall run_common 2 none (aCons (eVar 0) (aCons (eVar 1) aNil))) (gN 2))
    (sRet (eTup (aCons (eBin (g2 fdivD) (eVar 0) (eVar 2)) (aCons (eBin (g2 fdivD) (eVar 1) (eVar 2)) aNil)))))
noncomputable def run_made : FnR := runBody 3 f_made
/-- need_number (number) slots 0:number -/
noncomputable def f_need_number : FnS := (sIf (fNot (tst (eCall run_is_from 2 none (aCons (eVar 0) (aCons (eC (.int 0)) aNil))))) (sRaise "NoNumber") sNil)
noncomputable def run_need_number : FnR := runBody 1 f_need_number
/-- is_kind (thing) slots 0:thing -/
noncomputable def f_is_kind : FnS := (sSeq (sIf (fOr (fNot (tst (eUn (g1 (isiD .tuple)) (eVar 0)))) (tst (eBin (gB neS) (eUn (g1 lenD) (eVar 0)) (eC (.int 3))))) (sRet (eC (.bool false))) sNil)
    (sSeq (sIf (fOr (fNot (tst (eCall run_is_from 2 none (aCons (eBin (g2 ixD) (eVar 0) (eC (.int 0))) (aCons (eC (.int 1)) aNil))))) (fNot (tst (eCall run_is_from 2 none (aCons (eBin (g2 ixD) (eVar 0) (eC (.int 1))) (aCons (eC (.int 0)) aNil)))))) (sRet (eC (.bool false))) sNil)
    (sRet (eOr (eBin (gB isND) (eBin (g2 ixD) (eVar 0) (eC (.int 2))) (eC .none)) (eCall run_is_from 2 none (aCons (eBin (g2 ixD) (eVar 0) (eC (.int 2))) (aCons (eC (.int 0)) aNil)))))))
noncomputable def run_is_kind : FnR := runBody 1 f_is_kind
/-- is_store (thing) slots 0:thing 1:one -/
noncomputable def L1_is_store : FnE := (eLc (iAny (eVar 0)) [1] (gN 1) tOk (eCall run_is_kind 1 none (aCons (eVar 1) aNil)))
noncomputable def f_is_store : FnS := (sRet (eAnd (eUn (g1 (isiD .tuple)) (eVar 0)) (eAnd (eBin (gB leD) (eUn (g1 lenD) (eVar 0)) (eC (.int 12))) (eUn (g1 allD) L1_is_store))))
noncomputable def run_is_store : FnR := runBody 2 f_is_store
/-- need_store (store) slots 0:store -/
noncomputable def f_need_store : FnS := (sIf (fNot (tst (eCall run_is_store 1 none (aCons (eVar 0) aNil)))) (sRaise "NoStore") sNil)
noncomputable def run_need_store : FnR := runBody 1 f_need_store
/-- is_single (store) slots 0:store 1:kind -/
noncomputable def L1_is_single : FnE := (eLc (iAny (eVar 0)) [1] (gN 1) tOk (eAnd (eBin (gB isNotND) (eBin (g2 ixD) (eVar 1) (eC (.int 2))) (eC .none)) (eBin (gB leD) (eBin (g2 ixD) (eVar 1) (eC (.int 2))) (eC (.int 1)))))
noncomputable def f_is_single : FnS := (sRet (eUn (g1 allD) L1_is_single))
noncomputable def run_is_single : FnR := runBody 2 f_is_single
/-- need_single (store) slots 0:store -/
noncomputable def f_need_single : FnS := (sIf (fNot (tst (eCall run_is_single 1 none (aCons (eVar 0) aNil)))) (sRaise "NotSingle") sNil)
noncomputable def run_need_single : FnR := runBody 1 f_need_single
/-- need_stowed (store) slots 0:store -/
noncomputable def f_need_stowed : FnS := (sSeq (sExpr (eCall run_need_single 1 none (aCons (eVar 0) aNil)))
    (sIf (tst (eBin (gB gtD) (eUn (g1 lenD) (eVar 0)) (eC (.int 8)))) (sRaise "TooMany") sNil))
noncomputable def run_need_stowed : FnR := runBody 1 f_need_stowed
/-- plus (one, other) slots 0:one 1:other -/
noncomputable def f_plus : FnS := (sRet (eCall run_made 2 none (aCons (eBin gAdd (eBin gMul (eBin (g2 ixD) (eVar 0) (eC (.int 0))) (eBin (g2 ixD) (eVar 1) (eC (.int 1)))) (eBin gMul (eBin (g2 ixD) (eVar 1) (eC (.int 0))) (eBin (g2 ixD) (eVar 0) (eC (.int 1))))) (aCons (eBin gMul (eBin (g2 ixD) (eVar 0) (eC (.int 1))) (eBin (g2 ixD) (eVar 1) (eC (.int 1)))) aNil))))
noncomputable def run_plus : FnR := runBody 2 f_plus
/-- two_bound (store, one, other, price, more) slots 0:store 1:one 2:other 3:price 4:more 5:least 6:found 7:weight 8:worth 9:most 10:gain -/
noncomputable def B1_two_bound : FnS := (sSeq (sAsg (eBin (g2 subD) (eBin gMul (eVar 8) (eBin (g2 ixD) (eVar 5) (eC (.int 1)))) (eBin gMul (eVar 7) (eBin (g2 ixD) (eVar 5) (eC (.int 0))))) (gN 10))
    (sIf (fAnd (tst (eBin (gB eqS) (eVar 9) (eC (.int 1)))) (tst (eBin (gB gtD) (eVar 10) (eC (.int 0))))) (sAsg (eCall run_plus 2 none (aCons (eVar 6) (aCons (eCall run_made 2 none (aCons (eVar 10) (aCons (eBin (g2 ixD) (eVar 5) (eC (.int 1))) aNil))) aNil))) (gN 6)) sNil))
noncomputable def f_two_bound : FnS := (sSeq (sExpr (eCall run_need_store 1 none (aCons (eVar 0) aNil)))
    (sSeq (sExpr (eCall run_need_number 1 none (aCons (eVar 1) aNil)))
    (sSeq (sExpr (eCall run_need_number 1 none (aCons (eVar 2) aNil)))
    (sSeq (sIf (fOr (fNot (tst (eCall run_is_price 1 none (aCons (eVar 3) aNil)))) (fNot (tst (eCall run_is_price 1 none (aCons (eVar 4) aNil))))) (sRaise "NoNumber") sNil)
    (sSeq (sExpr (eCall run_need_stowed 1 none (aCons (eVar 0) aNil)))
    (sSeq (sAsg (eIf (tst (eBin (gB ltD) (eBin gMul (eBin (g2 ixD) (eVar 3) (eC (.int 0))) (eBin (g2 ixD) (eVar 4) (eC (.int 1)))) (eBin gMul (eBin (g2 ixD) (eVar 4) (eC (.int 0))) (eBin (g2 ixD) (eVar 3) (eC (.int 1)))))) (eVar 3) (eVar 4)) (gN 5))
    (sSeq (sAsg (eCall run_plus 2 none (aCons (eCall run_made 2 none (aCons (eBin gMul (eVar 1) (eBin (g2 ixD) (eVar 3) (eC (.int 0)))) (aCons (eBin (g2 ixD) (eVar 3) (eC (.int 1))) aNil))) (aCons (eCall run_made 2 none (aCons (eBin gMul (eVar 2) (eBin (g2 ixD) (eVar 4) (eC (.int 0)))) (aCons (eBin (g2 ixD) (eVar 4) (eC (.int 1))) aNil))) aNil))) (gN 6))
    (sSeq (sFor (iAny (eVar 0)) (gT (gsCons (gN 7) (gsCons (gN 8) (gsCons (gN 9) gsNil)))) B1_two_bound)
    (sRet (eVar 6))))))))))
noncomputable def run_two_bound : FnR := runBody 11 f_two_bound
/-- law (script) slots 0:script 1:k 2:box 3:store 4:one 5:other 6:lap 7:price 8:more 9:least 10:due 11:heft 12:gain 13:most -/
noncomputable def B1_law : FnS := (sIf (fAnd (tst (eBin (gB eqS) (eVar 13) (eC (.int 1)))) (tst (eBin (gB gtD) (eBin gMul (eVar 12) (eBin (g2 ixD) (eVar 9) (eC (.int 1)))) (eBin gMul (eVar 11) (eBin (g2 ixD) (eVar 9) (eC (.int 0))))))) (sAsg (eCall run__law_plus 2 none (aCons (eVar 10) (aCons (eCall run__law_low 2 none (aCons (eBin (g2 subD) (eBin gMul (eVar 12) (eBin (g2 ixD) (eVar 9) (eC (.int 1)))) (eBin gMul (eVar 11) (eBin (g2 ixD) (eVar 9) (eC (.int 0))))) (aCons (eBin (g2 ixD) (eVar 9) (eC (.int 1))) aNil))) aNil))) (gN 10)) sNil)
noncomputable def B2_law : FnS := (sSeq (sPar 7 8 (aCons (eCall run__law_price 2 (some 0) (aCons (eVar 2) (aCons (eVar 3) aNil))) (aCons (eCall run__law_price 2 (some 0) (aCons (eVar 2) (aCons (eVar 3) aNil))) aNil)))
    (sSeq (sAsg (eIf (tst (eBin (gB leD) (eBin gMul (eBin (g2 ixD) (eVar 7) (eC (.int 0))) (eBin (g2 ixD) (eVar 8) (eC (.int 1)))) (eBin gMul (eBin (g2 ixD) (eVar 8) (eC (.int 0))) (eBin (g2 ixD) (eVar 7) (eC (.int 1)))))) (eVar 7) (eVar 8)) (gN 9))
    (sSeq (sAsg (eCall run__law_plus 2 none (aCons (eCall run__law_low 2 none (aCons (eBin gMul (eVar 4) (eBin (g2 ixD) (eVar 7) (eC (.int 0)))) (aCons (eBin (g2 ixD) (eVar 7) (eC (.int 1))) aNil))) (aCons (eCall run__law_low 2 none (aCons (eBin gMul (eVar 5) (eBin (g2 ixD) (eVar 8) (eC (.int 0)))) (aCons (eBin (g2 ixD) (eVar 8) (eC (.int 1))) aNil))) aNil))) (gN 10))
    (sSeq (sFor (iAny (eVar 3)) (gT (gsCons (gN 11) (gsCons (gN 12) (gsCons (gN 13) gsNil)))) B1_law)
    (sIf (tst (eBin (gB neS) (eUn (g1 reprD) (eCall run_two_bound 5 none (aCons (eVar 3) (aCons (eVar 4) (aCons (eVar 5) (aCons (eVar 7) (aCons (eVar 8) aNil))))))) (eUn (g1 reprD) (eVar 10)))) (sRet (eC (.bool false))) sNil)))))
noncomputable def B3_law : FnS := (sSeq (sAsg (eCall run__law_box 2 none (aCons (eVar 0) (aCons (eVar 1) aNil))) (gN 2))
    (sSeq (sAsg (eCall run__law_single 2 (some 0) (aCons (eVar 2) (aCons (eC (.int 8)) aNil))) (gN 3))
    (sSeq (sPar 4 5 (aCons (eCall run__law_take 2 (some 0) (aCons (eVar 2) (aCons (eC (.int 30)) aNil))) (aCons (eBin (g2 ixD) (eLst (aCons (eCall run__law_take 2 (some 0) (aCons (eVar 2) (aCons (eC (.int 30)) aNil))) (aCons (eBin (g2 powD) (eC (.int 10)) (eC (.int 28))) aNil))) (eCall run__law_take 2 (some 0) (aCons (eVar 2) (aCons (eC (.int 2)) aNil)))) aNil)))
    (sFor (iR1 (aCons (eC (.int 3)) aNil)) (gN 6) B2_law))))
noncomputable def f_law : FnS := (sSeq (sFor (iR1 (aCons (eBin (g2 max2D) (eC (.int 1)) (eBin (g2 min2D) (eUn (g1 lenD) (eVar 0)) (eC (.int 4)))) aNil)) (gN 1) B3_law)
    (sRet (eC (.bool true))))
noncomputable def run_law : FnR := runBody 14 f_law
end Lw_k63

namespace Lw_k63
open PySem PySem.Spec L2 FL
theorem take_io {b m : Int} (h : 0 < m) (h2 : m < 2 ^ 64) : (run__law_take [.io [.int b], .fz (.int m)]).io 0 = .ok (.int (b % m), [.int (b / m)]) := by
  have e := fdivOk_of h h2
  simp -implicitDefEqProofs [run__law_take, f__law_take, ixN, e, h]
theorem bits_of {i : Int} {n : Nat} (h : -((2 ^ n : Nat) : Int) < i) (l : i < ((2 ^ n : Nat) : Int)) : bits n i := by unfold bits; omega
theorem bits_md {i m : Int} (h : 0 < m) (l : m ≤ 2147483647) : bits 31 (i % m) := by
  have a := Int.emod_nonneg i (Int.ne_of_gt h)
  have b := Int.emod_lt_of_pos i h
  exact bits_of (by simp; omega) (by simp; omega)
theorem box_loop {here : Int} {ns : List Int} {k : Int} : ∃ Γ' b, loopF (gN 4) B1__law_box (rgs 0 16) [some (.scr ns), some (.fz (.int k)), some (.fz (.int here)), some (.fz (.int 0)), none, none] = .nx Γ' ∧ Γ'[3]? = some (some (.fz (.int b))) := by
  obtain ⟨Γ', e, x4, x5, n, hΓ, hb, _⟩ := loop_range (g := gN 4) (b := B1__law_box)
    (fun i Γ => ∃ x4 x5 n, Γ = [some (.scr ns), some (.fz (.int k)), some (.fz (.int here)), some (.fz (.int n)), x4, x5] ∧ bits (40 * i + 31) n ∧ freeK (some x4) = true ∧ freeK (some x5) = true)
    (xs := rgs 0 16) (fun i x Γ hx ⟨x4, x5, n, hΓ, hb, f4, f5⟩ => by
      have hi : i < 16 := by
        rcases Nat.lt_or_ge i 16 with l | l
        · exact l
        · rw [List.getElem?_eq_none (by rw [rgs_len]; exact l)] at hx; cases hx
      rw [rgs_get hi] at hx
      cases hx
      rw [show (0 : Int) + (i : Int) = (i : Int) by omega]
      subst hΓ
      have m1 : mulOk (here % 2147483647) 48271 = true := mulOk_of (bits_md (by decide) (by decide)) (m := 31) (bits_of (by decide) (by decide)) (by decide)
      have m2 : mulOk 7919 (i : Int) = true := mulOk_of (n := 31) (m := 31) (bits_of (by decide) (by decide)) (bits_of (by simp; omega) (by simp; omega)) (by decide)
      generalize hp : (here % 2147483647 * 48271 + 7919 * (i : Int) + 1) % 2147483647 = p
      have bp : bits 31 p := by rw [← hp]; exact bits_md (by decide) (by decide)
      have m3 : mulOk p p = true := mulOk_of bp bp (by decide)
      generalize hq : p * p % 2147483629 = q
      have bq : bits 31 q := by rw [← hq]; exact bits_md (by decide) (by decide)
      have m4 : mulOk q (q + 13) = true := mulOk_of bq (m := 32) (bits.add bq (bits_of (by decide) (by decide))) (by decide)
      have m5 : mulOk n 2147483647 = true := mulOk_of hb (m := 31) (bits_of (by decide) (by decide)) (by omega)
      refine ⟨[some (.scr ns), some (.fz (.int k)), some (.fz (.int here)), some (.fz (.int n)), some (.fz (.int i)), x5], [some (.scr ns), some (.fz (.int k)), some (.fz (.int here)), some (.fz (.int (n * 2147483647 + q * (q + 13) % 2147483647))), some (.fz (.int i)), some (.fz (.int q))], by simp [f4], ?_, ⟨_, _, _, rfl, ?_, rfl, rfl⟩⟩
      · simp -implicitDefEqProofs [B1__law_box, f5, m1, m2, hp, m3, hq, m4, m5]
      · have b1 : bits (40 * i + 62) (n * 2147483647) := (bits.mul hb (m := 31) (bits_of (by decide) (by decide))).up (by omega)
        have b2 : bits (40 * i + 62) (q * (q + 13) % 2147483647) := (bits_md (i := q * (q + 13)) (m := 2147483647) (by decide) (by decide)).up (by omega)
        exact (bits.add b1 b2).up (by omega))
    (Γ := [some (.scr ns), some (.fz (.int k)), some (.fz (.int here)), some (.fz (.int 0)), none, none]) ⟨_, _, _, rfl, by unfold bits; decide, rfl, rfl⟩
  exact ⟨Γ', n, e, by rw [hΓ]; rfl⟩
theorem box_v (ns : List Int) (k : Nat) (hk : k < 4) : ∃ b, (run__law_box [.scr ns, .fz (.int (k : Int))]).val = .ok (.list [.int b]) := by
  have m1 : mulOk 7919 (k : Int) = true := mulOk_of (n := 31) (m := 31) (bits_of (by decide) (by decide)) (bits_of (by simp; omega) (by simp; omega)) (by decide)
  have hf : fdivOk 2 = true := fdivOk_of (by decide) (by decide)
  have r1 : rgOk 16 = true := rgOk_b (by decide) (by decide)
  have rest : ∀ here : Int, ∃ b, srVal (SR.then (sSeq (sIf (tst (eBin (gB eqS) (eBin (g2 modD) (eVar 2) (eC (.int 2))) (eC (.int 0)))) (sRet (eLst (aCons (eBin (g2 fdivD) (eVar 2) (eC (.int 2))) aNil))) sNil)
    (sSeq (sAsg (eC (.int 0)) (gN 3))
    (sSeq (sFor (iR1 (aCons (eC (.int 16)) aNil)) (gN 4) B1__law_box)
    (sRet (eLst (aCons (eVar 3) aNil)))))) (.nx [some (.scr ns), some (.fz (.int k)), some (.fz (.int here)), none, none, none])) = .ok (.list [.int b]) := fun here => by
    by_cases c : here % 2 = 0
    · exact ⟨here / 2, by simp -implicitDefEqProofs [c, hf, fdivD]⟩
    · obtain ⟨Γ', b, e, hb⟩ := box_loop (here := here) (ns := ns) (k := k)
      exact ⟨b, by simp -implicitDefEqProofs [c, r1, e, hb]⟩
  by_cases c : (k : Int) < (ns.length : Int)
  · obtain ⟨z, hz⟩ : ∃ z, ns[k]? = some z := ⟨ns[k]'(by omega), by simp⟩
    obtain ⟨b, hb⟩ := rest z
    have ix := ix_lst (f := PyData.int) hz
    refine ⟨b, ?_⟩
    rw [← hb]
    simp -implicitDefEqProofs [run__law_box, f__law_box, m1, c, ix]
  · obtain ⟨b, hb⟩ := rest (7919 * k + 13)
    refine ⟨b, ?_⟩
    rw [← hb]
    simp -implicitDefEqProofs [run__law_box, f__law_box, m1, c]
theorem from_v (i j : Int) : (run_is_from [.fz (.int i), .fz (.int j)]).val = .ok (.bool (decide (j ≤ i))) := by
  simp -implicitDefEqProofs [run_is_from, f_is_from]
theorem kind_v {k : Kn} (h : k.ok) : (run_is_kind [.fz k.d]).val = .ok (.bool true) := by
  have h1 := h.w1
  have h2 := h.v0
  have h3 := h.m0
  rcases k with ⟨w, v, _ | m⟩
  · simp only at h1 h2
    simp -implicitDefEqProofs [run_is_kind, f_is_kind, Kn.d, mD, from_v, h1, h2]
  · have h4 := h3 m rfl
    simp only at h1 h2
    simp -implicitDefEqProofs [run_is_kind, f_is_kind, Kn.d, mD, from_v, h1, h2, h4]
theorem store_v {ks : List Kn} (h : ∀ k ∈ ks, k.ok) (l : ks.length ≤ 12) : (run_is_store [.fz (.tuple (ks.map Kn.d))]).val = .ok (.bool true) := by
  have e : L1_is_store [some (Sl.fz (.tuple (ks.map Kn.d))), none] = .ok (.ow (ks.map fun _ => .bool true), [some (Sl.fz (.tuple (ks.map Kn.d))), none]) := by
    refine eLc_mapk (d := Kn.d) (by simp -implicitDefEqProofs) (by simp -implicitDefEqProofs [plainAt]) (fun k hk => ?_) (by omega)
    refine ⟨[some (Sl.fz (.tuple (ks.map Kn.d))), some (.fz k.d)], by simp -implicitDefEqProofs [wipeG], ?_, by simp -implicitDefEqProofs [wipeG]⟩
    simp -implicitDefEqProofs [kind_v (h k hk)]
  have l' : (ks.length : Int) ≤ 12 := by omega
  simp -implicitDefEqProofs [run_is_store, f_is_store, e, l']
theorem need_store_v {ks : List Kn} (h : ∀ k ∈ ks, k.ok) (l : ks.length ≤ 12) : (run_need_store [.fz (.tuple (ks.map Kn.d))]).val = .ok .none := by
  simp -implicitDefEqProofs [run_need_store, f_need_store, store_v h l]
/-! fractions -/
def gc (a b : Int) : Int := ((Int.gcd a b : Nat) : Int)
theorem common_v {a b : Int} (ha : 0 ≤ a) (hb : 0 ≤ b) : (run_common [.fz (.int a), .fz (.int b)]).val = .ok (.int (gc a b)) := by
  have e := gcd_run ha hb
  have t : T1_common = gcdT := rfl
  have b' : B2_common = gcdB := rfl
  unfold gc
  simp -implicitDefEqProofs [run_common, f_common, t, b', e]
theorem divisor_v {a b : Int} (ha : 0 ≤ a) (hb : 0 ≤ b) : (run__law_divisor [.fz (.int a), .fz (.int b)]).val = .ok (.int (gc a b)) := by
  have e := gcd_run ha hb
  have t : T1__law_divisor = gcdT := rfl
  have b' : B2__law_divisor = gcdB := rfl
  have na : ¬ a < 0 := by omega
  have nb : ¬ b < 0 := by omega
  unfold gc
  simp -implicitDefEqProofs [run__law_divisor, f__law_divisor, t, b', e, na, nb]
theorem gc_pos {a b : Int} (hb : 0 < b) : 0 < gc a b := by
  unfold gc
  have := Int.gcd_pos_of_ne_zero_right a (Int.ne_of_gt hb)
  omega
theorem gc_le {a b : Int} (hb : 0 < b) : gc a b ≤ b := by
  unfold gc
  exact Int.le_of_dvd hb (Int.gcd_dvd_right ..)
theorem fdiv_b {n : Nat} {j : Int} (h : 0 < j) (b : bits n j) (l : n ≤ 9000) : fdivOk j = true := by
  unfold fdivOk
  rw [Bool.and_eq_true, decide_eq_true_eq, decide_eq_true_eq]
  refine ⟨h, ?_⟩
  have z : j.natAbs ≠ 0 := by omega
  have := (Nat.log2_lt z).mpr b
  omega
theorem bits_le {n : Nat} {i j : Int} (h : 0 ≤ i) (l : i ≤ j) (b : bits n j) : bits n i := by unfold bits at *; omega
/-- a fraction in lowest terms -/
def lw (a b : Int) : Int × Int := (a / gc a b, b / gc a b)
def fD (p : Int × Int) : D := .tuple [.int p.1, .int p.2]
theorem made_v {a b : Int} {n : Nat} (ha : 0 ≤ a) (hb : 0 < b) (bb : bits n b) (l : n ≤ 9000) : (run_made [.fz (.int a), .fz (.int b)]).val = .ok (fD (lw a b)) := by
  have c := common_v ha (Int.le_of_lt hb)
  have f := fdiv_b (gc_pos (a := a) hb) (bits_le (Int.le_of_lt (gc_pos hb)) (gc_le hb) bb) l
  simp -implicitDefEqProofs [run_made, f_made, c, f, fdivD, fD, lw]
theorem low_v {a b : Int} {n : Nat} (ha : 0 ≤ a) (hb : 0 < b) (bb : bits n b) (l : n ≤ 9000) : (run__law_low [.fz (.int a), .fz (.int b)]).val = .ok (fD (lw a b)) := by
  have c := divisor_v ha (Int.le_of_lt hb)
  have f := fdiv_b (gc_pos (a := a) hb) (bits_le (Int.le_of_lt (gc_pos hb)) (gc_le hb) bb) l
  simp -implicitDefEqProofs [run__law_low, f__law_low, c, f, fdivD, fD, lw]
end Lw_k63

namespace Lw_k63
open PySem PySem.Spec L2 FL
theorem lw_pos {a b : Int} (ha : 0 ≤ a) (hb : 0 < b) : 0 ≤ (lw a b).1 ∧ 0 < (lw a b).2 ∧ (lw a b).1 ≤ a ∧ (lw a b).2 ≤ b := by
  have g := gc_pos (a := a) hb
  have l := gc_le (a := a) hb
  unfold lw
  refine ⟨Int.ediv_nonneg ha (Int.le_of_lt g), ?_, Int.ediv_le_self _ ha, Int.ediv_le_self _ (Int.le_of_lt hb)⟩
  exact Int.ediv_pos_of_pos_of_dvd hb (Int.le_of_lt g) (by unfold gc; exact Int.gcd_dvd_right ..)
/-- a sum of fractions, in lowest terms -/
def pl (p q : Int × Int) : Int × Int := lw (p.1 * q.2 + q.1 * p.2) (p.2 * q.2)
/-- a fraction of so many bits -/
structure Fr (n : Nat) (p : Int × Int) : Prop where
  a : 0 ≤ p.1
  b : 0 < p.2
  ba : bits n p.1
  bb : bits n p.2
@[simp] theorem fD0 (p : Int × Int) : ixD (fD p) (.int 0) = some (.int p.1) := by unfold fD; simp
@[simp] theorem fD1 (p : Int × Int) : ixD (fD p) (.int 1) = some (.int p.2) := by unfold fD; simp
theorem lw_fr {n : Nat} {a b : Int} (ha : 0 ≤ a) (hb : 0 < b) (ba : bits n a) (bb : bits n b) : Fr n (lw a b) := by
  obtain ⟨h1, h2, h3, h4⟩ := lw_pos ha hb
  exact ⟨h1, h2, bits_le h1 h3 ba, bits_le (Int.le_of_lt h2) h4 bb⟩
theorem pl_parts {n m : Nat} {p q : Int × Int} (hp : Fr n p) (hq : Fr m q) : 0 ≤ p.1 * q.2 + q.1 * p.2 ∧ 0 < p.2 * q.2 ∧ bits (n + m + 1) (p.1 * q.2 + q.1 * p.2) ∧ bits (n + m + 1) (p.2 * q.2) := by
  refine ⟨Int.add_nonneg (Int.mul_nonneg hp.a (Int.le_of_lt hq.b)) (Int.mul_nonneg hq.a (Int.le_of_lt hp.b)), Int.mul_pos hp.b hq.b, ?_, (bits.mul hp.bb hq.bb).up (by omega)⟩
  have b1 : bits (n + m) (p.1 * q.2) := bits.mul hp.ba hq.bb
  have b2 : bits (n + m) (q.1 * p.2) := (bits.mul hq.ba hp.bb).up (by omega)
  exact bits.add b1 b2
theorem pl_fr {n m : Nat} {p q : Int × Int} (hp : Fr n p) (hq : Fr m q) : Fr (n + m + 1) (pl p q) := by
  obtain ⟨h1, h2, h3, h4⟩ := pl_parts hp hq
  exact lw_fr h1 h2 h3 h4
theorem plus_v {n m : Nat} {p q : Int × Int} (hp : Fr n p) (hq : Fr m q) (l : n + m ≤ 8000) : (run_plus [.fz (fD p), .fz (fD q)]).val = .ok (fD (pl p q)) := by
  obtain ⟨h1, h2, h3, h4⟩ := pl_parts hp hq
  have mv := made_v h1 h2 h4 (by omega)
  have m1 : mulOk p.1 q.2 = true := mulOk_of hp.ba hq.bb (by omega)
  have m2 : mulOk q.1 p.2 = true := mulOk_of hq.ba hp.bb (by omega)
  have m3 : mulOk p.2 q.2 = true := mulOk_of hp.bb hq.bb (by omega)
  have nf : noL (fD (pl p q)) = true := by unfold fD; simp
  have e : pl p q = lw (p.1 * q.2 + q.1 * p.2) (p.2 * q.2) := rfl
  rw [← e] at mv
  generalize pl p q = r at *
  simp -implicitDefEqProofs [run_plus, f_plus, m1, m2, m3, mv, nf]
theorem law_plus_v {n m : Nat} {p q : Int × Int} (hp : Fr n p) (hq : Fr m q) (l : n + m ≤ 8000) : (run__law_plus [.fz (fD p), .fz (fD q)]).val = .ok (fD (pl p q)) := by
  obtain ⟨h1, h2, h3, h4⟩ := pl_parts hp hq
  have mv := low_v h1 h2 h4 (by omega)
  have m1 : mulOk p.1 q.2 = true := mulOk_of hp.ba hq.bb (by omega)
  have m2 : mulOk q.1 p.2 = true := mulOk_of hq.ba hp.bb (by omega)
  have m3 : mulOk p.2 q.2 = true := mulOk_of hp.bb hq.bb (by omega)
  have nf : noL (fD (pl p q)) = true := by unfold fD; simp
  have e : pl p q = lw (p.1 * q.2 + q.1 * p.2) (p.2 * q.2) := rfl
  rw [← e] at mv
  generalize pl p q = r at *
  simp -implicitDefEqProofs [run__law_plus, f__law_plus, m1, m2, m3, mv, nf]
theorem lw_cop {a b : Int} (hb : 0 < b) : gc (lw a b).1 (lw a b).2 = 1 := by
  unfold lw gc
  have h := Int.gcd_ediv_gcd_ediv_gcd_of_ne_zero_right (n := a) (m := b) (by omega)
  show ((Int.gcd (a / (Int.gcd a b : Nat)) (b / (Int.gcd a b : Nat)) : Nat) : Int) = 1
  rw [h]; rfl
theorem price_v {p : Int × Int} {n : Nat} (hp : Fr n p) (c : gc p.1 p.2 = 1) : (run_is_price [.fz (fD p)]).val = .ok (.bool true) := by
  have cv := common_v hp.a (Int.le_of_lt hp.b)
  rw [c] at cv
  have h1 := hp.a
  have h2 : 1 ≤ p.2 := hp.b
  rcases p with ⟨a, b⟩
  simp only at h1 h2 cv
  simp -implicitDefEqProofs [run_is_price, f_is_price, fD, from_v, h1, h2, cv]
end Lw_k63

namespace Lw_k63
open PySem PySem.Spec L2 FL
/-- a single kind of the law's -/
structure Sg (k : Kn) : Prop where
  w : k.w < 2 ^ 60
  v : k.v < 12
  m : k.m = some 0 ∨ k.m = some 1
theorem single_io {b : Int} : ∃ (ks : List Kn) (b' : Int), (run__law_single [.io [.int b], .fz (.int 8)]).io 0 = .ok (.tuple (ks.map Kn.d), [.int b']) ∧ ks.length ≤ 8 ∧ (∀ k ∈ ks, k.ok) ∧ ∀ k ∈ ks, Sg k := by
  have t3 : ∀ b : Int, (run__law_take [.io [.int b], .fz (.int 3)]).io 0 = .ok (.int (b % 3), [.int (b / 3)]) := fun b => take_io (by decide) (by decide)
  have t9 : ∀ b : Int, (run__law_take [.io [.int b], .fz (.int 9)]).io 0 = .ok (.int (b % 9), [.int (b / 9)]) := fun b => take_io (by decide) (by decide)
  have t12 : ∀ b : Int, (run__law_take [.io [.int b], .fz (.int 12)]).io 0 = .ok (.int (b % 12), [.int (b / 12)]) := fun b => take_io (by decide) (by decide)
  have t5 : ∀ b : Int, (run__law_take [.io [.int b], .fz (.int 5)]).io 0 = .ok (.int (b % 5), [.int (b / 5)]) := fun b => take_io (by decide) (by decide)
  obtain ⟨far, hf, f1, f2⟩ : ∃ far : Int, ixD (.list [.int 1, .int 1, .int 1000000000000000]) (.int (b % 3)) = some (.int far) ∧ 1 ≤ far ∧ far ≤ 1000000000000000 := by
    generalize hc : b % 3 = c
    have : c = 0 ∨ c = 1 ∨ c = 2 := by omega
    rcases this with rfl | rfl | rfl
    · exact ⟨1, ixl_0, by decide, by decide⟩
    · exact ⟨1, ixl_1, by decide, by decide⟩
    · exact ⟨_, ixl_2, by decide, by decide⟩
  generalize hn : (b / 3 % 9).toNat = n
  have n8 : n ≤ 8 := by omega
  have rg : rgOk (b / 3 % 9) = true := rgOk_b (by omega) (by omega)
  obtain ⟨Γ', e, ks, b', x4, x5, x6, hΓ, hl, hok, hsm, _⟩ := loop_range (g := gN 4) (b := B1__law_single)
    (fun i Γ => ∃ (ks : List Kn) (b' : Int) (x4 x5 x6 : Option Sl), Γ = [some (.io [.int b']), some (.fz (.int 8)), some (.fz (.int far)), some (.ow (ks.map Kn.d)), x4, x5, x6] ∧ ks.length = i ∧ (∀ k ∈ ks, k.ok) ∧ (∀ k ∈ ks, Sg k) ∧ freeK (some x4) = true ∧ freeK (some x5) = true ∧ freeK (some x6) = true)
    (xs := rgs 0 n) (fun i x Γ hx ⟨ks, b', x4, x5, x6, hΓ, hl, hok, hsm, g4, g5, g6⟩ => by
      have hi : i < n := by have := lt_of_get hx; rwa [rgs_len] at this
      rw [rgs_get hi, Int.zero_add] at hx
      cases hx
      subst hΓ
      have ll : ks.length < 16777216 := by omega
      have bf : bits 60 far := bits_of (by simp; omega) (by simp; omega)
      have m1 : mulOk far (1 + b' % 9) = true := mulOk_of bf (m := 31) (bits_of (by simp; omega) (by simp; omega)) (by decide)
      have m2 : mulOk (i : Int) (far - 1) = true := mulOk_of (n := 31) (m := 60) (bits_of (by simp; omega) (by simp; omega)) (bits_of (by simp; omega) (by simp; omega)) (by decide)
      have a1 : far * (1 + b' % 9) ≤ 1000000000000000 * 9 := Int.mul_le_mul f2 (by omega) (by omega) (by decide)
      have a2 : (i : Int) * (far - 1) ≤ 8 * 1000000000000000 := Int.mul_le_mul (by omega) (by omega) (by omega) (by decide)
      have a3 : 1 * 1 ≤ far * (1 + b' % 9) := Int.mul_le_mul f1 (by omega) (by decide) (by omega)
      have a4 : 0 ≤ (i : Int) * (far - 1) := Int.mul_nonneg (by omega) (by omega)
      generalize hw1 : far * (1 + b' % 9) = w1 at *
      generalize hw2 : (i : Int) * (far - 1) = w2 at *
      refine ⟨[some (.io [.int b']), some (.fz (.int 8)), some (.fz (.int far)), some (.ow (ks.map Kn.d)), some (.fz (.int (i : Int))), x5, x6], [some (.io [.int (b' / 9 / 12 / 5)]), some (.fz (.int 8)), some (.fz (.int far)), some (.ow ((ks ++ [Kn.mk (w1 + w2) (b' / 9 % 12) (some (if decide (0 < b' / 9 / 12 % 5) then 1 else 0))]).map Kn.d)), some (.fz (.int (i : Int))), some (.fz (.int (w1 + w2))), some (.fz (.int (b' / 9 % 12)))], by simp -implicitDefEqProofs [g4], ?_, ⟨_, _, _, _, _, rfl, by simp [hl], fun k hk => ?_, fun k hk => ?_, rfl, rfl, rfl⟩⟩
      · simp -implicitDefEqProofs [B1__law_single, g5, g6, t9, t12, t5, m1, m2, hw1, hw2, ll, Kn.d, mD, intD]
      · rcases List.mem_append.mp hk with hk | hk
        · exact hok k hk
        · obtain rfl := List.mem_singleton.mp hk
          exact ⟨by show 1 ≤ w1 + w2; omega, by show 0 ≤ b' / 9 % 12; omega, fun x e => by cases e; split <;> decide⟩
      · rcases List.mem_append.mp hk with hk | hk
        · exact hsm k hk
        · obtain rfl := List.mem_singleton.mp hk
          refine ⟨by show w1 + w2 < _; omega, by show b' / 9 % 12 < 12; omega, ?_⟩
          show some _ = some (0 : Int) ∨ some _ = some (1 : Int)
          split
          · exact .inr rfl
          · exact .inl rfl)
    (Γ := [some (.io [.int (b / 3 / 9)]), some (.fz (.int 8)), some (.fz (.int far)), some (.ow []), none, none, none]) ⟨[], _, _, _, _, rfl, rfl, fun k hk => by simp at hk, fun k hk => by simp at hk, rfl, rfl, rfl⟩
  rw [rgs_len] at hl
  refine ⟨ks, b', ?_, by omega, hok, hsm⟩
  simp -implicitDefEqProofs [run__law_single, f__law_single, t3, hf, t9, rg, hn, e, hΓ]
/-! the bound -/
def pick (p q : Int × Int) : Int × Int := if p.1 * q.2 < q.1 * p.2 then p else q
def stepB (l : Int × Int) (f : Int × Int) (k : Kn) : Int × Int := if k.m = some 1 ∧ 0 < k.v * l.2 - k.w * l.1 then pl f (lw (k.v * l.2 - k.w * l.1) l.2) else f
def bnd (ks : List Kn) (one other : Int) (p q : Int × Int) : Int × Int := ks.foldl (stepB (pick p q)) (pl (lw (one * p.1) p.2) (lw (other * q.1) q.2))
theorem gain_fr {l : Int × Int} {k : Kn} (hl : Fr 60 l) (ok : k.ok) (sg : Sg k) (h : 0 < k.v * l.2 - k.w * l.1) : Fr 70 (lw (k.v * l.2 - k.w * l.1) l.2) := by
  have h0 : 0 ≤ k.w * l.1 := Int.mul_nonneg (by have := ok.w1; omega) hl.a
  have hb : bits 64 (k.v * l.2) := bits.mul (n := 4) (bits_lt ok.v0 (by have := sg.v; simp; omega)) hl.bb
  refine lw_fr (Int.le_of_lt h) hl.b ?_ (hl.bb.up (by decide))
  exact (bits_le (Int.le_of_lt h) (by omega) hb).up (by decide)
theorem step_fr {l f : Int × Int} {k : Kn} {n : Nat} (hl : Fr 60 l) (hf : Fr n f) (ok : k.ok) (sg : Sg k) : Fr (n + 71) (stepB l f k) := by
  unfold stepB
  split
  · rename_i h
    exact pl_fr hf (gain_fr hl ok sg h.2)
  · exact ⟨hf.a, hf.b, hf.ba.up (by omega), hf.bb.up (by omega)⟩
theorem fold_fr {l : Int × Int} (hl : Fr 60 l) : ∀ (ks : List Kn) (n : Nat) (f : Int × Int), Fr n f → (∀ k ∈ ks, k.ok) → (∀ k ∈ ks, Sg k) → Fr (n + 71 * ks.length) (ks.foldl (stepB l) f)
  | [], n, f, h, _, _ => by simpa using h
  | k :: ks, n, f, h, a, b => by
    have := fold_fr hl ks (n + 71) (stepB l f k) (step_fr hl h (a k (by simp)) (b k (by simp))) (fun x hx => a x (by simp [hx])) (fun x hx => b x (by simp [hx]))
    rw [List.length_cons, show n + 71 * (ks.length + 1) = n + 71 + 71 * ks.length by omega]
    exact this
theorem bound_step {l f : Int × Int} {k : Kn} {n : Nat} {x0 x1 x2 x3 x4 x10 : Option Sl} (hl : Fr 60 l) (hf : Fr n f) (n5 : n ≤ 5000) (ok : k.ok) (sg : Sg k) (f10 : freeK (some x10) = true) : ∃ y10, freeK (some y10) = true ∧
    B1_two_bound [x0, x1, x2, x3, x4, some (.fz (fD l)), some (.fz (fD f)), some (.fz (.int k.w)), some (.fz (.int k.v)), some (.fz (mD k.m)), x10] = .nx [x0, x1, x2, x3, x4, some (.fz (fD l)), some (.fz (fD (stepB l f k))), some (.fz (.int k.w)), some (.fz (.int k.v)), some (.fz (mD k.m)), y10] := by
  have bv : bits 4 k.v := bits_lt ok.v0 (by have := sg.v; simp; omega)
  have bw : bits 60 k.w := bits_lt (by have := ok.w1; omega) (by have := sg.w; simpa using this)
  have m1 : mulOk k.v l.2 = true := mulOk_of bv hl.bb (by decide)
  have m2 : mulOk k.w l.1 = true := mulOk_of bw hl.ba (by decide)
  refine ⟨some (.fz (.int (k.v * l.2 - k.w * l.1))), rfl, ?_⟩
  by_cases c : 0 < k.v * l.2 - k.w * l.1
  · have gf := gain_fr hl ok sg c
    have mv := made_v (Int.le_of_lt c) hl.b hl.bb (by decide)
    have pv := plus_v hf gf (by omega)
    have n1 : noL (fD (lw (k.v * l.2 - k.w * l.1) l.2)) = true := by unfold fD; simp
    have n2 : noL (fD (pl f (lw (k.v * l.2 - k.w * l.1) l.2))) = true := by unfold fD; simp
    rcases sg.m with e | e
    · have s : stepB l f k = f := by unfold stepB; rw [e]; simp
      rw [s, e]
      have e1 : eqS (.int 0) (.int 1) = some false := by rw [eqS_ii]; rfl
      simp -implicitDefEqProofs [B1_two_bound, m1, m2, f10, mD, e1]
    · have s : stepB l f k = pl f (lw (k.v * l.2 - k.w * l.1) l.2) := by unfold stepB; rw [if_pos ⟨e, c⟩]
      have e1 : eqS (.int 1) (.int 1) = some true := by rw [eqS_ii]; rfl
      rw [s, e]
      generalize hr : pl f (lw (k.v * l.2 - k.w * l.1) l.2) = r at *
      generalize lw (k.v * l.2 - k.w * l.1) l.2 = z at *
      have d0 := fD1 l
      generalize hg : k.v * l.2 - k.w * l.1 = g at *
      simp -implicitDefEqProofs [B1_two_bound, m1, m2, f10, mD, e1, hg, c, mv, pv, n1, n2]
  · have s : stepB l f k = f := by unfold stepB; rw [if_neg fun z => c z.2]
    rw [s]
    rcases sg.m with e | e
    · have e1 : eqS (.int 0) (.int 1) = some false := by rw [eqS_ii]; rfl
      rw [e]
      simp -implicitDefEqProofs [B1_two_bound, m1, m2, f10, mD, e1]
    · have e1 : eqS (.int 1) (.int 1) = some true := by rw [eqS_ii]; rfl
      rw [e]
      generalize hg : k.v * l.2 - k.w * l.1 = g at *
      simp -implicitDefEqProofs [B1_two_bound, m1, m2, f10, mD, e1, hg, c]
end Lw_k63

namespace Lw_k63
open PySem PySem.Spec L2 FL
theorem single_v {ks : List Kn} (hs : ∀ k ∈ ks, Sg k) (l8 : ks.length ≤ 8) : (run_is_single [.fz (.tuple (ks.map Kn.d))]).val = .ok (.bool true) := by
  have e : L1_is_single [some (Sl.fz (.tuple (ks.map Kn.d))), none] = .ok (.ow (ks.map fun _ => .bool true), [some (Sl.fz (.tuple (ks.map Kn.d))), none]) := by
    refine eLc_mapk (d := Kn.d) (by simp -implicitDefEqProofs) (by simp -implicitDefEqProofs [plainAt]) (fun k hk => ?_) (by omega)
    refine ⟨[some (Sl.fz (.tuple (ks.map Kn.d))), some (.fz k.d)], by simp -implicitDefEqProofs [wipeG], ?_, by simp -implicitDefEqProofs [wipeG]⟩
    have k2 := kn2 k
    generalize k.d = kd at *
    generalize ks.map Kn.d = X at *
    rcases (hs k hk).m with e | e
    · rw [e] at k2
      simp -implicitDefEqProofs [k2, mD]
    · rw [e] at k2
      simp -implicitDefEqProofs [k2, mD]
  have a : allD (.list (ks.map fun _ => .bool true)) = some (.bool true) := by rw [all_map]; simp
  generalize (ks.map fun _ => PyData.bool true) = bs at *
  generalize ks.map Kn.d = X at *
  simp -implicitDefEqProofs [run_is_single, f_is_single, e, a]
theorem stowed_v {ks : List Kn} (hs : ∀ k ∈ ks, Sg k) (l8 : ks.length ≤ 8) : (run_need_stowed [.fz (.tuple (ks.map Kn.d))]).val = .ok .none := by
  have sv := single_v hs l8
  have nv : (run_need_single [.fz (.tuple (ks.map Kn.d))]).val = .ok .none := by simp -implicitDefEqProofs [run_need_single, f_need_single, sv]
  have c : ¬ (8 : Int) < (ks.length : Int) := by omega
  simp -implicitDefEqProofs [run_need_stowed, f_need_stowed, nv, c]
theorem number_v {i : Int} (h : 0 ≤ i) : (run_need_number [.fz (.int i)]).val = .ok .none := by
  simp -implicitDefEqProofs [run_need_number, f_need_number, from_v, h]
theorem pick_or (p q : Int × Int) : pick p q = p ∨ pick p q = q := by unfold pick; split <;> simp
theorem start_fr {one other : Int} {p q : Int × Int} (h1 : 0 ≤ one) (b1 : bits 100 one) (h2 : 0 ≤ other) (b2 : bits 100 other) (hp : Fr 60 p) (hq : Fr 60 q) : Fr 160 (lw (one * p.1) p.2) ∧ Fr 160 (lw (other * q.1) q.2) :=
  ⟨lw_fr (Int.mul_nonneg h1 hp.a) hp.b (bits.mul b1 hp.ba) (hp.bb.up (by decide)), lw_fr (Int.mul_nonneg h2 hq.a) hq.b (bits.mul b2 hq.ba) (hq.bb.up (by decide))⟩
theorem bound_loop {ks : List Kn} {l f : Int × Int} {x1 x2 x3 x4 : Option Sl} (hl : Fr 60 l) (hf : Fr 321 f) (hok : ∀ k ∈ ks, k.ok) (hs : ∀ k ∈ ks, Sg k) (l8 : ks.length ≤ 8) : ∃ (y7 y8 y9 y10 : Option Sl), loopF (gT (gsCons (gN 7) (gsCons (gN 8) (gsCons (gN 9) gsNil)))) B1_two_bound (ks.map Kn.d) [some (.fz (.tuple (ks.map Kn.d))), x1, x2, x3, x4, some (.fz (fD l)), some (.fz (fD f)), none, none, none, none] =
    .nx [some (.fz (.tuple (ks.map Kn.d))), x1, x2, x3, x4, some (.fz (fD l)), some (.fz (fD (ks.foldl (stepB l) f))), y7, y8, y9, y10] := by
  obtain ⟨Γ', e, y7, y8, y9, y10, hΓ, _⟩ := loop_range (g := gT (gsCons (gN 7) (gsCons (gN 8) (gsCons (gN 9) gsNil)))) (b := B1_two_bound)
    (fun i Γ => ∃ (y7 y8 y9 y10 : Option Sl), Γ = [some (.fz (.tuple (ks.map Kn.d))), x1, x2, x3, x4, some (.fz (fD l)), some (.fz (fD ((ks.take i).foldl (stepB l) f))), y7, y8, y9, y10] ∧ freeK (some y7) = true ∧ freeK (some y8) = true ∧ freeK (some y9) = true ∧ freeK (some y10) = true)
    (xs := ks.map Kn.d) (fun i x Γ hx ⟨x7, x8, x9, x10, hΓ, f7, f8, f9, f10⟩ => by
      have hi : i < ks.length := by have := lt_of_get hx; rwa [List.length_map] at this
      rw [List.getElem?_map, List.getElem?_eq_getElem hi] at hx
      cases hx
      subst hΓ
      have hm : ks[i] ∈ ks := List.getElem_mem hi
      have ff := fold_fr hl (ks.take i) 321 f hf (fun k hk => hok k (List.mem_of_mem_take hk)) (fun k hk => hs k (List.mem_of_mem_take hk))
      have lt : (ks.take i).length ≤ 8 := by rw [List.length_take]; omega
      obtain ⟨y10, g10, e⟩ := bound_step (x0 := some (.fz (.tuple (ks.map Kn.d)))) (x1 := x1) (x2 := x2) (x3 := x3) (x4 := x4) (k := ks[i]) hl ff (by omega) (hok _ hm) (hs _ hm) f10
      have et : (ks.take (i + 1)).foldl (stepB l) f = stepB l ((ks.take i).foldl (stepB l) f) ks[i] := by
        rw [← List.take_append_getElem hi, List.foldl_append]; rfl
      rw [← et] at e
      exact ⟨[some (.fz (.tuple (ks.map Kn.d))), x1, x2, x3, x4, some (.fz (fD l)), some (.fz (fD ((ks.take i).foldl (stepB l) f))), some (.fz (.int (ks[i]).w)), some (.fz (.int (ks[i]).v)), some (.fz (mD (ks[i]).m)), x10], _, by simp -implicitDefEqProofs [f7, f8, f9, Kn.d], e, ⟨_, _, _, _, rfl, rfl, rfl, rfl, g10⟩⟩)
    (Γ := [some (.fz (.tuple (ks.map Kn.d))), x1, x2, x3, x4, some (.fz (fD l)), some (.fz (fD f)), none, none, none, none]) ⟨_, _, _, _, rfl, rfl, rfl, rfl, rfl⟩
  rw [List.length_map, List.take_length] at hΓ
  exact ⟨y7, y8, y9, y10, by rw [e, hΓ]⟩
theorem bound_v {ks : List Kn} {one other : Int} {p q : Int × Int} (hok : ∀ k ∈ ks, k.ok) (hs : ∀ k ∈ ks, Sg k) (l8 : ks.length ≤ 8) (h1 : 0 ≤ one) (b1 : bits 100 one) (h2 : 0 ≤ other) (b2 : bits 100 other) (hp : Fr 60 p) (cp : gc p.1 p.2 = 1) (hq : Fr 60 q) (cq : gc q.1 q.2 = 1) :
    (run_two_bound [.fz (.tuple (ks.map Kn.d)), .fz (.int one), .fz (.int other), .fz (fD p), .fz (fD q)]).val = .ok (fD (bnd ks one other p q)) := by
  have nv := need_store_v hok (by omega)
  have sv := stowed_v hs l8
  have n1 := number_v h1
  have n2 := number_v h2
  have pv := price_v hp cp
  have qv := price_v hq cq
  obtain ⟨s1, s2⟩ := start_fr h1 b1 h2 b2 hp hq
  have m1 : mulOk p.1 q.2 = true := mulOk_of hp.ba hq.bb (by decide)
  have m2 : mulOk q.1 p.2 = true := mulOk_of hq.ba hp.bb (by decide)
  have m3 : mulOk one p.1 = true := mulOk_of b1 hp.ba (by decide)
  have m4 : mulOk other q.1 = true := mulOk_of b2 hq.ba (by decide)
  have v1 := made_v (Int.mul_nonneg h1 hp.a) hp.b hp.bb (by decide)
  have v2 := made_v (Int.mul_nonneg h2 hq.a) hq.b hq.bb (by decide)
  have v3 := plus_v s1 s2 (by decide)
  have fr := pl_fr s1 s2
  have hl : Fr 60 (pick p q) := by rcases pick_or p q with e | e <;> rw [e] <;> assumption
  obtain ⟨y7, y8, y9, y10, e⟩ := bound_loop (ks := ks) (x1 := some (.fz (.int one))) (x2 := some (.fz (.int other))) (x3 := some (.fz (fD p))) (x4 := some (.fz (fD q))) hl fr hok hs l8
  have nf : ∀ r : Int × Int, noL (fD r) = true := fun r => by unfold fD; simp
  have be : bnd ks one other p q = ks.foldl (stepB (pick p q)) (pl (lw (one * p.1) p.2) (lw (other * q.1) q.2)) := rfl
  rw [be]
  generalize ks.foldl (stepB (pick p q)) (pl (lw (one * p.1) p.2) (lw (other * q.1) q.2)) = res at *
  generalize pl (lw (one * p.1) p.2) (lw (other * q.1) q.2) = st at *
  generalize lw (one * p.1) p.2 = a1 at *
  generalize lw (other * q.1) q.2 = a2 at *
  generalize ks.map Kn.d = X at *
  by_cases c : p.1 * q.2 < q.1 * p.2
  · have pk : pick p q = p := by unfold pick; rw [if_pos c]
    rw [pk] at e
    simp -implicitDefEqProofs [run_two_bound, f_two_bound, nv, n1, n2, pv, qv, sv, m1, m2, c, m3, m4, v1, v2, v3, nf, e]
  · have pk : pick p q = q := by unfold pick; rw [if_neg c]
    rw [pk] at e
    simp -implicitDefEqProofs [run_two_bound, f_two_bound, nv, n1, n2, pv, qv, sv, m1, m2, c, m3, m4, v1, v2, v3, nf, e]
end Lw_k63

namespace Lw_k63
open PySem PySem.Spec L2 FL
theorem eq_nil {α : Type} {l : List α} {F : α → D} (hs : ∀ x ∈ l, Shp 8 (F x)) : eqS (.list (l.map F)) (.list []) = some l.isEmpty := by
  rw [eqS_shp (n := 9) (m := 1) (.lst fun x hx => by obtain ⟨y, hy, rfl⟩ := List.mem_map.mp hx; exact hs y hy) (.lst fun x hx => by simp at hx) (by decide) (by decide)]
  cases l with
  | nil => rw [List.map_nil, PyData.eqv, PyData.eqvAll]; rfl
  | cons x l => rw [List.map_cons, PyData.eqv, PyData.eqvAll]; rfl
theorem kn8 (k : Kn) : Shp 8 k.d := by
  refine .tup fun y hy => ?_
  simp at hy
  rcases hy with rfl | rfl | rfl
  · exact .int _
  · exact .int _
  · cases k.m with
    | none => exact .non
    | some i => exact .int i
theorem cop_eq {p q : Int × Int} (hp : Fr 60 p) (cp : gc p.1 p.2 = 1) (hq : Fr 60 q) (cq : gc q.1 q.2 = 1) (h : p.1 * q.2 = q.1 * p.2) : p = q := by
  obtain ⟨pa, pb⟩ := p
  obtain ⟨qa, qb⟩ := q
  obtain ⟨a, rfl⟩ := Int.eq_ofNat_of_zero_le hp.a
  obtain ⟨b, rfl⟩ := Int.eq_ofNat_of_zero_le (Int.le_of_lt hp.b)
  obtain ⟨c, rfl⟩ := Int.eq_ofNat_of_zero_le hq.a
  obtain ⟨d, rfl⟩ := Int.eq_ofNat_of_zero_le (Int.le_of_lt hq.b)
  have hb : 0 < b := by have := hp.b; simpa using this
  have h' : (a : Int) * (d : Int) = (c : Int) * (b : Int) := h
  have e : a * d = c * b := by exact_mod_cast h'
  have c1 : Nat.gcd a b = 1 := Int.ofNat.inj (show ((Int.gcd (a : Int) (b : Int) : Nat) : Int) = ((1 : Nat) : Int) from cp)
  have c2 : Nat.gcd c d = 1 := Int.ofNat.inj (show ((Int.gcd (c : Int) (d : Int) : Nat) : Int) = ((1 : Nat) : Int) from cq)
  have d1 : b ∣ d := Nat.Coprime.dvd_of_dvd_mul_left (m := a) (Nat.Coprime.symm c1) ⟨c, by rw [e, Nat.mul_comm]⟩
  have d2 : d ∣ b := Nat.Coprime.dvd_of_dvd_mul_left (m := c) (Nat.Coprime.symm c2) ⟨a, by rw [← e, Nat.mul_comm]⟩
  have bd : b = d := Nat.dvd_antisymm d1 d2
  subst bd
  have ac : a = c := Nat.eq_of_mul_eq_mul_right hb e
  rw [ac]
theorem price_io {b : Int} {ks : List Kn} (hok : ∀ k ∈ ks, k.ok) (hs : ∀ k ∈ ks, Sg k) (l8 : ks.length ≤ 8) : ∃ (p : Int × Int) (b' : Int), (run__law_price [.io [.int b], .fz (.tuple (ks.map Kn.d))]).io 0 = .ok (fD p, [.int b']) ∧ Fr 60 p ∧ gc p.1 p.2 = 1 := by
  have t3 : ∀ b : Int, (run__law_take [.io [.int b], .fz (.int 3)]).io 0 = .ok (.int (b % 3), [.int (b / 3)]) := fun b => take_io (by decide) (by decide)
  have t9 : ∀ b : Int, (run__law_take [.io [.int b], .fz (.int 9)]).io 0 = .ok (.int (b % 9), [.int (b / 9)]) := fun b => take_io (by decide) (by decide)
  have nf : ∀ r : Int × Int, noL (fD r) = true := fun r => by unfold fD; simp
  generalize hkk : ks.filter (fun k => decide (0 < k.v)) = kk
  have lk : kk.length ≤ 8 := by rw [← hkk]; exact Nat.le_trans (List.length_filter_le _ _) l8
  have e1 : L1__law_price [some (.io [.int b]), some (.fz (.tuple (ks.map Kn.d))), none, none, none] = .ok (.ow (kk.map Kn.d), [some (.io [.int b]), some (.fz (.tuple (ks.map Kn.d))), none, none, none]) := by
    rw [← hkk]
    refine eLc_if (d := Kn.d) (by simp -implicitDefEqProofs) (by simp -implicitDefEqProofs [plainAt]) (fun k hk => ?_) (by omega)
    have k1 := kn1 k
    generalize k.d = kd at *
    generalize ks.map Kn.d = X at *
    exact ⟨[some (.io [.int b]), some (.fz (.tuple X)), none, none, some (.fz kd)], by simp -implicitDefEqProofs [wipeG], by simp -implicitDefEqProofs [k1], fun _ => by simp -implicitDefEqProofs, by simp -implicitDefEqProofs [wipeG]⟩
  have en := eq_nil (l := kk) (F := Kn.d) fun k _ => kn8 k
  have lenk : lenD (.list (kk.map Kn.d)) = some (.int (kk.length : Int)) := by show some (PyData.int ((kk.map Kn.d).length : Int)) = _; rw [List.length_map]
  have p0 : 0 ≤ b / 3 % 9 := by omega
  have p1 : 0 < 1 + b / 3 / 9 % 9 := by omega
  have lv := low_v (n := 60) p0 p1 (bits_lt (by omega) (by simp; omega)) (by decide)
  have lf : Fr 60 (lw (b / 3 % 9) (1 + b / 3 / 9 % 9)) := lw_fr p0 p1 (bits_lt (by omega) (by simp; omega)) (bits_lt (by omega) (by simp; omega))
  have lc := lw_cop (a := b / 3 % 9) p1
  by_cases w0 : b % 3 = 0
  · refine ⟨_, b / 3 / 9 / 9, ?_, lf, lc⟩
    generalize lw (b / 3 % 9) (1 + b / 3 / 9 % 9) = r at *
    generalize kk.map Kn.d = K at *
    generalize ks.map Kn.d = X at *
    simp -implicitDefEqProofs [run__law_price, f__law_price, e1, t3, w0, t9, lv, nf]
  cases q : kk with
  | nil =>
    rw [q] at en e1
    refine ⟨_, b / 3 / 9 / 9, ?_, lf, lc⟩
    generalize lw (b / 3 % 9) (1 + b / 3 / 9 % 9) = r at *
    rw [List.map_nil] at en e1
    generalize ks.map Kn.d = X at *
    simp -implicitDefEqProofs only [List.isEmpty_nil] at en
    simp -implicitDefEqProofs [run__law_price, f__law_price, e1, t3, w0, en, t9, lv, nf]
  | cons k0 r0 =>
    have ne : kk.isEmpty = false := by rw [q]; rfl
    rw [ne] at en
    have n0 : 0 < kk.length := by rw [q]; simp
    have tn : (run__law_take [.io [.int (b / 3)], .fz (.int (kk.length : Int))]).io 0 = .ok (.int (b / 3 % (kk.length : Int)), [.int (b / 3 / (kk.length : Int))]) := take_io (by omega) (by omega)
    have i0 : 0 ≤ b / 3 % (kk.length : Int) := Int.emod_nonneg _ (by omega)
    have i1 : b / 3 % (kk.length : Int) < (kk.length : Int) := Int.emod_lt_of_pos _ (by omega)
    obtain ⟨j, hj⟩ := Int.eq_ofNat_of_zero_le i0
    have hj2 : j < kk.length := by omega
    obtain ⟨k, hk⟩ : ∃ k, kk[j]? = some k := ⟨kk[j], by simp [hj2]⟩
    have ix := ix_lst (f := Kn.d) hk
    have km : k ∈ kk := List.mem_of_getElem? hk
    rw [← hkk] at km
    have km' := (List.mem_filter.mp km).1
    have h1 := (hok k km').w1
    have h2 := (hok k km').v0
    have h3 := (hs k km').w
    have h4 := (hs k km').v
    have bw : bits 60 k.w := bits_lt (by omega) (by simpa using h3)
    have bv : bits 60 k.v := bits_lt h2 (by simp; omega)
    have lv2 := low_v h2 (by omega) bw (by decide)
    rw [hj] at tn
    have k0' := kn0 k
    have k1' := kn1 k
    by_cases w1 : b % 3 = 1
    · refine ⟨lw k.v k.w, b / 3 / (kk.length : Int), ?_, lw_fr h2 (by omega) bv bw, lw_cop (by omega)⟩
      generalize lw k.v k.w = r at *
      generalize kk.map Kn.d = K at *
      generalize ks.map Kn.d = X at *
      generalize k.d = kd at *
      simp -implicitDefEqProofs [run__law_price, f__law_price, e1, t3, w1, en, lenk, tn, ix, k0', k1', lv2, nf]
    · refine ⟨(0, 1), b / 3 / (kk.length : Int), ?_, ⟨by decide, by decide, by unfold bits; decide, by unfold bits; decide⟩, by decide⟩
      generalize kk.map Kn.d = K at *
      generalize ks.map Kn.d = X at *
      generalize k.d = kd at *
      simp -implicitDefEqProofs [run__law_price, f__law_price, e1, t3, w0, w1, en, lenk, tn, ix, fD]
end Lw_k63

namespace Lw_k63
open PySem PySem.Spec L2 FL
abbrev ni (i : Nat) : Option Sl := some (.fz (.int (i : Int)))
abbrev fr (p : Int × Int) : Option Sl := some (.fz (fD p))
theorem law_step {l f : Int × Int} {k : Kn} {n : Nat} {x0 x1 x2 x3 x4 x5 x6 x7 x8 : Option Sl} (hl : Fr 60 l) (hf : Fr n f) (n5 : n ≤ 5000) (ok : k.ok) (sg : Sg k) :
    B1_law [x0, x1, x2, x3, x4, x5, x6, x7, x8, fr l, fr f, some (.fz (.int k.w)), some (.fz (.int k.v)), some (.fz (mD k.m))] = .nx [x0, x1, x2, x3, x4, x5, x6, x7, x8, fr l, fr (stepB l f k), some (.fz (.int k.w)), some (.fz (.int k.v)), some (.fz (mD k.m))] := by
  have bv : bits 4 k.v := bits_lt ok.v0 (by have := sg.v; simp; omega)
  have bw : bits 60 k.w := bits_lt (by have := ok.w1; omega) (by have := sg.w; simpa using this)
  have m1 : mulOk k.v l.2 = true := mulOk_of bv hl.bb (by decide)
  have m2 : mulOk k.w l.1 = true := mulOk_of bw hl.ba (by decide)
  by_cases c : 0 < k.v * l.2 - k.w * l.1
  · have c' : k.w * l.1 < k.v * l.2 := by omega
    have gf := gain_fr hl ok sg c
    have mv := low_v (Int.le_of_lt c) hl.b hl.bb (by decide)
    have pv := law_plus_v hf gf (by omega)
    have n1 : noL (fD (lw (k.v * l.2 - k.w * l.1) l.2)) = true := by unfold fD; simp
    have n2 : noL (fD (pl f (lw (k.v * l.2 - k.w * l.1) l.2))) = true := by unfold fD; simp
    rcases sg.m with e | e
    · have s : stepB l f k = f := by unfold stepB; rw [e]; simp
      have e1 : eqS (.int 0) (.int 1) = some false := by rw [eqS_ii]; rfl
      rw [s, e]
      simp -implicitDefEqProofs [B1_law, mD, e1]
    · have s : stepB l f k = pl f (lw (k.v * l.2 - k.w * l.1) l.2) := by unfold stepB; rw [if_pos ⟨e, c⟩]
      have e1 : eqS (.int 1) (.int 1) = some true := by rw [eqS_ii]; rfl
      rw [s, e]
      generalize pl f (lw (k.v * l.2 - k.w * l.1) l.2) = r at *
      generalize lw (k.v * l.2 - k.w * l.1) l.2 = z at *
      simp -implicitDefEqProofs [B1_law, m1, m2, mD, e1, c', mv, pv, n1, n2]
  · have c' : ¬ k.w * l.1 < k.v * l.2 := by omega
    have s : stepB l f k = f := by unfold stepB; rw [if_neg fun z => c z.2]
    rw [s]
    rcases sg.m with e | e
    · have e1 : eqS (.int 0) (.int 1) = some false := by rw [eqS_ii]; rfl
      rw [e]
      simp -implicitDefEqProofs [B1_law, mD, e1]
    · have e1 : eqS (.int 1) (.int 1) = some true := by rw [eqS_ii]; rfl
      rw [e]
      simp -implicitDefEqProofs [B1_law, m1, m2, mD, e1, c']
theorem law_loop {ks : List Kn} {l f : Int × Int} {x0 x1 x2 x4 x5 x6 x7 x8 x11 x12 x13 : Option Sl} (hl : Fr 60 l) (hf : Fr 321 f) (hok : ∀ k ∈ ks, k.ok) (hs : ∀ k ∈ ks, Sg k) (l8 : ks.length ≤ 8) (f11 : freeK (some x11) = true) (f12 : freeK (some x12) = true) (f13 : freeK (some x13) = true) :
    ∃ (y11 y12 y13 : Option Sl), freeK (some y11) = true ∧ freeK (some y12) = true ∧ freeK (some y13) = true ∧ loopF (gT (gsCons (gN 11) (gsCons (gN 12) (gsCons (gN 13) gsNil)))) B1_law (ks.map Kn.d) [x0, x1, x2, some (.fz (.tuple (ks.map Kn.d))), x4, x5, x6, x7, x8, fr l, fr f, x11, x12, x13] =
      .nx [x0, x1, x2, some (.fz (.tuple (ks.map Kn.d))), x4, x5, x6, x7, x8, fr l, fr (ks.foldl (stepB l) f), y11, y12, y13] := by
  obtain ⟨Γ', e, y11, y12, y13, hΓ, g11, g12, g13⟩ := loop_range (g := gT (gsCons (gN 11) (gsCons (gN 12) (gsCons (gN 13) gsNil)))) (b := B1_law)
    (fun i Γ => ∃ (y11 y12 y13 : Option Sl), Γ = [x0, x1, x2, some (.fz (.tuple (ks.map Kn.d))), x4, x5, x6, x7, x8, fr l, fr ((ks.take i).foldl (stepB l) f), y11, y12, y13] ∧ freeK (some y11) = true ∧ freeK (some y12) = true ∧ freeK (some y13) = true)
    (xs := ks.map Kn.d) (fun i x Γ hx ⟨x11, x12, x13, hΓ, f11, f12, f13⟩ => by
      have hi : i < ks.length := by have := lt_of_get hx; rwa [List.length_map] at this
      rw [List.getElem?_map, List.getElem?_eq_getElem hi] at hx
      cases hx
      subst hΓ
      have hm : ks[i] ∈ ks := List.getElem_mem hi
      have ff := fold_fr hl (ks.take i) 321 f hf (fun k hk => hok k (List.mem_of_mem_take hk)) (fun k hk => hs k (List.mem_of_mem_take hk))
      have lt : (ks.take i).length ≤ 8 := by rw [List.length_take]; omega
      have e := law_step (x0 := x0) (x1 := x1) (x2 := x2) (x3 := some (.fz (.tuple (ks.map Kn.d)))) (x4 := x4) (x5 := x5) (x6 := x6) (x7 := x7) (x8 := x8) (k := ks[i]) hl ff (by omega) (hok _ hm) (hs _ hm)
      have et : (ks.take (i + 1)).foldl (stepB l) f = stepB l ((ks.take i).foldl (stepB l) f) ks[i] := by
        rw [← List.take_append_getElem hi, List.foldl_append]; rfl
      rw [← et] at e
      exact ⟨[x0, x1, x2, some (.fz (.tuple (ks.map Kn.d))), x4, x5, x6, x7, x8, fr l, fr ((ks.take i).foldl (stepB l) f), some (.fz (.int (ks[i]).w)), some (.fz (.int (ks[i]).v)), some (.fz (mD (ks[i]).m))], _, by simp -implicitDefEqProofs [f11, f12, f13, Kn.d], e, ⟨_, _, _, rfl, rfl, rfl, rfl⟩⟩)
    (Γ := [x0, x1, x2, some (.fz (.tuple (ks.map Kn.d))), x4, x5, x6, x7, x8, fr l, fr f, x11, x12, x13]) ⟨_, _, _, rfl, f11, f12, f13⟩
  rw [List.length_map, List.take_length] at hΓ
  exact ⟨y11, y12, y13, g11, g12, g13, by rw [e, hΓ]⟩
theorem shw_f {n : Nat} {p : Int × Int} (hp : Fr n p) (l : n ≤ 1900) : shwOk (fD p) = true := by
  have lg : ∀ {i : Int}, bits n i → decide (i.natAbs.log2 < 1920) = true := fun {i} h => by
    rw [decide_eq_true_eq]
    by_cases z : i.natAbs = 0
    · rw [z]; decide
    · have := (Nat.log2_lt z).mpr h
      omega
  refine shwOk_of (n := 1) ?_ ?_ (by decide) ?_
  · unfold fD
    simp only [numOk, numsOk, lg hp.ba, lg hp.bb, Bool.and_self]
  · unfold fD
    refine .tup fun x hx => ?_
    simp at hx
    rcases hx with rfl | rfl
    · exact .int _
    · exact .int _
  · unfold fD
    simp [wt, wts]
theorem lap_step {ns : List Int} {i j : Nat} {b one other : Int} {ks : List Kn} {x7 x8 x9 x10 x11 x12 x13 : Option Sl} (hok : ∀ k ∈ ks, k.ok) (hs : ∀ k ∈ ks, Sg k) (l8 : ks.length ≤ 8) (h1 : 0 ≤ one) (b1 : bits 100 one) (h2 : 0 ≤ other) (b2 : bits 100 other)
    (f7 : freeK (some x7) = true) (f8 : freeK (some x8) = true) (f9 : freeK (some x9) = true) (f10 : freeK (some x10) = true) (f11 : freeK (some x11) = true) (f12 : freeK (some x12) = true) (f13 : freeK (some x13) = true) :
    ∃ (b' : Int) (y7 y8 y9 y10 y11 y12 y13 : Option Sl), B2_law [some (.scr ns), ni i, some (.ow [.int b]), some (.fz (.tuple (ks.map Kn.d))), some (.fz (.int one)), some (.fz (.int other)), ni j, x7, x8, x9, x10, x11, x12, x13] = .nx [some (.scr ns), ni i, some (.ow [.int b']), some (.fz (.tuple (ks.map Kn.d))), some (.fz (.int one)), some (.fz (.int other)), ni j, y7, y8, y9, y10, y11, y12, y13] ∧
      freeK (some y7) = true ∧ freeK (some y8) = true ∧ freeK (some y9) = true ∧ freeK (some y10) = true ∧ freeK (some y11) = true ∧ freeK (some y12) = true ∧ freeK (some y13) = true := by
  obtain ⟨p, bp, ep, hp, cp⟩ := price_io (b := b) hok hs l8
  obtain ⟨q, bq, eq, hq, cq⟩ := price_io (b := bp) hok hs l8
  obtain ⟨s1, s2⟩ := start_fr h1 b1 h2 b2 hp hq
  have m1 : mulOk p.1 q.2 = true := mulOk_of hp.ba hq.bb (by decide)
  have m2 : mulOk q.1 p.2 = true := mulOk_of hq.ba hp.bb (by decide)
  have m3 : mulOk one p.1 = true := mulOk_of b1 hp.ba (by decide)
  have m4 : mulOk other q.1 = true := mulOk_of b2 hq.ba (by decide)
  have v1 := low_v (Int.mul_nonneg h1 hp.a) hp.b hp.bb (by decide)
  have v2 := low_v (Int.mul_nonneg h2 hq.a) hq.b hq.bb (by decide)
  have v3 := law_plus_v s1 s2 (by decide)
  have frs := pl_fr s1 s2
  have hl : Fr 60 (pick p q) := by rcases pick_or p q with e | e <;> rw [e] <;> assumption
  obtain ⟨y11, y12, y13, g11, g12, g13, e⟩ := law_loop (ks := ks) (x0 := some (.scr ns)) (x1 := ni i) (x2 := some (.ow [.int bq])) (x4 := some (.fz (.int one))) (x5 := some (.fz (.int other))) (x6 := ni j) (x7 := fr p) (x8 := fr q) hl frs hok hs l8 f11 f12 f13
  have nf : ∀ r : Int × Int, noL (fD r) = true := fun r => by unfold fD; simp
  have bv := bound_v hok hs l8 h1 b1 h2 b2 hp cp hq cq
  have ff := fold_fr hl ks 321 _ frs hok hs
  have rp : ∃ t, reprD (fD (bnd ks one other p q)) = some (.str t) := by
    have := shw_f (p := bnd ks one other p q) ff (by omega)
    unfold fD at this ⊢
    exact ⟨_, repr_t this⟩
  obtain ⟨t, rp⟩ := rp
  have be : bnd ks one other p q = ks.foldl (stepB (pick p q)) (pl (lw (one * p.1) p.2) (lw (other * q.1) q.2)) := rfl
  rw [be] at bv rp
  refine ⟨bq, fr p, fr q, fr (pick p q), fr (ks.foldl (stepB (pick p q)) (pl (lw (one * p.1) p.2) (lw (other * q.1) q.2))), y11, y12, y13, ?_, rfl, rfl, rfl, rfl, g11, g12, g13⟩
  have pk : (p.1 * q.2 ≤ q.1 * p.2 ∧ pick p q = p) ∨ (¬ p.1 * q.2 ≤ q.1 * p.2 ∧ pick p q = q) := by
    unfold pick
    by_cases c : p.1 * q.2 < q.1 * p.2
    · exact .inl ⟨by omega, if_pos c⟩
    · by_cases c2 : p.1 * q.2 ≤ q.1 * p.2
      · have := cop_eq hp cp hq cq (by omega)
        exact .inl ⟨c2, by rw [if_neg c, this]⟩
      · exact .inr ⟨c2, if_neg c⟩
  generalize ks.foldl (stepB (pick p q)) (pl (lw (one * p.1) p.2) (lw (other * q.1) q.2)) = res at *
  generalize pl (lw (one * p.1) p.2) (lw (other * q.1) q.2) = st at *
  generalize lw (one * p.1) p.2 = a1 at *
  generalize lw (other * q.1) q.2 = a2 at *
  generalize ks.map Kn.d = X at *
  rcases pk with ⟨c, pk⟩ | ⟨c, pk⟩
  · rw [pk] at e ⊢
    simp -implicitDefEqProofs [B2_law, ep, eq, nf, f7, f8, f9, f10, m1, m2, c, m3, m4, v1, v2, v3, e, bv, rp]
  · rw [pk] at e ⊢
    simp -implicitDefEqProofs [B2_law, ep, eq, nf, f7, f8, f9, f10, m1, m2, c, m3, m4, v1, v2, v3, e, bv, rp]
end Lw_k63

namespace Lw_k63
open PySem PySem.Spec L2 FL
theorem laps {ns : List Int} {i : Nat} {b one other : Int} {ks : List Kn} {x6 x7 x8 x9 x10 x11 x12 x13 : Option Sl} (hok : ∀ k ∈ ks, k.ok) (hs : ∀ k ∈ ks, Sg k) (l8 : ks.length ≤ 8) (h1 : 0 ≤ one) (b1 : bits 100 one) (h2 : 0 ≤ other) (b2 : bits 100 other)
    (f6 : freeK (some x6) = true) (f7 : freeK (some x7) = true) (f8 : freeK (some x8) = true) (f9 : freeK (some x9) = true) (f10 : freeK (some x10) = true) (f11 : freeK (some x11) = true) (f12 : freeK (some x12) = true) (f13 : freeK (some x13) = true) :
    ∃ (b' : Int) (y6 y7 y8 y9 y10 y11 y12 y13 : Option Sl), loopF (gN 6) B2_law (rgs 0 3) [some (.scr ns), ni i, some (.ow [.int b]), some (.fz (.tuple (ks.map Kn.d))), some (.fz (.int one)), some (.fz (.int other)), x6, x7, x8, x9, x10, x11, x12, x13] =
      .nx [some (.scr ns), ni i, some (.ow [.int b']), some (.fz (.tuple (ks.map Kn.d))), some (.fz (.int one)), some (.fz (.int other)), y6, y7, y8, y9, y10, y11, y12, y13] ∧
      freeK (some y6) = true ∧ freeK (some y7) = true ∧ freeK (some y8) = true ∧ freeK (some y9) = true ∧ freeK (some y10) = true ∧ freeK (some y11) = true ∧ freeK (some y12) = true ∧ freeK (some y13) = true := by
  obtain ⟨Γ', e, b', y6, y7, y8, y9, y10, y11, y12, y13, hΓ, g⟩ := loop_range (g := gN 6) (b := B2_law)
    (fun j Γ => ∃ (b : Int) (x6 x7 x8 x9 x10 x11 x12 x13 : Option Sl), Γ = [some (.scr ns), ni i, some (.ow [.int b]), some (.fz (.tuple (ks.map Kn.d))), some (.fz (.int one)), some (.fz (.int other)), x6, x7, x8, x9, x10, x11, x12, x13] ∧
      freeK (some x6) = true ∧ freeK (some x7) = true ∧ freeK (some x8) = true ∧ freeK (some x9) = true ∧ freeK (some x10) = true ∧ freeK (some x11) = true ∧ freeK (some x12) = true ∧ freeK (some x13) = true)
    (xs := rgs 0 3) (fun j x Γ hx ⟨b, x6, x7, x8, x9, x10, x11, x12, x13, hΓ, f6, f7, f8, f9, f10, f11, f12, f13⟩ => by
      have hj : j < 3 := by have := lt_of_get hx; rwa [rgs_len] at this
      rw [rgs_get hj, Int.zero_add] at hx
      cases hx
      subst hΓ
      obtain ⟨b', y7, y8, y9, y10, y11, y12, y13, e, g7, g8, g9, g10, g11, g12, g13⟩ := lap_step (ns := ns) (i := i) (j := j) (b := b) hok hs l8 h1 b1 h2 b2 f7 f8 f9 f10 f11 f12 f13
      exact ⟨[some (.scr ns), ni i, some (.ow [.int b]), some (.fz (.tuple (ks.map Kn.d))), some (.fz (.int one)), some (.fz (.int other)), ni j, x7, x8, x9, x10, x11, x12, x13], _, by simp -implicitDefEqProofs [f6], e, ⟨_, _, _, _, _, _, _, _, _, rfl, rfl, g7, g8, g9, g10, g11, g12, g13⟩⟩)
    (Γ := [some (.scr ns), ni i, some (.ow [.int b]), some (.fz (.tuple (ks.map Kn.d))), some (.fz (.int one)), some (.fz (.int other)), x6, x7, x8, x9, x10, x11, x12, x13]) ⟨_, _, _, _, _, _, _, _, _, rfl, f6, f7, f8, f9, f10, f11, f12, f13⟩
  exact ⟨b', y6, y7, y8, y9, y10, y11, y12, y13, by rw [e, hΓ], g⟩
theorem out_step {ns : List Int} {i : Nat} (hi : i < 4) {x2 x3 x4 x5 x6 x7 x8 x9 x10 x11 x12 x13 : Option Sl} (f2 : freeK (some x2) = true) (f3 : freeK (some x3) = true) (f4 : freeK (some x4) = true) (f5 : freeK (some x5) = true) (f6 : freeK (some x6) = true) (f7 : freeK (some x7) = true) (f8 : freeK (some x8) = true) (f9 : freeK (some x9) = true) (f10 : freeK (some x10) = true) (f11 : freeK (some x11) = true) (f12 : freeK (some x12) = true) (f13 : freeK (some x13) = true) :
    ∃ (y2 y3 y4 y5 y6 y7 y8 y9 y10 y11 y12 y13 : Option Sl), B3_law [some (.scr ns), ni i, x2, x3, x4, x5, x6, x7, x8, x9, x10, x11, x12, x13] = .nx [some (.scr ns), ni i, y2, y3, y4, y5, y6, y7, y8, y9, y10, y11, y12, y13] ∧
      freeK (some y2) = true ∧ freeK (some y3) = true ∧ freeK (some y4) = true ∧ freeK (some y5) = true ∧ freeK (some y6) = true ∧ freeK (some y7) = true ∧ freeK (some y8) = true ∧ freeK (some y9) = true ∧ freeK (some y10) = true ∧ freeK (some y11) = true ∧ freeK (some y12) = true ∧ freeK (some y13) = true := by
  obtain ⟨b, hb⟩ := box_v ns i hi
  obtain ⟨ks, b1, ev, l8, hok, hs⟩ := single_io (b := b)
  have t30 : ∀ b : Int, (run__law_take [.io [.int b], .fz (.int 30)]).io 0 = .ok (.int (b % 30), [.int (b / 30)]) := fun b => take_io (by decide) (by decide)
  have t2 : ∀ b : Int, (run__law_take [.io [.int b], .fz (.int 2)]).io 0 = .ok (.int (b % 2), [.int (b / 2)]) := fun b => take_io (by decide) (by decide)
  obtain ⟨other, ho, o0, ob⟩ : ∃ o : Int, ixD (.list [.int (b1 / 30 % 30), .int 10000000000000000000000000000]) (.int (b1 / 30 / 30 % 2)) = some (.int o) ∧ 0 ≤ o ∧ bits 100 o := by
    generalize hc : b1 / 30 / 30 % 2 = c
    have : c = 0 ∨ c = 1 := by omega
    rcases this with rfl | rfl
    · exact ⟨_, ixl_0, by omega, bits_lt (by omega) (by simp; omega)⟩
    · exact ⟨_, ixl_1, by decide, bits_lt (by decide) (by decide)⟩
  obtain ⟨b', y6, y7, y8, y9, y10, y11, y12, y13, e, g⟩ := laps (ns := ns) (i := i) (b := b1 / 30 / 30 / 2) (one := b1 % 30) (other := other) hok hs l8 (by omega) (bits_lt (by omega) (by simp; omega)) o0 ob f6 f7 f8 f9 f10 f11 f12 f13
  have r3 : rgOk 3 = true := rgOk_b (by decide) (by decide)
  have bk : ∀ (rvs : List RV) (Γ0 Γ : Ga), backV [Sl.scr ns, Sl.fz (.int i)] rvs none Γ0 Γ (.list [.int b]) = .ok (.ow [.int b], Γ) := fun rvs Γ0 Γ => by
    unfold backV
    rw [if_neg (by simp)]
    simp [Sl.flat]
  have nl := noLs_kn ks
  refine ⟨some (.ow [.int b']), some (.fz (.tuple (ks.map Kn.d))), some (.fz (.int (b1 % 30))), some (.fz (.int other)), y6, y7, y8, y9, y10, y11, y12, y13, ?_, rfl, rfl, rfl, rfl, g⟩
  generalize ks.map Kn.d = X at *
  simp -implicitDefEqProofs [B3_law, hb, bk, f2, ev, nl, f3, t30, t2, ho, f4, f5, r3, e]
theorem out_loop (ns : List Int) (n : Nat) (n4 : n ≤ 4) : ∃ Γ', loopF (gN 1) B3_law (rgs 0 n) [some (.scr ns), none, none, none, none, none, none, none, none, none, none, none, none, none] = .nx Γ' := by
  obtain ⟨Γ', e, _⟩ := loop_range (g := gN 1) (b := B3_law)
    (fun i Γ => ∃ (x1 x2 x3 x4 x5 x6 x7 x8 x9 x10 x11 x12 x13 : Option Sl), Γ = [some (.scr ns), x1, x2, x3, x4, x5, x6, x7, x8, x9, x10, x11, x12, x13] ∧ freeK (some x1) = true ∧ freeK (some x2) = true ∧ freeK (some x3) = true ∧ freeK (some x4) = true ∧ freeK (some x5) = true ∧ freeK (some x6) = true ∧ freeK (some x7) = true ∧ freeK (some x8) = true ∧ freeK (some x9) = true ∧ freeK (some x10) = true ∧ freeK (some x11) = true ∧ freeK (some x12) = true ∧ freeK (some x13) = true)
    (xs := rgs 0 n) (fun i x Γ hx ⟨x1, x2, x3, x4, x5, x6, x7, x8, x9, x10, x11, x12, x13, hΓ, f1, f2, f3, f4, f5, f6, f7, f8, f9, f10, f11, f12, f13⟩ => by
      have hi : i < n := by have := lt_of_get hx; rwa [rgs_len] at this
      rw [rgs_get hi, Int.zero_add] at hx
      cases hx
      subst hΓ
      obtain ⟨y2, y3, y4, y5, y6, y7, y8, y9, y10, y11, y12, y13, e2, g⟩ := out_step (ns := ns) (i := i) (by omega) f2 f3 f4 f5 f6 f7 f8 f9 f10 f11 f12 f13
      exact ⟨[some (.scr ns), ni i, x2, x3, x4, x5, x6, x7, x8, x9, x10, x11, x12, x13], _, by simp -implicitDefEqProofs [f1], e2, ⟨_, _, _, _, _, _, _, _, _, _, _, _, _, rfl, rfl, g⟩⟩)
    (Γ := [some (.scr ns), none, none, none, none, none, none, none, none, none, none, none, none, none]) ⟨_, _, _, _, _, _, _, _, _, _, _, _, _, rfl, rfl, rfl, rfl, rfl, rfl, rfl, rfl, rfl, rfl, rfl, rfl, rfl, rfl⟩
  exact ⟨Γ', e⟩
theorem law_val (ns : List Int) : (run_law [.scr ns]).val = .ok (.bool true) := by
  have n4 : (max 1 (min (ns.length : Int) 4)).toNat ≤ 4 := by omega
  have rn : rgOk (max 1 (min (ns.length : Int) 4)) = true := rgOk_b (by omega) (by omega)
  obtain ⟨Γ', e⟩ := out_loop ns _ n4
  have s : f_law [some (.scr ns), none, none, none, none, none, none, none, none, none, none, none, none, none] = .ret (.bool true) Γ' := by
    simp -implicitDefEqProofs [f_law, rn, e]
  simp -implicitDefEqProofs [run_law, s]
theorem law_true : ∀ ns : List Int, ns.length ≤ 63 → (∀ z ∈ ns, Builtin.Int.intBits z ≤ 1048576) → ∃ outs, run_law [.scr ns] = .ok (.bool true) outs := fun ns _ _ => by
  have := law_val ns
  cases q : run_law [.scr ns] with
  | ok d outs => rw [q] at this; cases this; exact ⟨outs, rfl⟩
  | exc x => rw [q] at this; cases this
  | bad => rw [q] at this; cases this
end Lw_k63


namespace Lw_k63
open PySem PySem.Spec L2 FL
def topS (i : Nat) : Stmt := PySem.Challenge.pw_sackloads_k63_bounds_of_two_prices.main.body.getD i (.Pass ⟨0, 0, 0, 0⟩)
structure Fx (K : Frag) (mg : Str → Option Value) : Prop where
  b_abs : mg "abs" = none
  b_all : mg "all" = none
  b_bool : mg "bool" = none
  b_divmod : mg "divmod" = none
  b_int : mg "int" = none
  b_isinstance : mg "isinstance" = none
  b_len : mg "len" = none
  b_max : mg "max" = none
  b_min : mg "min" = none
  b_range : mg "range" = none
  b_repr : mg "repr" = none
  b_tuple : mg "tuple" = none
  c_MOST_KINDS : ∃ t, mg "MOST_KINDS" = some (.int 12 t)
  c_MOST_STOWED : ∃ t, mg "MOST_STOWED" = some (.int 8 t)
  e_NoNumber : Erc K mg "NoNumber"
  e_NoStore : Erc K mg "NoStore"
  e_NotSingle : Erc K mg "NotSingle"
  e_TooMany : Erc K mg "TooMany"
section
variable {P : Program} {w : World} {K : Frag} {mg : Str → Option Value} {base : Heap}
abbrev s__law_box : Stmt := topS 26
theorem sc__law_box : FnScope ["script", "k", "here", "number", "j", "part"] ["script", "k"] (defScope s__law_box) := ⟨rfl, rfl, rfl, by decide +kernel, rfl, by decide +kernel, by decide +kernel⟩
theorem kp__law_box (Z : Fx K mg) (T : Tx K mg "_law_box" s__law_box ["script", "k"])  : Clb P w K mg base 1 "_law_box" 2 run__law_box :=
  clb_of T sc__law_box rfl fun f cdv A outer s H Ex ck0 tk po => by
  have ck : Cok (bX P w K mg base ["script", "k", "here", "number", "j", "part"] "_law_box" s__law_box f cdv A outer s H Ex) (bE Ex) 0 := ck0
  exact (fs_cons (fs_set (i := 2) sc__law_box.nd (by rfl) (by first | exact .inl rfl | exact .inr rfl) (fe_add (fe_mul fe_int (fe_var (pv 1))) fe_int))
    (fs_cons (fs_if (ft_cmp cf_lt (fe_var (pv 1)) (fe_len (by rfl) Z.b_len (fe_var (pv 0))) (by rfl)) (fs_one (fs_set (i := 2) sc__law_box.nd (by rfl) (by first | exact .inl rfl | exact .inr rfl) (fe_ix (fe_var (pv 0)) (fe_var (pv 1)) (fun _ _ => rfl)))) fs_nil)
    (fs_cons (fs_if (ft_cmp (cf_eqS ck.u64) (fe_mod (fe_var (pv 2)) fe_int) fe_int (by rfl)) (fs_one (fs_ret (fe_lst (fa_cons (fe_fdiv (fe_var (pv 2)) fe_int) fa_nil)))) fs_nil)
    (fs_cons (fs_set (i := 3) sc__law_box.nd (by rfl) (by first | exact .inl rfl | exact .inr rfl) fe_int)
    (fs_cons (fs_for po rfl (fi_range1 (by rfl) Z.b_range (fa_cons fe_int fa_nil)) (fg_name (L2.pg_name (i := 4) sc__law_box.nd (by rfl) (by first | exact .inl rfl | exact .inr rfl))) (fs_cons (fs_set (i := 5) sc__law_box.nd (by rfl) (by first | exact .inl rfl | exact .inr rfl) (fe_mod (fe_add (fe_add (fe_mul (fe_mod (fe_var (pv 2)) fe_int) fe_int) (fe_mul fe_int (fe_var (pv 4)))) fe_int) fe_int))
    (fs_cons (fs_set (i := 5) sc__law_box.nd (by rfl) (by first | exact .inl rfl | exact .inr rfl) (fe_mod (fe_mul (fe_var (pv 5)) (fe_var (pv 5))) fe_int))
    (fs_one (fs_set (i := 3) sc__law_box.nd (by rfl) (by first | exact .inl rfl | exact .inr rfl) (fe_add (fe_mul (fe_var (pv 3)) fe_int) (fe_mod (fe_mul (fe_var (pv 5)) (fe_add (fe_var (pv 5)) fe_int)) fe_int)))))))
    (fs_one (fs_ret (fe_lst (fa_cons (fe_var (pv 3)) fa_nil)))))))))
abbrev s__law_divisor : Stmt := topS 29
theorem sc__law_divisor : FnScope ["one", "other"] ["one", "other"] (defScope s__law_divisor) := ⟨rfl, rfl, rfl, by decide +kernel, rfl, by decide +kernel, by decide +kernel⟩
theorem kp__law_divisor (Z : Fx K mg) (T : Tx K mg "_law_divisor" s__law_divisor ["one", "other"])  : Clb P w K mg base 1 "_law_divisor" 2 run__law_divisor :=
  clb_of T sc__law_divisor rfl fun f cdv A outer s H Ex ck0 tk po => by
  have ck : Cok (bX P w K mg base ["one", "other"] "_law_divisor" s__law_divisor f cdv A outer s H Ex) (bE Ex) 0 := ck0
  exact (fs_cons (fs_par (i := 0) (j := 1) rfl sc__law_divisor.nd (by rfl) (by rfl) (by decide) (by rfl) (by rfl) (fa_cons (fe_abs (by rfl) Z.b_abs (fe_var (pv 0))) (fa_cons (fe_abs (by rfl) Z.b_abs (fe_var (pv 1))) fa_nil)))
    (fs_cons (fs_while po (ft_cmp cf_gt (fe_var (pv 1)) fe_int (by rfl)) (fs_one (fs_par (i := 0) (j := 1) rfl sc__law_divisor.nd (by rfl) (by rfl) (by decide) (by rfl) (by rfl) (fa_cons (fe_var (pv 1)) (fa_cons (fe_mod (fe_var (pv 0)) (fe_var (pv 1))) fa_nil)))))
    (fs_one (fs_ret (fe_var (pv 0))))))
abbrev s__law_low : Stmt := topS 30
theorem sc__law_low : FnScope ["top", "bottom", "by"] ["top", "bottom"] (defScope s__law_low) := ⟨rfl, rfl, rfl, by decide +kernel, rfl, by decide +kernel, by decide +kernel⟩
theorem kp__law_low (Z : Fx K mg) (T : Tx K mg "_law_low" s__law_low ["top", "bottom"]) (C__law_divisor : Clb P w K mg base 1 "_law_divisor" 2 run__law_divisor) : Clb P w K mg base 2 "_law_low" 2 run__law_low :=
  clb_of T sc__law_low rfl fun f cdv A outer s H Ex ck0 tk po => by
  have ck : Cok (bX P w K mg base ["top", "bottom", "by"] "_law_low" s__law_low f cdv A outer s H Ex) (bE Ex) 1 := ck0
  exact (fs_cons (fs_set (i := 2) sc__law_low.nd (by rfl) (by first | exact .inl rfl | exact .inr rfl) (fe_callC C__law_divisor ck (by decide) (by rfl) none (fa_cons (fe_var (pv 0)) (fa_cons (fe_var (pv 1)) fa_nil))))
    (fs_one (fs_ret (fe_tup (fa_cons (fe_fdiv (fe_var (pv 0)) (fe_var (pv 2))) (fa_cons (fe_fdiv (fe_var (pv 1)) (fe_var (pv 2))) fa_nil))))))
abbrev s__law_plus : Stmt := topS 31
theorem sc__law_plus : FnScope ["one", "other"] ["one", "other"] (defScope s__law_plus) := ⟨rfl, rfl, rfl, by decide +kernel, rfl, by decide +kernel, by decide +kernel⟩
theorem kp__law_plus (Z : Fx K mg) (T : Tx K mg "_law_plus" s__law_plus ["one", "other"]) (C__law_low : Clb P w K mg base 2 "_law_low" 2 run__law_low) : Clb P w K mg base 3 "_law_plus" 2 run__law_plus :=
  clb_of T sc__law_plus rfl fun f cdv A outer s H Ex ck0 tk po => by
  have ck : Cok (bX P w K mg base ["one", "other"] "_law_plus" s__law_plus f cdv A outer s H Ex) (bE Ex) 2 := ck0
  exact (fs_one (fs_ret (fe_callC C__law_low ck (by decide) (by rfl) none (fa_cons (fe_add (fe_mul (fe_ix (fe_var (pv 0)) fe_int (fun _ _ => rfl)) (fe_ix (fe_var (pv 1)) fe_int (fun _ _ => rfl))) (fe_mul (fe_ix (fe_var (pv 1)) fe_int (fun _ _ => rfl)) (fe_ix (fe_var (pv 0)) fe_int (fun _ _ => rfl)))) (fa_cons (fe_mul (fe_ix (fe_var (pv 0)) fe_int (fun _ _ => rfl)) (fe_ix (fe_var (pv 1)) fe_int (fun _ _ => rfl))) fa_nil)))))
abbrev s__law_take : Stmt := topS 27
theorem sc__law_take : FnScope ["box", "many", "left", "digit"] ["box", "many"] (defScope s__law_take) := ⟨rfl, rfl, rfl, by decide +kernel, rfl, by decide +kernel, by decide +kernel⟩
theorem kp__law_take (Z : Fx K mg) (T : Tx K mg "_law_take" s__law_take ["box", "many"])  : Clb P w K mg base 1 "_law_take" 2 run__law_take :=
  clb_of T sc__law_take rfl fun f cdv A outer s H Ex ck0 tk po => by
  have ck : Cok (bX P w K mg base ["box", "many", "left", "digit"] "_law_take" s__law_take f cdv A outer s H Ex) (bE Ex) 0 := ck0
  exact (fs_cons (fs_asg (fe_divmod (by rfl) Z.b_divmod (fe_ix (fe_var (pv 0)) fe_int (fun _ _ => rfl)) (fe_var (pv 1))) (fg_tup rfl (fgs_cons (fg_name (L2.pg_name (i := 2) sc__law_take.nd (by rfl) (by first | exact .inl rfl | exact .inr rfl))) (fgs_cons (fg_name (L2.pg_name (i := 3) sc__law_take.nd (by rfl) (by first | exact .inl rfl | exact .inr rfl))) fgs_nil)) (gsCons_len (gsCons_len gsNil_len))))
    (fs_cons (fs_setIx (i := 0) (pv 0) fe_int (fe_var (pv 2)))
    (fs_one (fs_ret (fe_var (pv 3))))))
abbrev s__law_price : Stmt := topS 32
theorem sc__law_price : FnScope ["box", "store", "kinds", "way", "kind"] ["box", "store"] (defScope s__law_price) := ⟨rfl, rfl, rfl, by decide +kernel, rfl, by decide +kernel, by decide +kernel⟩
theorem kp__law_price (Z : Fx K mg) (T : Tx K mg "_law_price" s__law_price ["box", "store"]) (C__law_low : Clb P w K mg base 2 "_law_low" 2 run__law_low) (C__law_take : Clb P w K mg base 1 "_law_take" 2 run__law_take) : Clb P w K mg base 3 "_law_price" 2 run__law_price :=
  clb_of T sc__law_price rfl fun f cdv A outer s H Ex ck0 tk po => by
  have ck : Cok (bX P w K mg base ["box", "store", "kinds", "way", "kind"] "_law_price" s__law_price f cdv A outer s H Ex) (bE Ex) 2 := ck0
  exact (fs_cons (fs_setLc (own := [("kind", 4)]) (vs := [4]) rfl sc__law_price.nd (i := 2) (by rfl) (by rfl) (by exact L2.sw_true rfl rfl rfl rfl) (fi_any (fe_var (pv 1))) (L2.blkOk_by (by rfl)) rfl (fun _ _ _ _ _ => (fgv_name (L2.pg_name (i := 4) sc__law_price.nd (by rfl) (by first | exact .inl rfl | exact .inr rfl)) (by decide))) (fun _ _ _ _ _ => (fts_one (ft_cmp cf_gt (fe_ix (fe_var (pv 4)) fe_int (fun _ _ => rfl)) fe_int (by rfl)))) (fun _ _ _ _ _ => (fe_var (pv 4))))
    (fs_cons (fs_set (i := 3) sc__law_price.nd (by rfl) (by first | exact .inl rfl | exact .inr rfl) (fe_callC C__law_take ck (by decide) (by rfl) (some 0) (fa_cons (fe_var (pv 0)) (fa_cons fe_int fa_nil))))
    (fs_cons (fs_if ((fw_or (ft_cmp (cf_eqS ck.u64) (fe_var (pv 3)) fe_int (by rfl)) (fw_or1 (ft_cmp (cf_eqS ck.u64) (fe_var (pv 2)) (fe_lst fa_nil) (by rfl))))).pt (fs_one (fs_ret (fe_callC C__law_low ck (by decide) (by rfl) none (fa_cons (fe_callC C__law_take ck (by decide) (by rfl) (some 0) (fa_cons (fe_var (pv 0)) (fa_cons fe_int fa_nil))) (fa_cons (fe_add fe_int (fe_callC C__law_take ck (by decide) (by rfl) (some 0) (fa_cons (fe_var (pv 0)) (fa_cons fe_int fa_nil)))) fa_nil))))) fs_nil)
    (fs_cons (fs_set (i := 4) sc__law_price.nd (by rfl) (by first | exact .inl rfl | exact .inr rfl) (fe_ix (fe_var (pv 2)) (fe_callC C__law_take ck (by decide) (by rfl) (some 0) (fa_cons (fe_var (pv 0)) (fa_cons (fe_len (by rfl) Z.b_len (fe_var (pv 2))) fa_nil))) (fun _ _ => rfl)))
    (fs_one (fs_ret (fe_if (ft_cmp (cf_eqS ck.u64) (fe_var (pv 3)) fe_int (by rfl)) (fe_callC C__law_low ck (by decide) (by rfl) none (fa_cons (fe_ix (fe_var (pv 4)) fe_int (fun _ _ => rfl)) (fa_cons (fe_ix (fe_var (pv 4)) fe_int (fun _ _ => rfl)) fa_nil))) (fe_tup (fa_cons fe_int (fa_cons fe_int fa_nil))))))))))
abbrev s__law_single : Stmt := topS 28
theorem sc__law_single : FnScope ["box", "most", "far", "found", "k", "heft", "gain"] ["box", "most"] (defScope s__law_single) := ⟨rfl, rfl, rfl, by decide +kernel, rfl, by decide +kernel, by decide +kernel⟩
theorem kp__law_single (Z : Fx K mg) (T : Tx K mg "_law_single" s__law_single ["box", "most"]) (C__law_take : Clb P w K mg base 1 "_law_take" 2 run__law_take) : Clb P w K mg base 2 "_law_single" 2 run__law_single :=
  clb_of T sc__law_single rfl fun f cdv A outer s H Ex ck0 tk po => by
  have ck : Cok (bX P w K mg base ["box", "most", "far", "found", "k", "heft", "gain"] "_law_single" s__law_single f cdv A outer s H Ex) (bE Ex) 1 := ck0
  exact (fs_cons (fs_set (i := 2) sc__law_single.nd (by rfl) (by first | exact .inl rfl | exact .inr rfl) (fe_ix (fe_lst (fa_cons fe_int (fa_cons fe_int (fa_cons (fe_pow fe_int fe_int) fa_nil)))) (fe_callC C__law_take ck (by decide) (by rfl) (some 0) (fa_cons (fe_var (pv 0)) (fa_cons fe_int fa_nil))) (fun _ _ => rfl)))
    (fs_cons (fs_set (i := 3) sc__law_single.nd (by rfl) (by first | exact .inl rfl | exact .inr rfl) (fe_lst fa_nil))
    (fs_cons (fs_for po rfl (fi_range1 (by rfl) Z.b_range (fa_cons (fe_callC C__law_take ck (by decide) (by rfl) (some 0) (fa_cons (fe_var (pv 0)) (fa_cons (fe_add (fe_var (pv 1)) fe_int) fa_nil))) fa_nil)) (fg_name (L2.pg_name (i := 4) sc__law_single.nd (by rfl) (by first | exact .inl rfl | exact .inr rfl))) (fs_cons (fs_par (i := 5) (j := 6) rfl sc__law_single.nd (by rfl) (by rfl) (by decide) (by rfl) (by rfl) (fa_cons (fe_add (fe_mul (fe_var (pv 2)) (fe_add fe_int (fe_callC C__law_take ck (by decide) (by rfl) (some 0) (fa_cons (fe_var (pv 0)) (fa_cons fe_int fa_nil))))) (fe_mul (fe_var (pv 4)) (fe_sub (fe_var (pv 2)) fe_int))) (fa_cons (fe_callC C__law_take ck (by decide) (by rfl) (some 0) (fa_cons (fe_var (pv 0)) (fa_cons fe_int fa_nil))) fa_nil)))
    (fs_one (fs_expr (fe_append (pv 3) (fe_tup (fa_cons (fe_var (pv 5)) (fa_cons (fe_var (pv 6)) (fa_cons (fe_intOf (by rfl) Z.b_int (fe_cmp cf_gt (fe_callC C__law_take ck (by decide) (by rfl) (some 0) (fa_cons (fe_var (pv 0)) (fa_cons fe_int fa_nil))) fe_int (by rfl))) fa_nil)))))))))
    (fs_one (fs_ret (fe_tuple (by rfl) Z.b_tuple (fe_var (pv 3))))))))
abbrev s_common : Stmt := topS 17
theorem sc_common : FnScope ["one", "other"] ["one", "other"] (defScope s_common) := ⟨rfl, rfl, rfl, by decide +kernel, rfl, by decide +kernel, by decide +kernel⟩
theorem kp_common (Z : Fx K mg) (T : Tx K mg "common" s_common ["one", "other"])  : Clb P w K mg base 1 "common" 2 run_common :=
  clb_of T sc_common rfl fun f cdv A outer s H Ex ck0 tk po => by
  have ck : Cok (bX P w K mg base ["one", "other"] "common" s_common f cdv A outer s H Ex) (bE Ex) 0 := ck0
  exact (fs_cons (fs_while po (ft_cmp cf_gt (fe_var (pv 1)) fe_int (by rfl)) (fs_one (fs_par (i := 0) (j := 1) rfl sc_common.nd (by rfl) (by rfl) (by decide) (by rfl) (by rfl) (fa_cons (fe_var (pv 1)) (fa_cons (fe_mod (fe_var (pv 0)) (fe_var (pv 1))) fa_nil)))))
    (fs_one (fs_ret (fe_var (pv 0)))))
abbrev s_is_from : Stmt := topS 8
theorem sc_is_from : FnScope ["thing", "least"] ["thing", "least"] (defScope s_is_from) := ⟨rfl, rfl, rfl, by decide +kernel, rfl, by decide +kernel, by decide +kernel⟩
theorem kp_is_from (Z : Fx K mg) (T : Tx K mg "is_from" s_is_from ["thing", "least"])  : Clb P w K mg base 1 "is_from" 2 run_is_from :=
  clb_of T sc_is_from rfl fun f cdv A outer s H Ex ck0 tk po => by
  have ck : Cok (bX P w K mg base ["thing", "least"] "is_from" s_is_from f cdv A outer s H Ex) (bE Ex) 0 := ck0
  exact (fs_one (fs_ret (fe_and (fe_isi .int (by rfl) Z.b_isinstance (by rfl) Z.b_int (fe_var (pv 0))) (fe_and (fe_not (fe_isi .bool (by rfl) Z.b_isinstance (by rfl) Z.b_bool (fe_var (pv 0)))) (fe_one (fe_cmp cf_ge (fe_var (pv 0)) (fe_var (pv 1)) (by rfl)))))))
abbrev s_is_price : Stmt := topS 20
theorem sc_is_price : FnScope ["thing"] ["thing"] (defScope s_is_price) := ⟨rfl, rfl, rfl, by decide +kernel, rfl, by decide +kernel, by decide +kernel⟩
theorem kp_is_price (Z : Fx K mg) (T : Tx K mg "is_price" s_is_price ["thing"]) (C_common : Clb P w K mg base 1 "common" 2 run_common) (C_is_from : Clb P w K mg base 1 "is_from" 2 run_is_from) : Clb P w K mg base 2 "is_price" 1 run_is_price :=
  clb_of T sc_is_price rfl fun f cdv A outer s H Ex ck0 tk po => by
  have ck : Cok (bX P w K mg base ["thing"] "is_price" s_is_price f cdv A outer s H Ex) (bE Ex) 1 := ck0
  exact (fs_cons (fs_if ((fw_or (ft_not (ft_val (fe_isi .tuple (by rfl) Z.b_isinstance (by rfl) Z.b_tuple (fe_var (pv 0))))) (fw_or (ft_cmp (cf_neS ck.u64) (fe_len (by rfl) Z.b_len (fe_var (pv 0))) fe_int (by rfl)) (fw_or (ft_not (ft_val (fe_callC C_is_from ck (by decide) (by rfl) none (fa_cons (fe_ix (fe_var (pv 0)) fe_int (fun _ _ => rfl)) (fa_cons fe_int fa_nil))))) (fw_or1 (ft_not (ft_val (fe_callC C_is_from ck (by decide) (by rfl) none (fa_cons (fe_ix (fe_var (pv 0)) fe_int (fun _ _ => rfl)) (fa_cons fe_int fa_nil)))))))))).pt (fs_one (fs_ret fe_bl)) fs_nil)
    (fs_one (fs_ret (fe_cmp (cf_eqS ck.u64) (fe_callC C_common ck (by decide) (by rfl) none (fa_cons (fe_ix (fe_var (pv 0)) fe_int (fun _ _ => rfl)) (fa_cons (fe_ix (fe_var (pv 0)) fe_int (fun _ _ => rfl)) fa_nil))) fe_int (by rfl)))))
abbrev s_made : Stmt := topS 18
theorem sc_made : FnScope ["top", "bottom", "share"] ["top", "bottom"] (defScope s_made) := ⟨rfl, rfl, rfl, by decide +kernel, rfl, by decide +kernel, by decide +kernel⟩
theorem kp_made (Z : Fx K mg) (T : Tx K mg "made" s_made ["top", "bottom"]) (C_common : Clb P w K mg base 1 "common" 2 run_common) : Clb P w K mg base 2 "made" 2 run_made :=
  clb_of T sc_made rfl fun f cdv A outer s H Ex ck0 tk po => by
  have ck : Cok (bX P w K mg base ["top", "bottom", "share"] "made" s_made f cdv A outer s H Ex) (bE Ex) 1 := ck0
  exact (fs_cons (fs_set (i := 2) sc_made.nd (by rfl) (by first | exact .inl rfl | exact .inr rfl) (fe_callC C_common ck (by decide) (by rfl) none (fa_cons (fe_var (pv 0)) (fa_cons (fe_var (pv 1)) fa_nil))))
    (fs_one (fs_ret (fe_tup (fa_cons (fe_fdiv (fe_var (pv 0)) (fe_var (pv 2))) (fa_cons (fe_fdiv (fe_var (pv 1)) (fe_var (pv 2))) fa_nil))))))
abbrev s_need_number : Stmt := topS 12
theorem sc_need_number : FnScope ["number"] ["number"] (defScope s_need_number) := ⟨rfl, rfl, rfl, by decide +kernel, rfl, by decide +kernel, by decide +kernel⟩
theorem kp_need_number (Z : Fx K mg) (T : Tx K mg "need_number" s_need_number ["number"]) (C_is_from : Clb P w K mg base 1 "is_from" 2 run_is_from) : Clb P w K mg base 2 "need_number" 1 run_need_number :=
  clb_of T sc_need_number rfl fun f cdv A outer s H Ex ck0 tk po => by
  have ck : Cok (bX P w K mg base ["number"] "need_number" s_need_number f cdv A outer s H Ex) (bE Ex) 1 := ck0
  exact (fs_one (fs_if (ft_not (ft_val (fe_callC C_is_from ck (by decide) (by rfl) none (fa_cons (fe_var (pv 0)) (fa_cons fe_int fa_nil))))) (fs_one (fs_raiseC rfl tk Z.e_NoNumber (by rfl))) fs_nil))
abbrev s_is_kind : Stmt := topS 9
theorem sc_is_kind : FnScope ["thing"] ["thing"] (defScope s_is_kind) := ⟨rfl, rfl, rfl, by decide +kernel, rfl, by decide +kernel, by decide +kernel⟩
theorem kp_is_kind (Z : Fx K mg) (T : Tx K mg "is_kind" s_is_kind ["thing"]) (C_is_from : Clb P w K mg base 1 "is_from" 2 run_is_from) : Clb P w K mg base 2 "is_kind" 1 run_is_kind :=
  clb_of T sc_is_kind rfl fun f cdv A outer s H Ex ck0 tk po => by
  have ck : Cok (bX P w K mg base ["thing"] "is_kind" s_is_kind f cdv A outer s H Ex) (bE Ex) 1 := ck0
  exact (fs_cons (fs_if ((fw_or (ft_not (ft_val (fe_isi .tuple (by rfl) Z.b_isinstance (by rfl) Z.b_tuple (fe_var (pv 0))))) (fw_or1 (ft_cmp (cf_neS ck.u64) (fe_len (by rfl) Z.b_len (fe_var (pv 0))) fe_int (by rfl))))).pt (fs_one (fs_ret fe_bl)) fs_nil)
    (fs_cons (fs_if ((fw_or (ft_not (ft_val (fe_callC C_is_from ck (by decide) (by rfl) none (fa_cons (fe_ix (fe_var (pv 0)) fe_int (fun _ _ => rfl)) (fa_cons fe_int fa_nil))))) (fw_or1 (ft_not (ft_val (fe_callC C_is_from ck (by decide) (by rfl) none (fa_cons (fe_ix (fe_var (pv 0)) fe_int (fun _ _ => rfl)) (fa_cons fe_int fa_nil)))))))).pt (fs_one (fs_ret fe_bl)) fs_nil)
    (fs_one (fs_ret (fe_or (fe_cmp cf_is (fe_ix (fe_var (pv 0)) fe_int (fun _ _ => rfl)) fe_non (by rfl)) (fe_one (fe_callC C_is_from ck (by decide) (by rfl) none (fa_cons (fe_ix (fe_var (pv 0)) fe_int (fun _ _ => rfl)) (fa_cons fe_int fa_nil)))))))))
abbrev s_is_store : Stmt := topS 10
theorem sc_is_store : FnScope ["thing", "one"] ["thing"] (defScope s_is_store) := ⟨rfl, rfl, rfl, by decide +kernel, rfl, by decide +kernel, by decide +kernel⟩
theorem kp_is_store (Z : Fx K mg) (T : Tx K mg "is_store" s_is_store ["thing"]) (C_is_kind : Clb P w K mg base 2 "is_kind" 1 run_is_kind) : Clb P w K mg base 3 "is_store" 1 run_is_store :=
  clb_of T sc_is_store rfl fun f cdv A outer s H Ex ck0 tk po => by
  have ck : Cok (bX P w K mg base ["thing", "one"] "is_store" s_is_store f cdv A outer s H Ex) (bE Ex) 2 := ck0
  exact (fs_one (fs_ret (fe_and (fe_isi .tuple (by rfl) Z.b_isinstance (by rfl) Z.b_tuple (fe_var (pv 0))) (fe_and (fe_cmp cf_le (fe_len (by rfl) Z.b_len (fe_var (pv 0))) (fe_cint (by rfl) (Z.c_MOST_KINDS).choose_spec) (by rfl)) (fe_one (fe_all rfl (by rfl) Z.b_all (fe_lc (own := [("one", 1)]) (vs := [1]) rfl sc_is_store.nd (fi_any (fe_var (pv 0))) (L2.blkOk_by (by rfl)) rfl (fun _ _ _ _ _ => (fgv_name (L2.pg_name (i := 1) sc_is_store.nd (by rfl) (by first | exact .inl rfl | exact .inr rfl)) (by decide))) (fun _ _ _ _ _ => fts_nil) (fun _ _ _ _ _ => (fe_callC C_is_kind (cok_blk ck) (by decide) (by rfl) none (fa_cons (fe_var (pv 1)) fa_nil))))))))))
abbrev s_need_store : Stmt := topS 11
theorem sc_need_store : FnScope ["store"] ["store"] (defScope s_need_store) := ⟨rfl, rfl, rfl, by decide +kernel, rfl, by decide +kernel, by decide +kernel⟩
theorem kp_need_store (Z : Fx K mg) (T : Tx K mg "need_store" s_need_store ["store"]) (C_is_store : Clb P w K mg base 3 "is_store" 1 run_is_store) : Clb P w K mg base 4 "need_store" 1 run_need_store :=
  clb_of T sc_need_store rfl fun f cdv A outer s H Ex ck0 tk po => by
  have ck : Cok (bX P w K mg base ["store"] "need_store" s_need_store f cdv A outer s H Ex) (bE Ex) 3 := ck0
  exact (fs_one (fs_if (ft_not (ft_val (fe_callC C_is_store ck (by decide) (by rfl) none (fa_cons (fe_var (pv 0)) fa_nil)))) (fs_one (fs_raiseC rfl tk Z.e_NoStore (by rfl))) fs_nil))
abbrev s_is_single : Stmt := topS 14
theorem sc_is_single : FnScope ["store", "kind"] ["store"] (defScope s_is_single) := ⟨rfl, rfl, rfl, by decide +kernel, rfl, by decide +kernel, by decide +kernel⟩
theorem kp_is_single (Z : Fx K mg) (T : Tx K mg "is_single" s_is_single ["store"])  : Clb P w K mg base 1 "is_single" 1 run_is_single :=
  clb_of T sc_is_single rfl fun f cdv A outer s H Ex ck0 tk po => by
  have ck : Cok (bX P w K mg base ["store", "kind"] "is_single" s_is_single f cdv A outer s H Ex) (bE Ex) 0 := ck0
  exact (fs_one (fs_ret (fe_all rfl (by rfl) Z.b_all (fe_lc (own := [("kind", 1)]) (vs := [1]) rfl sc_is_single.nd (fi_any (fe_var (pv 0))) (L2.blkOk_by (by rfl)) rfl (fun _ _ _ _ _ => (fgv_name (L2.pg_name (i := 1) sc_is_single.nd (by rfl) (by first | exact .inl rfl | exact .inr rfl)) (by decide))) (fun _ _ _ _ _ => fts_nil) (fun _ _ _ _ _ => (fe_and (fe_cmp cf_isNot (fe_ix (fe_var (pv 1)) fe_int (fun _ _ => rfl)) fe_non (by rfl)) (fe_one (fe_cmp cf_le (fe_ix (fe_var (pv 1)) fe_int (fun _ _ => rfl)) fe_int (by rfl)))))))))
abbrev s_need_single : Stmt := topS 15
theorem sc_need_single : FnScope ["store"] ["store"] (defScope s_need_single) := ⟨rfl, rfl, rfl, by decide +kernel, rfl, by decide +kernel, by decide +kernel⟩
theorem kp_need_single (Z : Fx K mg) (T : Tx K mg "need_single" s_need_single ["store"]) (C_is_single : Clb P w K mg base 1 "is_single" 1 run_is_single) : Clb P w K mg base 2 "need_single" 1 run_need_single :=
  clb_of T sc_need_single rfl fun f cdv A outer s H Ex ck0 tk po => by
  have ck : Cok (bX P w K mg base ["store"] "need_single" s_need_single f cdv A outer s H Ex) (bE Ex) 1 := ck0
  exact (fs_one (fs_if (ft_not (ft_val (fe_callC C_is_single ck (by decide) (by rfl) none (fa_cons (fe_var (pv 0)) fa_nil)))) (fs_one (fs_raiseC rfl tk Z.e_NotSingle (by rfl))) fs_nil))
abbrev s_need_stowed : Stmt := topS 23
theorem sc_need_stowed : FnScope ["store"] ["store"] (defScope s_need_stowed) := ⟨rfl, rfl, rfl, by decide +kernel, rfl, by decide +kernel, by decide +kernel⟩
theorem kp_need_stowed (Z : Fx K mg) (T : Tx K mg "need_stowed" s_need_stowed ["store"]) (C_need_single : Clb P w K mg base 2 "need_single" 1 run_need_single) : Clb P w K mg base 3 "need_stowed" 1 run_need_stowed :=
  clb_of T sc_need_stowed rfl fun f cdv A outer s H Ex ck0 tk po => by
  have ck : Cok (bX P w K mg base ["store"] "need_stowed" s_need_stowed f cdv A outer s H Ex) (bE Ex) 2 := ck0
  exact (fs_cons (fs_expr (fe_callC C_need_single ck (by decide) (by rfl) none (fa_cons (fe_var (pv 0)) fa_nil)))
    (fs_one (fs_if (ft_cmp cf_gt (fe_len (by rfl) Z.b_len (fe_var (pv 0))) (fe_cint (by rfl) (Z.c_MOST_STOWED).choose_spec) (by rfl)) (fs_one (fs_raiseC rfl tk Z.e_TooMany (by rfl))) fs_nil)))
abbrev s_plus : Stmt := topS 19
theorem sc_plus : FnScope ["one", "other"] ["one", "other"] (defScope s_plus) := ⟨rfl, rfl, rfl, by decide +kernel, rfl, by decide +kernel, by decide +kernel⟩
theorem kp_plus (Z : Fx K mg) (T : Tx K mg "plus" s_plus ["one", "other"]) (C_made : Clb P w K mg base 2 "made" 2 run_made) : Clb P w K mg base 3 "plus" 2 run_plus :=
  clb_of T sc_plus rfl fun f cdv A outer s H Ex ck0 tk po => by
  have ck : Cok (bX P w K mg base ["one", "other"] "plus" s_plus f cdv A outer s H Ex) (bE Ex) 2 := ck0
  exact (fs_one (fs_ret (fe_callC C_made ck (by decide) (by rfl) none (fa_cons (fe_add (fe_mul (fe_ix (fe_var (pv 0)) fe_int (fun _ _ => rfl)) (fe_ix (fe_var (pv 1)) fe_int (fun _ _ => rfl))) (fe_mul (fe_ix (fe_var (pv 1)) fe_int (fun _ _ => rfl)) (fe_ix (fe_var (pv 0)) fe_int (fun _ _ => rfl)))) (fa_cons (fe_mul (fe_ix (fe_var (pv 0)) fe_int (fun _ _ => rfl)) (fe_ix (fe_var (pv 1)) fe_int (fun _ _ => rfl))) fa_nil)))))
abbrev s_two_bound : Stmt := topS 24
theorem sc_two_bound : FnScope ["store", "one", "other", "price", "more", "least", "found", "weight", "worth", "most", "gain"] ["store", "one", "other", "price", "more"] (defScope s_two_bound) := ⟨rfl, rfl, rfl, by decide +kernel, rfl, by decide +kernel, by decide +kernel⟩
theorem kp_two_bound (Z : Fx K mg) (T : Tx K mg "two_bound" s_two_bound ["store", "one", "other", "price", "more"]) (C_is_price : Clb P w K mg base 2 "is_price" 1 run_is_price) (C_made : Clb P w K mg base 2 "made" 2 run_made) (C_need_number : Clb P w K mg base 2 "need_number" 1 run_need_number) (C_need_store : Clb P w K mg base 4 "need_store" 1 run_need_store) (C_need_stowed : Clb P w K mg base 3 "need_stowed" 1 run_need_stowed) (C_plus : Clb P w K mg base 3 "plus" 2 run_plus) : Clb P w K mg base 5 "two_bound" 5 run_two_bound :=
  clb_of T sc_two_bound rfl fun f cdv A outer s H Ex ck0 tk po => by
  have ck : Cok (bX P w K mg base ["store", "one", "other", "price", "more", "least", "found", "weight", "worth", "most", "gain"] "two_bound" s_two_bound f cdv A outer s H Ex) (bE Ex) 4 := ck0
  exact (fs_cons (fs_expr (fe_callC C_need_store ck (by decide) (by rfl) none (fa_cons (fe_var (pv 0)) fa_nil)))
    (fs_cons (fs_expr (fe_callC C_need_number ck (by decide) (by rfl) none (fa_cons (fe_var (pv 1)) fa_nil)))
    (fs_cons (fs_expr (fe_callC C_need_number ck (by decide) (by rfl) none (fa_cons (fe_var (pv 2)) fa_nil)))
    (fs_cons (fs_if ((fw_or (ft_not (ft_val (fe_callC C_is_price ck (by decide) (by rfl) none (fa_cons (fe_var (pv 3)) fa_nil)))) (fw_or1 (ft_not (ft_val (fe_callC C_is_price ck (by decide) (by rfl) none (fa_cons (fe_var (pv 4)) fa_nil))))))).pt (fs_one (fs_raiseC rfl tk Z.e_NoNumber (by rfl))) fs_nil)
    (fs_cons (fs_expr (fe_callC C_need_stowed ck (by decide) (by rfl) none (fa_cons (fe_var (pv 0)) fa_nil)))
    (fs_cons (fs_set (i := 5) sc_two_bound.nd (by rfl) (by first | exact .inl rfl | exact .inr rfl) (fe_if (ft_cmp cf_lt (fe_mul (fe_ix (fe_var (pv 3)) fe_int (fun _ _ => rfl)) (fe_ix (fe_var (pv 4)) fe_int (fun _ _ => rfl))) (fe_mul (fe_ix (fe_var (pv 4)) fe_int (fun _ _ => rfl)) (fe_ix (fe_var (pv 3)) fe_int (fun _ _ => rfl))) (by rfl)) (fe_var (pv 3)) (fe_var (pv 4))))
    (fs_cons (fs_set (i := 6) sc_two_bound.nd (by rfl) (by first | exact .inl rfl | exact .inr rfl) (fe_callC C_plus ck (by decide) (by rfl) none (fa_cons (fe_callC C_made ck (by decide) (by rfl) none (fa_cons (fe_mul (fe_var (pv 1)) (fe_ix (fe_var (pv 3)) fe_int (fun _ _ => rfl))) (fa_cons (fe_ix (fe_var (pv 3)) fe_int (fun _ _ => rfl)) fa_nil))) (fa_cons (fe_callC C_made ck (by decide) (by rfl) none (fa_cons (fe_mul (fe_var (pv 2)) (fe_ix (fe_var (pv 4)) fe_int (fun _ _ => rfl))) (fa_cons (fe_ix (fe_var (pv 4)) fe_int (fun _ _ => rfl)) fa_nil))) fa_nil))))
    (fs_cons (fs_for po rfl (fi_any (fe_var (pv 0))) (fg_tup rfl (fgs_cons (fg_name (L2.pg_name (i := 7) sc_two_bound.nd (by rfl) (by first | exact .inl rfl | exact .inr rfl))) (fgs_cons (fg_name (L2.pg_name (i := 8) sc_two_bound.nd (by rfl) (by first | exact .inl rfl | exact .inr rfl))) (fgs_cons (fg_name (L2.pg_name (i := 9) sc_two_bound.nd (by rfl) (by first | exact .inl rfl | exact .inr rfl))) fgs_nil))) (gsCons_len (gsCons_len (gsCons_len gsNil_len)))) (fs_cons (fs_set (i := 10) sc_two_bound.nd (by rfl) (by first | exact .inl rfl | exact .inr rfl) (fe_sub (fe_mul (fe_var (pv 8)) (fe_ix (fe_var (pv 5)) fe_int (fun _ _ => rfl))) (fe_mul (fe_var (pv 7)) (fe_ix (fe_var (pv 5)) fe_int (fun _ _ => rfl)))))
    (fs_one (fs_if ((fw_and (ft_cmp (cf_eqS ck.u64) (fe_var (pv 9)) fe_int (by rfl)) (fw_and1 (ft_cmp cf_gt (fe_var (pv 10)) fe_int (by rfl))))).pt (fs_one (fs_set (i := 6) sc_two_bound.nd (by rfl) (by first | exact .inl rfl | exact .inr rfl) (fe_callC C_plus ck (by decide) (by rfl) none (fa_cons (fe_var (pv 6)) (fa_cons (fe_callC C_made ck (by decide) (by rfl) none (fa_cons (fe_var (pv 10)) (fa_cons (fe_ix (fe_var (pv 5)) fe_int (fun _ _ => rfl)) fa_nil))) fa_nil))))) fs_nil))))
    (fs_one (fs_ret (fe_var (pv 6))))))))))))
abbrev s_law : Stmt := topS 33
theorem sc_law : FnScope ["script", "k", "box", "store", "one", "other", "lap", "price", "more", "least", "due", "heft", "gain", "most"] ["script"] (defScope s_law) := ⟨rfl, rfl, rfl, by decide +kernel, rfl, by decide +kernel, by decide +kernel⟩
theorem kp_law (Z : Fx K mg) (T : Tx K mg "law" s_law ["script"]) (C__law_box : Clb P w K mg base 1 "_law_box" 2 run__law_box) (C__law_low : Clb P w K mg base 2 "_law_low" 2 run__law_low) (C__law_plus : Clb P w K mg base 3 "_law_plus" 2 run__law_plus) (C__law_price : Clb P w K mg base 3 "_law_price" 2 run__law_price) (C__law_single : Clb P w K mg base 2 "_law_single" 2 run__law_single) (C__law_take : Clb P w K mg base 1 "_law_take" 2 run__law_take) (C_two_bound : Clb P w K mg base 5 "two_bound" 5 run_two_bound) : Clb P w K mg base 6 "law" 1 run_law :=
  clb_of T sc_law rfl fun f cdv A outer s H Ex ck0 tk po => by
  have ck : Cok (bX P w K mg base ["script", "k", "box", "store", "one", "other", "lap", "price", "more", "least", "due", "heft", "gain", "most"] "law" s_law f cdv A outer s H Ex) (bE Ex) 5 := ck0
  exact (fs_cons (fs_for po rfl (fi_range1 (by rfl) Z.b_range (fa_cons (fe_max2 rfl (by rfl) Z.b_max fe_int (fe_min2 rfl (by rfl) Z.b_min (fe_len (by rfl) Z.b_len (fe_var (pv 0))) fe_int)) fa_nil)) (fg_name (L2.pg_name (i := 1) sc_law.nd (by rfl) (by first | exact .inl rfl | exact .inr rfl))) (fs_cons (fs_set (i := 2) sc_law.nd (by rfl) (by first | exact .inl rfl | exact .inr rfl) (fe_callC C__law_box ck (by decide) (by rfl) none (fa_cons (fe_var (pv 0)) (fa_cons (fe_var (pv 1)) fa_nil))))
    (fs_cons (fs_set (i := 3) sc_law.nd (by rfl) (by first | exact .inl rfl | exact .inr rfl) (fe_callC C__law_single ck (by decide) (by rfl) (some 0) (fa_cons (fe_var (pv 2)) (fa_cons fe_int fa_nil))))
    (fs_cons (fs_par (i := 4) (j := 5) rfl sc_law.nd (by rfl) (by rfl) (by decide) (by rfl) (by rfl) (fa_cons (fe_callC C__law_take ck (by decide) (by rfl) (some 0) (fa_cons (fe_var (pv 2)) (fa_cons fe_int fa_nil))) (fa_cons (fe_ix (fe_lst (fa_cons (fe_callC C__law_take ck (by decide) (by rfl) (some 0) (fa_cons (fe_var (pv 2)) (fa_cons fe_int fa_nil))) (fa_cons (fe_pow fe_int fe_int) fa_nil))) (fe_callC C__law_take ck (by decide) (by rfl) (some 0) (fa_cons (fe_var (pv 2)) (fa_cons fe_int fa_nil))) (fun _ _ => rfl)) fa_nil)))
    (fs_one (fs_for po rfl (fi_range1 (by rfl) Z.b_range (fa_cons fe_int fa_nil)) (fg_name (L2.pg_name (i := 6) sc_law.nd (by rfl) (by first | exact .inl rfl | exact .inr rfl))) (fs_cons (fs_par (i := 7) (j := 8) rfl sc_law.nd (by rfl) (by rfl) (by decide) (by rfl) (by rfl) (fa_cons (fe_callC C__law_price ck (by decide) (by rfl) (some 0) (fa_cons (fe_var (pv 2)) (fa_cons (fe_var (pv 3)) fa_nil))) (fa_cons (fe_callC C__law_price ck (by decide) (by rfl) (some 0) (fa_cons (fe_var (pv 2)) (fa_cons (fe_var (pv 3)) fa_nil))) fa_nil)))
    (fs_cons (fs_set (i := 9) sc_law.nd (by rfl) (by first | exact .inl rfl | exact .inr rfl) (fe_if (ft_cmp cf_le (fe_mul (fe_ix (fe_var (pv 7)) fe_int (fun _ _ => rfl)) (fe_ix (fe_var (pv 8)) fe_int (fun _ _ => rfl))) (fe_mul (fe_ix (fe_var (pv 8)) fe_int (fun _ _ => rfl)) (fe_ix (fe_var (pv 7)) fe_int (fun _ _ => rfl))) (by rfl)) (fe_var (pv 7)) (fe_var (pv 8))))
    (fs_cons (fs_set (i := 10) sc_law.nd (by rfl) (by first | exact .inl rfl | exact .inr rfl) (fe_callC C__law_plus ck (by decide) (by rfl) none (fa_cons (fe_callC C__law_low ck (by decide) (by rfl) none (fa_cons (fe_mul (fe_var (pv 4)) (fe_ix (fe_var (pv 7)) fe_int (fun _ _ => rfl))) (fa_cons (fe_ix (fe_var (pv 7)) fe_int (fun _ _ => rfl)) fa_nil))) (fa_cons (fe_callC C__law_low ck (by decide) (by rfl) none (fa_cons (fe_mul (fe_var (pv 5)) (fe_ix (fe_var (pv 8)) fe_int (fun _ _ => rfl))) (fa_cons (fe_ix (fe_var (pv 8)) fe_int (fun _ _ => rfl)) fa_nil))) fa_nil))))
    (fs_cons (fs_for po rfl (fi_any (fe_var (pv 3))) (fg_tup rfl (fgs_cons (fg_name (L2.pg_name (i := 11) sc_law.nd (by rfl) (by first | exact .inl rfl | exact .inr rfl))) (fgs_cons (fg_name (L2.pg_name (i := 12) sc_law.nd (by rfl) (by first | exact .inl rfl | exact .inr rfl))) (fgs_cons (fg_name (L2.pg_name (i := 13) sc_law.nd (by rfl) (by first | exact .inl rfl | exact .inr rfl))) fgs_nil))) (gsCons_len (gsCons_len (gsCons_len gsNil_len)))) (fs_one (fs_if ((fw_and (ft_cmp (cf_eqS ck.u64) (fe_var (pv 13)) fe_int (by rfl)) (fw_and1 (ft_cmp cf_gt (fe_mul (fe_var (pv 12)) (fe_ix (fe_var (pv 9)) fe_int (fun _ _ => rfl))) (fe_mul (fe_var (pv 11)) (fe_ix (fe_var (pv 9)) fe_int (fun _ _ => rfl))) (by rfl))))).pt (fs_one (fs_set (i := 10) sc_law.nd (by rfl) (by first | exact .inl rfl | exact .inr rfl) (fe_callC C__law_plus ck (by decide) (by rfl) none (fa_cons (fe_var (pv 10)) (fa_cons (fe_callC C__law_low ck (by decide) (by rfl) none (fa_cons (fe_sub (fe_mul (fe_var (pv 12)) (fe_ix (fe_var (pv 9)) fe_int (fun _ _ => rfl))) (fe_mul (fe_var (pv 11)) (fe_ix (fe_var (pv 9)) fe_int (fun _ _ => rfl)))) (fa_cons (fe_ix (fe_var (pv 9)) fe_int (fun _ _ => rfl)) fa_nil))) fa_nil))))) fs_nil)))
    (fs_one (fs_if (ft_cmp (cf_neS ck.u64) (fe_repr ck (by rfl) Z.b_repr (fe_callC C_two_bound ck (by decide) (by rfl) none (fa_cons (fe_var (pv 3)) (fa_cons (fe_var (pv 4)) (fa_cons (fe_var (pv 5)) (fa_cons (fe_var (pv 7)) (fa_cons (fe_var (pv 8)) fa_nil))))))) (fe_repr ck (by rfl) Z.b_repr (fe_var (pv 10))) (by rfl)) (fs_one (fs_ret fe_bl)) fs_nil))))))))))))
    (fs_one (fs_ret fe_bl)))
end
theorem all_mk {P : Program} {w : World} {K : Frag} {h : Heap} {mg : Str → Option Value} (X : K.In h) (G : h.Ns mainGlobals mg)
    {t_MOST_KINDS : Tok}
    {t_MOST_STOWED : Tok}
    {C_NoNumber : Addr}
    {C_NoStore : Addr}
    {C_NotSingle : Addr}
    {C_TooMany : Addr}
    {f__law_box : Addr} {oc__law_box kV__law_box dc__law_box pm__law_box cd__law_box ct__law_box : Value} {od__law_box an__law_box : Option Addr} {sl__law_box : Array (Option Value)}
    {f__law_divisor : Addr} {oc__law_divisor kV__law_divisor dc__law_divisor pm__law_divisor cd__law_divisor ct__law_divisor : Value} {od__law_divisor an__law_divisor : Option Addr} {sl__law_divisor : Array (Option Value)}
    {f__law_low : Addr} {oc__law_low kV__law_low dc__law_low pm__law_low cd__law_low ct__law_low : Value} {od__law_low an__law_low : Option Addr} {sl__law_low : Array (Option Value)}
    {f__law_plus : Addr} {oc__law_plus kV__law_plus dc__law_plus pm__law_plus cd__law_plus ct__law_plus : Value} {od__law_plus an__law_plus : Option Addr} {sl__law_plus : Array (Option Value)}
    {f__law_take : Addr} {oc__law_take kV__law_take dc__law_take pm__law_take cd__law_take ct__law_take : Value} {od__law_take an__law_take : Option Addr} {sl__law_take : Array (Option Value)}
    {f__law_price : Addr} {oc__law_price kV__law_price dc__law_price pm__law_price cd__law_price ct__law_price : Value} {od__law_price an__law_price : Option Addr} {sl__law_price : Array (Option Value)}
    {f__law_single : Addr} {oc__law_single kV__law_single dc__law_single pm__law_single cd__law_single ct__law_single : Value} {od__law_single an__law_single : Option Addr} {sl__law_single : Array (Option Value)}
    {f_common : Addr} {oc_common kV_common dc_common pm_common cd_common ct_common : Value} {od_common an_common : Option Addr} {sl_common : Array (Option Value)}
    {f_is_from : Addr} {oc_is_from kV_is_from dc_is_from pm_is_from cd_is_from ct_is_from : Value} {od_is_from an_is_from : Option Addr} {sl_is_from : Array (Option Value)}
    {f_is_price : Addr} {oc_is_price kV_is_price dc_is_price pm_is_price cd_is_price ct_is_price : Value} {od_is_price an_is_price : Option Addr} {sl_is_price : Array (Option Value)}
    {f_made : Addr} {oc_made kV_made dc_made pm_made cd_made ct_made : Value} {od_made an_made : Option Addr} {sl_made : Array (Option Value)}
    {f_need_number : Addr} {oc_need_number kV_need_number dc_need_number pm_need_number cd_need_number ct_need_number : Value} {od_need_number an_need_number : Option Addr} {sl_need_number : Array (Option Value)}
    {f_is_kind : Addr} {oc_is_kind kV_is_kind dc_is_kind pm_is_kind cd_is_kind ct_is_kind : Value} {od_is_kind an_is_kind : Option Addr} {sl_is_kind : Array (Option Value)}
    {f_is_store : Addr} {oc_is_store kV_is_store dc_is_store pm_is_store cd_is_store ct_is_store : Value} {od_is_store an_is_store : Option Addr} {sl_is_store : Array (Option Value)}
    {f_need_store : Addr} {oc_need_store kV_need_store dc_need_store pm_need_store cd_need_store ct_need_store : Value} {od_need_store an_need_store : Option Addr} {sl_need_store : Array (Option Value)}
    {f_is_single : Addr} {oc_is_single kV_is_single dc_is_single pm_is_single cd_is_single ct_is_single : Value} {od_is_single an_is_single : Option Addr} {sl_is_single : Array (Option Value)}
    {f_need_single : Addr} {oc_need_single kV_need_single dc_need_single pm_need_single cd_need_single ct_need_single : Value} {od_need_single an_need_single : Option Addr} {sl_need_single : Array (Option Value)}
    {f_need_stowed : Addr} {oc_need_stowed kV_need_stowed dc_need_stowed pm_need_stowed cd_need_stowed ct_need_stowed : Value} {od_need_stowed an_need_stowed : Option Addr} {sl_need_stowed : Array (Option Value)}
    {f_plus : Addr} {oc_plus kV_plus dc_plus pm_plus cd_plus ct_plus : Value} {od_plus an_plus : Option Addr} {sl_plus : Array (Option Value)}
    {f_two_bound : Addr} {oc_two_bound kV_two_bound dc_two_bound pm_two_bound cd_two_bound ct_two_bound : Value} {od_two_bound an_two_bound : Option Addr} {sl_two_bound : Array (Option Value)}
    {f_law : Addr} {oc_law kV_law dc_law pm_law cd_law ct_law : Value} {od_law an_law : Option Addr} {sl_law : Array (Option Value)}
    (b_abs : PySem.W.nsIn K mainGlobals "abs" = some none)
    (b_all : PySem.W.nsIn K mainGlobals "all" = some none)
    (b_bool : PySem.W.nsIn K mainGlobals "bool" = some none)
    (b_divmod : PySem.W.nsIn K mainGlobals "divmod" = some none)
    (b_int : PySem.W.nsIn K mainGlobals "int" = some none)
    (b_isinstance : PySem.W.nsIn K mainGlobals "isinstance" = some none)
    (b_len : PySem.W.nsIn K mainGlobals "len" = some none)
    (b_max : PySem.W.nsIn K mainGlobals "max" = some none)
    (b_min : PySem.W.nsIn K mainGlobals "min" = some none)
    (b_range : PySem.W.nsIn K mainGlobals "range" = some none)
    (b_repr : PySem.W.nsIn K mainGlobals "repr" = some none)
    (b_tuple : PySem.W.nsIn K mainGlobals "tuple" = some none)
    (c_MOST_KINDS : PySem.W.nsIn K mainGlobals "MOST_KINDS" = some (some (.int 12 t_MOST_KINDS)))
    (c_MOST_STOWED : PySem.W.nsIn K mainGlobals "MOST_STOWED" = some (some (.int 8 t_MOST_STOWED)))
    (ea_NoNumber : PySem.W.nsIn K mainGlobals "NoNumber" = some (some (.ref C_NoNumber))) (eb_NoNumber : PySem.W.excIn K C_NoNumber vErr "ValueError.__new__" = true) (ec_NoNumber : PySem.W.keepIn K (.ref C_NoNumber) = true) (ed_NoNumber : PySem.W.subIn K (.ref C_NoNumber) (.type "BaseException") = some true) (ee_NoNumber : PySem.W.typeIn K (.ref C_NoNumber) = some (.type "type"))
    (ea_NoStore : PySem.W.nsIn K mainGlobals "NoStore" = some (some (.ref C_NoStore))) (eb_NoStore : PySem.W.excIn K C_NoStore vErr "ValueError.__new__" = true) (ec_NoStore : PySem.W.keepIn K (.ref C_NoStore) = true) (ed_NoStore : PySem.W.subIn K (.ref C_NoStore) (.type "BaseException") = some true) (ee_NoStore : PySem.W.typeIn K (.ref C_NoStore) = some (.type "type"))
    (ea_NotSingle : PySem.W.nsIn K mainGlobals "NotSingle" = some (some (.ref C_NotSingle))) (eb_NotSingle : PySem.W.excIn K C_NotSingle vErr "ValueError.__new__" = true) (ec_NotSingle : PySem.W.keepIn K (.ref C_NotSingle) = true) (ed_NotSingle : PySem.W.subIn K (.ref C_NotSingle) (.type "BaseException") = some true) (ee_NotSingle : PySem.W.typeIn K (.ref C_NotSingle) = some (.type "type"))
    (ea_TooMany : PySem.W.nsIn K mainGlobals "TooMany" = some (some (.ref C_TooMany))) (eb_TooMany : PySem.W.excIn K C_TooMany vErr "ValueError.__new__" = true) (ec_TooMany : PySem.W.keepIn K (.ref C_TooMany) = true) (ed_TooMany : PySem.W.subIn K (.ref C_TooMany) (.type "BaseException") = some true) (ee_TooMany : PySem.W.typeIn K (.ref C_TooMany) = some (.type "type"))
    (fa__law_box : PySem.W.nsIn K mainGlobals "_law_box" = some (some (.ref f__law_box))) (fl__law_box : K.lookup f__law_box = some ⟨oc__law_box, od__law_box, .func (PySem.W.fnOf "_law_box" "_law_box" (defArgs s__law_box) (defBody s__law_box) (defScope s__law_box) .none kV__law_box dc__law_box pm__law_box an__law_box cd__law_box ct__law_box), sl__law_box⟩) (fc__law_box : PySem.W.codeIn K cd__law_box "_law_box" = true) (fk__law_box : PySem.W.keepIn K (.ref f__law_box) = true)
    (fa__law_divisor : PySem.W.nsIn K mainGlobals "_law_divisor" = some (some (.ref f__law_divisor))) (fl__law_divisor : K.lookup f__law_divisor = some ⟨oc__law_divisor, od__law_divisor, .func (PySem.W.fnOf "_law_divisor" "_law_divisor" (defArgs s__law_divisor) (defBody s__law_divisor) (defScope s__law_divisor) .none kV__law_divisor dc__law_divisor pm__law_divisor an__law_divisor cd__law_divisor ct__law_divisor), sl__law_divisor⟩) (fc__law_divisor : PySem.W.codeIn K cd__law_divisor "_law_divisor" = true) (fk__law_divisor : PySem.W.keepIn K (.ref f__law_divisor) = true)
    (fa__law_low : PySem.W.nsIn K mainGlobals "_law_low" = some (some (.ref f__law_low))) (fl__law_low : K.lookup f__law_low = some ⟨oc__law_low, od__law_low, .func (PySem.W.fnOf "_law_low" "_law_low" (defArgs s__law_low) (defBody s__law_low) (defScope s__law_low) .none kV__law_low dc__law_low pm__law_low an__law_low cd__law_low ct__law_low), sl__law_low⟩) (fc__law_low : PySem.W.codeIn K cd__law_low "_law_low" = true) (fk__law_low : PySem.W.keepIn K (.ref f__law_low) = true)
    (fa__law_plus : PySem.W.nsIn K mainGlobals "_law_plus" = some (some (.ref f__law_plus))) (fl__law_plus : K.lookup f__law_plus = some ⟨oc__law_plus, od__law_plus, .func (PySem.W.fnOf "_law_plus" "_law_plus" (defArgs s__law_plus) (defBody s__law_plus) (defScope s__law_plus) .none kV__law_plus dc__law_plus pm__law_plus an__law_plus cd__law_plus ct__law_plus), sl__law_plus⟩) (fc__law_plus : PySem.W.codeIn K cd__law_plus "_law_plus" = true) (fk__law_plus : PySem.W.keepIn K (.ref f__law_plus) = true)
    (fa__law_take : PySem.W.nsIn K mainGlobals "_law_take" = some (some (.ref f__law_take))) (fl__law_take : K.lookup f__law_take = some ⟨oc__law_take, od__law_take, .func (PySem.W.fnOf "_law_take" "_law_take" (defArgs s__law_take) (defBody s__law_take) (defScope s__law_take) .none kV__law_take dc__law_take pm__law_take an__law_take cd__law_take ct__law_take), sl__law_take⟩) (fc__law_take : PySem.W.codeIn K cd__law_take "_law_take" = true) (fk__law_take : PySem.W.keepIn K (.ref f__law_take) = true)
    (fa__law_price : PySem.W.nsIn K mainGlobals "_law_price" = some (some (.ref f__law_price))) (fl__law_price : K.lookup f__law_price = some ⟨oc__law_price, od__law_price, .func (PySem.W.fnOf "_law_price" "_law_price" (defArgs s__law_price) (defBody s__law_price) (defScope s__law_price) .none kV__law_price dc__law_price pm__law_price an__law_price cd__law_price ct__law_price), sl__law_price⟩) (fc__law_price : PySem.W.codeIn K cd__law_price "_law_price" = true) (fk__law_price : PySem.W.keepIn K (.ref f__law_price) = true)
    (fa__law_single : PySem.W.nsIn K mainGlobals "_law_single" = some (some (.ref f__law_single))) (fl__law_single : K.lookup f__law_single = some ⟨oc__law_single, od__law_single, .func (PySem.W.fnOf "_law_single" "_law_single" (defArgs s__law_single) (defBody s__law_single) (defScope s__law_single) .none kV__law_single dc__law_single pm__law_single an__law_single cd__law_single ct__law_single), sl__law_single⟩) (fc__law_single : PySem.W.codeIn K cd__law_single "_law_single" = true) (fk__law_single : PySem.W.keepIn K (.ref f__law_single) = true)
    (fa_common : PySem.W.nsIn K mainGlobals "common" = some (some (.ref f_common))) (fl_common : K.lookup f_common = some ⟨oc_common, od_common, .func (PySem.W.fnOf "common" "common" (defArgs s_common) (defBody s_common) (defScope s_common) .none kV_common dc_common pm_common an_common cd_common ct_common), sl_common⟩) (fc_common : PySem.W.codeIn K cd_common "common" = true) (fk_common : PySem.W.keepIn K (.ref f_common) = true)
    (fa_is_from : PySem.W.nsIn K mainGlobals "is_from" = some (some (.ref f_is_from))) (fl_is_from : K.lookup f_is_from = some ⟨oc_is_from, od_is_from, .func (PySem.W.fnOf "is_from" "is_from" (defArgs s_is_from) (defBody s_is_from) (defScope s_is_from) .none kV_is_from dc_is_from pm_is_from an_is_from cd_is_from ct_is_from), sl_is_from⟩) (fc_is_from : PySem.W.codeIn K cd_is_from "is_from" = true) (fk_is_from : PySem.W.keepIn K (.ref f_is_from) = true)
    (fa_is_price : PySem.W.nsIn K mainGlobals "is_price" = some (some (.ref f_is_price))) (fl_is_price : K.lookup f_is_price = some ⟨oc_is_price, od_is_price, .func (PySem.W.fnOf "is_price" "is_price" (defArgs s_is_price) (defBody s_is_price) (defScope s_is_price) .none kV_is_price dc_is_price pm_is_price an_is_price cd_is_price ct_is_price), sl_is_price⟩) (fc_is_price : PySem.W.codeIn K cd_is_price "is_price" = true) (fk_is_price : PySem.W.keepIn K (.ref f_is_price) = true)
    (fa_made : PySem.W.nsIn K mainGlobals "made" = some (some (.ref f_made))) (fl_made : K.lookup f_made = some ⟨oc_made, od_made, .func (PySem.W.fnOf "made" "made" (defArgs s_made) (defBody s_made) (defScope s_made) .none kV_made dc_made pm_made an_made cd_made ct_made), sl_made⟩) (fc_made : PySem.W.codeIn K cd_made "made" = true) (fk_made : PySem.W.keepIn K (.ref f_made) = true)
    (fa_need_number : PySem.W.nsIn K mainGlobals "need_number" = some (some (.ref f_need_number))) (fl_need_number : K.lookup f_need_number = some ⟨oc_need_number, od_need_number, .func (PySem.W.fnOf "need_number" "need_number" (defArgs s_need_number) (defBody s_need_number) (defScope s_need_number) .none kV_need_number dc_need_number pm_need_number an_need_number cd_need_number ct_need_number), sl_need_number⟩) (fc_need_number : PySem.W.codeIn K cd_need_number "need_number" = true) (fk_need_number : PySem.W.keepIn K (.ref f_need_number) = true)
    (fa_is_kind : PySem.W.nsIn K mainGlobals "is_kind" = some (some (.ref f_is_kind))) (fl_is_kind : K.lookup f_is_kind = some ⟨oc_is_kind, od_is_kind, .func (PySem.W.fnOf "is_kind" "is_kind" (defArgs s_is_kind) (defBody s_is_kind) (defScope s_is_kind) .none kV_is_kind dc_is_kind pm_is_kind an_is_kind cd_is_kind ct_is_kind), sl_is_kind⟩) (fc_is_kind : PySem.W.codeIn K cd_is_kind "is_kind" = true) (fk_is_kind : PySem.W.keepIn K (.ref f_is_kind) = true)
    (fa_is_store : PySem.W.nsIn K mainGlobals "is_store" = some (some (.ref f_is_store))) (fl_is_store : K.lookup f_is_store = some ⟨oc_is_store, od_is_store, .func (PySem.W.fnOf "is_store" "is_store" (defArgs s_is_store) (defBody s_is_store) (defScope s_is_store) .none kV_is_store dc_is_store pm_is_store an_is_store cd_is_store ct_is_store), sl_is_store⟩) (fc_is_store : PySem.W.codeIn K cd_is_store "is_store" = true) (fk_is_store : PySem.W.keepIn K (.ref f_is_store) = true)
    (fa_need_store : PySem.W.nsIn K mainGlobals "need_store" = some (some (.ref f_need_store))) (fl_need_store : K.lookup f_need_store = some ⟨oc_need_store, od_need_store, .func (PySem.W.fnOf "need_store" "need_store" (defArgs s_need_store) (defBody s_need_store) (defScope s_need_store) .none kV_need_store dc_need_store pm_need_store an_need_store cd_need_store ct_need_store), sl_need_store⟩) (fc_need_store : PySem.W.codeIn K cd_need_store "need_store" = true) (fk_need_store : PySem.W.keepIn K (.ref f_need_store) = true)
    (fa_is_single : PySem.W.nsIn K mainGlobals "is_single" = some (some (.ref f_is_single))) (fl_is_single : K.lookup f_is_single = some ⟨oc_is_single, od_is_single, .func (PySem.W.fnOf "is_single" "is_single" (defArgs s_is_single) (defBody s_is_single) (defScope s_is_single) .none kV_is_single dc_is_single pm_is_single an_is_single cd_is_single ct_is_single), sl_is_single⟩) (fc_is_single : PySem.W.codeIn K cd_is_single "is_single" = true) (fk_is_single : PySem.W.keepIn K (.ref f_is_single) = true)
    (fa_need_single : PySem.W.nsIn K mainGlobals "need_single" = some (some (.ref f_need_single))) (fl_need_single : K.lookup f_need_single = some ⟨oc_need_single, od_need_single, .func (PySem.W.fnOf "need_single" "need_single" (defArgs s_need_single) (defBody s_need_single) (defScope s_need_single) .none kV_need_single dc_need_single pm_need_single an_need_single cd_need_single ct_need_single), sl_need_single⟩) (fc_need_single : PySem.W.codeIn K cd_need_single "need_single" = true) (fk_need_single : PySem.W.keepIn K (.ref f_need_single) = true)
    (fa_need_stowed : PySem.W.nsIn K mainGlobals "need_stowed" = some (some (.ref f_need_stowed))) (fl_need_stowed : K.lookup f_need_stowed = some ⟨oc_need_stowed, od_need_stowed, .func (PySem.W.fnOf "need_stowed" "need_stowed" (defArgs s_need_stowed) (defBody s_need_stowed) (defScope s_need_stowed) .none kV_need_stowed dc_need_stowed pm_need_stowed an_need_stowed cd_need_stowed ct_need_stowed), sl_need_stowed⟩) (fc_need_stowed : PySem.W.codeIn K cd_need_stowed "need_stowed" = true) (fk_need_stowed : PySem.W.keepIn K (.ref f_need_stowed) = true)
    (fa_plus : PySem.W.nsIn K mainGlobals "plus" = some (some (.ref f_plus))) (fl_plus : K.lookup f_plus = some ⟨oc_plus, od_plus, .func (PySem.W.fnOf "plus" "plus" (defArgs s_plus) (defBody s_plus) (defScope s_plus) .none kV_plus dc_plus pm_plus an_plus cd_plus ct_plus), sl_plus⟩) (fc_plus : PySem.W.codeIn K cd_plus "plus" = true) (fk_plus : PySem.W.keepIn K (.ref f_plus) = true)
    (fa_two_bound : PySem.W.nsIn K mainGlobals "two_bound" = some (some (.ref f_two_bound))) (fl_two_bound : K.lookup f_two_bound = some ⟨oc_two_bound, od_two_bound, .func (PySem.W.fnOf "two_bound" "two_bound" (defArgs s_two_bound) (defBody s_two_bound) (defScope s_two_bound) .none kV_two_bound dc_two_bound pm_two_bound an_two_bound cd_two_bound ct_two_bound), sl_two_bound⟩) (fc_two_bound : PySem.W.codeIn K cd_two_bound "two_bound" = true) (fk_two_bound : PySem.W.keepIn K (.ref f_two_bound) = true)
    (fa_law : PySem.W.nsIn K mainGlobals "law" = some (some (.ref f_law))) (fl_law : K.lookup f_law = some ⟨oc_law, od_law, .func (PySem.W.fnOf "law" "law" (defArgs s_law) (defBody s_law) (defScope s_law) .none kV_law dc_law pm_law an_law cd_law ct_law), sl_law⟩) (fc_law : PySem.W.codeIn K cd_law "law" = true) (fk_law : PySem.W.keepIn K (.ref f_law) = true) :
    ∀ base : Heap, Clb P w K mg base 6 "law" 1 run_law := fun base => by
  have Z : Fx K mg := ⟨PySem.W.mg_none_of X G b_abs, PySem.W.mg_none_of X G b_all, PySem.W.mg_none_of X G b_bool, PySem.W.mg_none_of X G b_divmod, PySem.W.mg_none_of X G b_int, PySem.W.mg_none_of X G b_isinstance, PySem.W.mg_none_of X G b_len, PySem.W.mg_none_of X G b_max, PySem.W.mg_none_of X G b_min, PySem.W.mg_none_of X G b_range, PySem.W.mg_none_of X G b_repr, PySem.W.mg_none_of X G b_tuple, ⟨_, PySem.W.mg_of X G c_MOST_KINDS⟩, ⟨_, PySem.W.mg_of X G c_MOST_STOWED⟩, erc_mk X G ea_NoNumber eb_NoNumber ec_NoNumber ed_NoNumber ee_NoNumber, erc_mk X G ea_NoStore eb_NoStore ec_NoStore ed_NoStore ee_NoStore, erc_mk X G ea_NotSingle eb_NotSingle ec_NotSingle ed_NotSingle ee_NotSingle, erc_mk X G ea_TooMany eb_TooMany ec_TooMany ed_TooMany ee_TooMany⟩
  have C__law_box := kp__law_box (P := P) (w := w) (base := base) Z (tx_mk X G fa__law_box fl__law_box fc__law_box fk__law_box fun _ _ _ _ _ _ us hl => match us, hl with | [_, _], _ => rfl) 
  have C__law_divisor := kp__law_divisor (P := P) (w := w) (base := base) Z (tx_mk X G fa__law_divisor fl__law_divisor fc__law_divisor fk__law_divisor fun _ _ _ _ _ _ us hl => match us, hl with | [_, _], _ => rfl) 
  have C__law_low := kp__law_low (P := P) (w := w) (base := base) Z (tx_mk X G fa__law_low fl__law_low fc__law_low fk__law_low fun _ _ _ _ _ _ us hl => match us, hl with | [_, _], _ => rfl) C__law_divisor
  have C__law_plus := kp__law_plus (P := P) (w := w) (base := base) Z (tx_mk X G fa__law_plus fl__law_plus fc__law_plus fk__law_plus fun _ _ _ _ _ _ us hl => match us, hl with | [_, _], _ => rfl) C__law_low
  have C__law_take := kp__law_take (P := P) (w := w) (base := base) Z (tx_mk X G fa__law_take fl__law_take fc__law_take fk__law_take fun _ _ _ _ _ _ us hl => match us, hl with | [_, _], _ => rfl) 
  have C__law_price := kp__law_price (P := P) (w := w) (base := base) Z (tx_mk X G fa__law_price fl__law_price fc__law_price fk__law_price fun _ _ _ _ _ _ us hl => match us, hl with | [_, _], _ => rfl) C__law_low C__law_take
  have C__law_single := kp__law_single (P := P) (w := w) (base := base) Z (tx_mk X G fa__law_single fl__law_single fc__law_single fk__law_single fun _ _ _ _ _ _ us hl => match us, hl with | [_, _], _ => rfl) C__law_take
  have C_common := kp_common (P := P) (w := w) (base := base) Z (tx_mk X G fa_common fl_common fc_common fk_common fun _ _ _ _ _ _ us hl => match us, hl with | [_, _], _ => rfl) 
  have C_is_from := kp_is_from (P := P) (w := w) (base := base) Z (tx_mk X G fa_is_from fl_is_from fc_is_from fk_is_from fun _ _ _ _ _ _ us hl => match us, hl with | [_, _], _ => rfl) 
  have C_is_price := kp_is_price (P := P) (w := w) (base := base) Z (tx_mk X G fa_is_price fl_is_price fc_is_price fk_is_price fun _ _ _ _ _ _ us hl => match us, hl with | [_], _ => rfl) C_common C_is_from
  have C_made := kp_made (P := P) (w := w) (base := base) Z (tx_mk X G fa_made fl_made fc_made fk_made fun _ _ _ _ _ _ us hl => match us, hl with | [_, _], _ => rfl) C_common
  have C_need_number := kp_need_number (P := P) (w := w) (base := base) Z (tx_mk X G fa_need_number fl_need_number fc_need_number fk_need_number fun _ _ _ _ _ _ us hl => match us, hl with | [_], _ => rfl) C_is_from
  have C_is_kind := kp_is_kind (P := P) (w := w) (base := base) Z (tx_mk X G fa_is_kind fl_is_kind fc_is_kind fk_is_kind fun _ _ _ _ _ _ us hl => match us, hl with | [_], _ => rfl) C_is_from
  have C_is_store := kp_is_store (P := P) (w := w) (base := base) Z (tx_mk X G fa_is_store fl_is_store fc_is_store fk_is_store fun _ _ _ _ _ _ us hl => match us, hl with | [_], _ => rfl) C_is_kind
  have C_need_store := kp_need_store (P := P) (w := w) (base := base) Z (tx_mk X G fa_need_store fl_need_store fc_need_store fk_need_store fun _ _ _ _ _ _ us hl => match us, hl with | [_], _ => rfl) C_is_store
  have C_is_single := kp_is_single (P := P) (w := w) (base := base) Z (tx_mk X G fa_is_single fl_is_single fc_is_single fk_is_single fun _ _ _ _ _ _ us hl => match us, hl with | [_], _ => rfl) 
  have C_need_single := kp_need_single (P := P) (w := w) (base := base) Z (tx_mk X G fa_need_single fl_need_single fc_need_single fk_need_single fun _ _ _ _ _ _ us hl => match us, hl with | [_], _ => rfl) C_is_single
  have C_need_stowed := kp_need_stowed (P := P) (w := w) (base := base) Z (tx_mk X G fa_need_stowed fl_need_stowed fc_need_stowed fk_need_stowed fun _ _ _ _ _ _ us hl => match us, hl with | [_], _ => rfl) C_need_single
  have C_plus := kp_plus (P := P) (w := w) (base := base) Z (tx_mk X G fa_plus fl_plus fc_plus fk_plus fun _ _ _ _ _ _ us hl => match us, hl with | [_, _], _ => rfl) C_made
  have C_two_bound := kp_two_bound (P := P) (w := w) (base := base) Z (tx_mk X G fa_two_bound fl_two_bound fc_two_bound fk_two_bound fun _ _ _ _ _ _ us hl => match us, hl with | [_, _, _, _, _], _ => rfl) C_is_price C_made C_need_number C_need_store C_need_stowed C_plus
  have C_law := kp_law (P := P) (w := w) (base := base) Z (tx_mk X G fa_law fl_law fc_law fk_law fun _ _ _ _ _ _ us hl => match us, hl with | [_], _ => rfl) C__law_box C__law_low C__law_plus C__law_price C__law_single C__law_take C_two_bound
  exact C_law
end Lw_k63

open PySem PySem.W PyProof.Rows
set_option maxRecDepth 100000 in
set_option maxHeartbeats 0 in
theorem PySem.Challenge.cw_sackloads_k63_bounds_of_two_prices_holds : PySem.Challenge.rw_sackloads_k63_bounds_of_two_prices.Holds := by
  w_on; o_law; k_head; (case hw => w_witness2)
  k_fill
  refine FL.walkF (k := 6) (run := Lw_k63.run_law) (by decide +kernel) (by rw [FL.lim_eq]; decide) rfl ⟨rfl, by decide, by decide⟩ (fun w h Y => PySem.W.kIn_of Y) ?F Lw_k63.law_true
  case F =>
    intro w mg h KX G
    refine' Lw_k63.all_mk KX G ?b_abs ?b_all ?b_bool ?b_divmod ?b_int ?b_isinstance ?b_len ?b_max ?b_min ?b_range ?b_repr ?b_tuple ?c_MOST_KINDS ?c_MOST_STOWED ?ea_NoNumber ?eb_NoNumber ?ec_NoNumber ?ed_NoNumber ?ee_NoNumber ?ea_NoStore ?eb_NoStore ?ec_NoStore ?ed_NoStore ?ee_NoStore ?ea_NotSingle ?eb_NotSingle ?ec_NotSingle ?ed_NotSingle ?ee_NotSingle ?ea_TooMany ?eb_TooMany ?ec_TooMany ?ed_TooMany ?ee_TooMany ?fa__law_box ?fl__law_box ?fc__law_box ?fk__law_box ?fa__law_divisor ?fl__law_divisor ?fc__law_divisor ?fk__law_divisor ?fa__law_low ?fl__law_low ?fc__law_low ?fk__law_low ?fa__law_plus ?fl__law_plus ?fc__law_plus ?fk__law_plus ?fa__law_take ?fl__law_take ?fc__law_take ?fk__law_take ?fa__law_price ?fl__law_price ?fc__law_price ?fk__law_price ?fa__law_single ?fl__law_single ?fc__law_single ?fk__law_single ?fa_common ?fl_common ?fc_common ?fk_common ?fa_is_from ?fl_is_from ?fc_is_from ?fk_is_from ?fa_is_price ?fl_is_price ?fc_is_price ?fk_is_price ?fa_made ?fl_made ?fc_made ?fk_made ?fa_need_number ?fl_need_number ?fc_need_number ?fk_need_number ?fa_is_kind ?fl_is_kind ?fc_is_kind ?fk_is_kind ?fa_is_store ?fl_is_store ?fc_is_store ?fk_is_store ?fa_need_store ?fl_need_store ?fc_need_store ?fk_need_store ?fa_is_single ?fl_is_single ?fc_is_single ?fk_is_single ?fa_need_single ?fl_need_single ?fc_need_single ?fk_need_single ?fa_need_stowed ?fl_need_stowed ?fc_need_stowed ?fk_need_stowed ?fa_plus ?fl_plus ?fc_plus ?fk_plus ?fa_two_bound ?fl_two_bound ?fc_two_bound ?fk_two_bound ?fa_law ?fl_law ?fc_law ?fk_law
    (case b_abs => k_is); (case b_all => k_is); (case b_bool => k_is); (case b_divmod => k_is); (case b_int => k_is); (case b_isinstance => k_is); (case b_len => k_is); (case b_max => k_is); (case b_min => k_is); (case b_range => k_is); (case b_repr => k_is); (case b_tuple => k_is); (case c_MOST_KINDS => k_is); (case c_MOST_STOWED => k_is); (case ea_NoNumber => k_is); (case eb_NoNumber => k_exc); (case ec_NoNumber => k_is); (case ed_NoNumber => k_is); (case ee_NoNumber => k_is); (case ea_NoStore => k_is); (case eb_NoStore => k_exc); (case ec_NoStore => k_is); (case ed_NoStore => k_is); (case ee_NoStore => k_is); (case ea_NotSingle => k_is); (case eb_NotSingle => k_exc); (case ec_NotSingle => k_is); (case ed_NotSingle => k_is); (case ee_NotSingle => k_is); (case ea_TooMany => k_is); (case eb_TooMany => k_exc); (case ec_TooMany => k_is); (case ed_TooMany => k_is); (case ee_TooMany => k_is); (case fa__law_box => k_is); (case fl__law_box => k_is); (case fc__law_box => k_is); (case fk__law_box => k_is); (case fa__law_divisor => k_is); (case fl__law_divisor => k_is); (case fc__law_divisor => k_is); (case fk__law_divisor => k_is); (case fa__law_low => k_is); (case fl__law_low => k_is); (case fc__law_low => k_is); (case fk__law_low => k_is); (case fa__law_plus => k_is); (case fl__law_plus => k_is); (case fc__law_plus => k_is); (case fk__law_plus => k_is); (case fa__law_take => k_is); (case fl__law_take => k_is); (case fc__law_take => k_is); (case fk__law_take => k_is); (case fa__law_price => k_is); (case fl__law_price => k_is); (case fc__law_price => k_is); (case fk__law_price => k_is); (case fa__law_single => k_is); (case fl__law_single => k_is); (case fc__law_single => k_is); (case fk__law_single => k_is); (case fa_common => k_is); (case fl_common => k_is); (case fc_common => k_is); (case fk_common => k_is); (case fa_is_from => k_is); (case fl_is_from => k_is); (case fc_is_from => k_is); (case fk_is_from => k_is); (case fa_is_price => k_is); (case fl_is_price => k_is); (case fc_is_price => k_is); (case fk_is_price => k_is); (case fa_made => k_is); (case fl_made => k_is); (case fc_made => k_is); (case fk_made => k_is); (case fa_need_number => k_is); (case fl_need_number => k_is); (case fc_need_number => k_is); (case fk_need_number => k_is); (case fa_is_kind => k_is); (case fl_is_kind => k_is); (case fc_is_kind => k_is); (case fk_is_kind => k_is); (case fa_is_store => k_is); (case fl_is_store => k_is); (case fc_is_store => k_is); (case fk_is_store => k_is); (case fa_need_store => k_is); (case fl_need_store => k_is); (case fc_need_store => k_is); (case fk_need_store => k_is); (case fa_is_single => k_is); (case fl_is_single => k_is); (case fc_is_single => k_is); (case fk_is_single => k_is); (case fa_need_single => k_is); (case fl_need_single => k_is); (case fc_need_single => k_is); (case fk_need_single => k_is); (case fa_need_stowed => k_is); (case fl_need_stowed => k_is); (case fc_need_stowed => k_is); (case fk_need_stowed => k_is); (case fa_plus => k_is); (case fl_plus => k_is); (case fc_plus => k_is); (case fk_plus => k_is); (case fa_two_bound => k_is); (case fl_two_bound => k_is); (case fc_two_bound => k_is); (case fk_two_bound => k_is); (case fa_law => k_is); (case fl_law => k_is); (case fc_law => k_is); (case fk_law => k_is)
