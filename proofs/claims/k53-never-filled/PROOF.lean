import PyProof.Rows.All
import Wide.All
import OpenK.AllK
import Wide.FinOn
import HandS.ForMost
import HandS.ForExc
import HandS.IsInst
import HandS.Wide
import HandS.WideBits
import HandS.TupAny
import HandS.TupMul
import HandS.Deep
import HandS.Zip
import HandS.Conv
import HandS.NoneIn
import HandS.ExcCtx
import HandS.Walk
import HandS.SetFor
import KE.GoesEnum
import HandS.EndBits
import HandS.TryOnly
import KE.KRevSl
import KE.SortData
import HandS.HotCalls
import HandS.ExcIs
import KE.RegKIsAll
import KE.RegKTryMore
import HandS.Dict
import HandS.Style
import PyProof.Rows.RegStrFacts
import PySem.Challenge.RW_sackloads_k53_rooms_never_filled
set_option Elab.async false
set_option linter.all false
set_option maxRecDepth 100000
set_option maxHeartbeats 4000000
set_option autoImplicit false
/-! FA: the functional layer, part A: data, slots, what represents them. -/
namespace FL
open PySem PySem.Spec L2

abbrev D := PyData
abbrev Frag := PySem.W.Frag

/-! ### data in an abstract heap that only grows -/
def keyD : Key → D
  | .inl i => .int i
  | .inr x => .str x
def scD : V → Option D
  | .non => some .none
  | .bl b => some (.bool b)
  | .int i => some (.int i)
  | .str x => some (.str x)
  | _ => none
/-- what a dict of plain things holds -/
def DkD (kvs : List (Key × V)) (ds : List (D × D)) : Prop := kvs.map (fun p => (keyD p.1, scD p.2)) = ds.map fun q => (q.1, some q.2)
mutual
inductive Rp (K : Frag) (F : Hp) : V → D → Prop
  | non : Rp K F .non .none
  | bl (b : Bool) : Rp K F (.bl b) (.bool b)
  | int (i : Int) : Rp K F (.int i) (.int i)
  | str (x : Str) : Rp K F (.str x) (.str x)
  | lst {a : Addr} {vs : List V} {ds : List D} : F a = some (.lst vs) → RpAll K F vs ds → Rp K F (.ref a) (.list ds)
  | tup {a : Addr} {vs : List V} {ds : List D} : SqT K F a vs → RpAll K F vs ds → Rp K F (.ref a) (.tuple ds)
  | dic {a : Addr} {kvs : List (Key × V)} {ds : List (D × D)} : F a = some (.dK kvs) → DkD kvs ds → Rp K F (.ref a) (.dict ds)
inductive RpAll (K : Frag) (F : Hp) : List V → List D → Prop
  | nil : RpAll K F [] []
  | cons {v : V} {vs : List V} {d : D} {ds : List D} : Rp K F v d → RpAll K F vs ds → RpAll K F (v :: vs) (d :: ds)
end

theorem sqT_same {K : Frag} {F F' : Hp} {a : Addr} {xs : List V} (e : Same F F') (h : SqT K F a xs) : SqT K F' a xs := by
  rcases h with (h | ⟨o, h⟩) | h
  · exact .inl (.inl (e _ _ h))
  · exact .inl (.inr ⟨o, e _ _ h⟩)
  · exact .inr h

section
variable {K : Frag} {F F' : Hp}
mutual
theorem Rp.mono (e : Same F F') : ∀ {d : D} {v : V}, Rp K F v d → Rp K F' v d
  | .none, _, h => by cases h; exact .non
  | .bool b, _, h => by cases h; exact .bl b
  | .int i, _, h => by cases h; exact .int i
  | .str x, _, h => by cases h; exact .str x
  | .list ds, _, h => by
    cases h with
    | lst h1 h2 => exact .lst (e _ _ h1) (RpAll.mono e h2)
  | .tuple ds, _, h => by
    cases h with
    | tup h1 h2 => exact .tup (sqT_same e h1) (RpAll.mono e h2)
  | .dict _, _, h => by
    cases h with
    | dic h1 h2 => exact .dic (e _ _ h1) h2
theorem RpAll.mono (e : Same F F') : ∀ {ds : List D} {vs : List V}, RpAll K F vs ds → RpAll K F' vs ds
  | [], _, h => by cases h; exact .nil
  | d :: ds, _, h => by
    cases h with
    | cons h1 h2 => exact .cons (Rp.mono e h1) (RpAll.mono e h2)
end
mutual
/-- data in a heap, with dicts of plain things -/
inductive Dq (K : Frag) (H : Hp) : V → D → Prop
  | non : Dq K H .non .none
  | bl (b : Bool) : Dq K H (.bl b) (.bool b)
  | int (i : Int) : Dq K H (.int i) (.int i)
  | str (x : Str) : Dq K H (.str x) (.str x)
  | lst {a : Addr} {xs : List V} {ds : List D} : SqL K H a xs → DqAll K H xs ds → Dq K H (.ref a) (.list ds)
  | tup {a : Addr} {xs : List V} {ds : List D} : SqT K H a xs → DqAll K H xs ds → Dq K H (.ref a) (.tuple ds)
  | dic {a : Addr} {kvs : List (Key × V)} {ds : List (D × D)} : H a = some (.dK kvs) → DkD kvs ds → Dq K H (.ref a) (.dict ds)
inductive DqAll (K : Frag) (H : Hp) : List V → List D → Prop
  | nil : DqAll K H [] []
  | cons {v : V} {vs : List V} {d : D} {ds : List D} : Dq K H v d → DqAll K H vs ds → DqAll K H (v :: vs) (d :: ds)
end
mutual
theorem Dq.dp : ∀ {d : D} {v : V}, Dq K F v d → PyData.hasDict d = false → Dp K F v d
  | .none, _, h, _ => by cases h; exact .non
  | .bool b, _, h, _ => by cases h; exact .bl b
  | .int i, _, h, _ => by cases h; exact .int i
  | .str x, _, h, _ => by cases h; exact .str x
  | .list ds, _, h, n => by
    cases h with
    | lst h1 h2 => exact .lst h1 (DqAll.dp h2 (by unfold PyData.hasDict at n; exact n))
  | .tuple ds, _, h, n => by
    cases h with
    | tup h1 h2 => exact .tup h1 (DqAll.dp h2 (by unfold PyData.hasDict at n; exact n))
  | .dict _, _, h, n => by unfold PyData.hasDict at n; cases n
theorem DqAll.dp : ∀ {ds : List D} {vs : List V}, DqAll K F vs ds → PyData.hasDictAll ds = false → DpAll K F vs ds
  | [], _, h, _ => by cases h; exact .nil
  | d :: ds, _, h, n => by
    unfold PyData.hasDictAll at n
    rw [Bool.or_eq_false_iff] at n
    cases h with
    | cons h1 h2 => exact .cons (Dq.dp h1 n.1) (DqAll.dp h2 n.2)
end
mutual
theorem noDict_lay : ∀ {d : D}, PyData.canLay0 d = true → PyData.hasDict d = false
  | .none, _ => rfl
  | .bool b, _ => rfl
  | .int i, _ => rfl
  | .str x, _ => rfl
  | .list ds, h => by unfold PyData.canLay0 at h; unfold PyData.hasDict; exact noDictAll_lay h
  | .tuple ds, h => by unfold PyData.canLay0 at h; unfold PyData.hasDict; exact noDictAll_lay h
  | .dict _, h => by unfold PyData.canLay0 at h; cases h
theorem noDictAll_lay : ∀ {ds : List D}, PyData.canLayAll0 ds = true → PyData.hasDictAll ds = false
  | [], _ => rfl
  | d :: ds, h => by
    unfold PyData.canLayAll0 at h
    rw [Bool.and_eq_true] at h
    unfold PyData.hasDictAll
    rw [noDict_lay h.1, noDictAll_lay h.2]; rfl
end
theorem noDict_shaped {d : D} (h : SeqAt.shaped d = true) : PyData.hasDict d = false := noDict_lay (SeqAt.canLay_of_shaped h)
mutual
theorem Rp.dp : ∀ {d : D} {v : V}, Rp K F v d → Dq K F v d
  | .none, _, h => by cases h; exact .non
  | .bool b, _, h => by cases h; exact .bl b
  | .int i, _, h => by cases h; exact .int i
  | .str x, _, h => by cases h; exact .str x
  | .list ds, _, h => by
    cases h with
    | lst h1 h2 => exact .lst (SqL.of h1) (RpAll.dp h2)
  | .tuple ds, _, h => by
    cases h with
    | tup h1 h2 => exact .tup h1 (RpAll.dp h2)
  | .dict _, _, h => by
    cases h with
    | dic h1 h2 => exact .dic h1 h2
theorem RpAll.dp : ∀ {ds : List D} {vs : List V}, RpAll K F vs ds → DqAll K F vs ds
  | [], _, h => by cases h; exact .nil
  | d :: ds, _, h => by
    cases h with
    | cons h1 h2 => exact .cons (Rp.dp h1) (RpAll.dp h2)
end

theorem RpAll.len : ∀ {ds : List D} {vs : List V}, RpAll K F vs ds → vs.length = ds.length
  | [], _, h => by cases h; rfl
  | d :: ds, _, h => by
    cases h with
    | cons h1 h2 => simp only [List.length_cons, RpAll.len h2]
theorem RpAll.app : ∀ {ds : List D} {vs : List V} {es : List D} {us : List V}, RpAll K F vs ds → RpAll K F us es → RpAll K F (vs ++ us) (ds ++ es)
  | [], _, _, _, h, k => by cases h; exact k
  | d :: ds, _, _, _, h, k => by
    cases h with
    | cons h1 h2 => exact .cons h1 (RpAll.app h2 k)
theorem RpAll.one {v : V} {d : D} (h : Rp K F v d) : RpAll K F [v] [d] := .cons h .nil
theorem RpAll.at : ∀ {ds : List D} {vs : List V} {i : Nat} {d : D}, RpAll K F vs ds → ds[i]? = some d → ∃ v, vs[i]? = some v ∧ Rp K F v d
  | [], _, _, _, h, e => by simp at e
  | d :: ds, _, 0, _, h, e => by
    cases h with
    | cons h1 h2 => simp at e; subst e; exact ⟨_, rfl, h1⟩
  | d :: ds, _, i + 1, d', h, e => by
    cases h with
    | cons h1 h2 =>
      obtain ⟨v, e1, r⟩ := RpAll.at (i := i) h2 (by simpa using e)
      exact ⟨v, by simpa using e1, r⟩
theorem RpAll.atV : ∀ {ds : List D} {vs : List V} {i : Nat} {v : V}, RpAll K F vs ds → vs[i]? = some v → ∃ d, ds[i]? = some d ∧ Rp K F v d
  | [], _, _, _, h, e => by cases h; simp at e
  | d :: ds, _, 0, _, h, e => by
    cases h with
    | cons h1 h2 => simp at e; subst e; exact ⟨_, rfl, h1⟩
  | d :: ds, _, i + 1, d', h, e => by
    cases h with
    | cons h1 h2 =>
      obtain ⟨v, e1, r⟩ := RpAll.atV (i := i) h2 (by simpa using e)
      exact ⟨v, by simpa using e1, r⟩
theorem RpAll.set {v : V} {d : D} (h : Rp K F v d) : ∀ {ds : List D} {vs : List V} (i : Nat), RpAll K F vs ds → RpAll K F (vs.set i v) (ds.set i d)
  | [], _, _, h => by cases h; exact .nil
  | d :: ds, _, 0, h => by
    cases h with
    | cons h1 h2 => exact .cons ‹_› h2
  | d :: ds, _, i + 1, h => by
    cases h with
    | cons h1 h2 => exact .cons h1 (RpAll.set ‹_› i h2)
theorem RpAll.take : ∀ {ds : List D} {vs : List V} (n : Nat), RpAll K F vs ds → RpAll K F (vs.take n) (ds.take n)
  | _, _, 0, _ => .nil
  | [], _, n + 1, h => by cases h; exact .nil
  | d :: ds, _, n + 1, h => by
    cases h with
    | cons h1 h2 => exact .cons h1 (RpAll.take n h2)
theorem RpAll.drop : ∀ {ds : List D} {vs : List V} (n : Nat), RpAll K F vs ds → RpAll K F (vs.drop n) (ds.drop n)
  | _, _, 0, h => h
  | [], _, n + 1, h => by cases h; exact .nil
  | d :: ds, _, n + 1, h => by
    cases h with
    | cons h1 h2 => exact RpAll.drop n h2
theorem RpAll.erase : ∀ {ds : List D} {vs : List V} (n : Nat), RpAll K F vs ds → RpAll K F (vs.eraseIdx n) (ds.eraseIdx n)
  | [], _, _, h => by cases h; exact .nil
  | d :: ds, _, 0, h => by
    cases h with
    | cons h1 h2 => exact h2
  | d :: ds, _, n + 1, h => by
    cases h with
    | cons h1 h2 => exact .cons h1 (RpAll.erase n h2)
theorem RpAll.ints : ∀ {ns : List Int} {vs : List V}, RpAll K F vs (ns.map .int) → vs = ns.map V.int
  | [], _, h => by cases h; rfl
  | n :: ns, _, h => by
    cases h with
    | cons h1 h2 =>
      cases h1
      rw [RpAll.ints h2]
      rfl
theorem RpAll.bools : ∀ {ns : List Bool} {vs : List V}, RpAll K F vs (ns.map .bool) → vs = ns.map V.bl
  | [], _, h => by cases h; rfl
  | n :: ns, _, h => by
    cases h with
    | cons h1 h2 =>
      cases h1
      rw [RpAll.bools h2]
      rfl
theorem RpAll.strs : ∀ {ns : List Str} {vs : List V}, RpAll K F vs (ns.map .str) → vs = ns.map V.str
  | [], _, h => by cases h; rfl
  | n :: ns, _, h => by
    cases h with
    | cons h1 h2 =>
      cases h1
      rw [RpAll.strs h2]
      rfl
theorem RpAll.ofInts : ∀ (ns : List Int), RpAll K F (ns.map V.int) (ns.map .int)
  | [] => .nil
  | n :: ns => .cons (.int n) (RpAll.ofInts ns)
end

/-! ### the value a data read, decided -/
def isNone : D → Bool
  | .none => true
  | _ => false
theorem Rp.none_iff {K : Frag} {F : Hp} {v : V} {d : D} (h : Rp K F v d) : decide (v = .non) = isNone d := by
  cases h <;> simp [isNone]

/-! ### growing -/
/-- F grows to F', not within G -/
structure Adv (G F F' : Hp) : Prop where
  same : Same F F'
  out : ∀ a, G a ≠ none → F' a = F a
theorem Adv.refl (G F : Hp) : Adv G F F := ⟨Same.refl F, fun _ _ => rfl⟩
theorem Adv.trans {G F F1 F2 : Hp} (a : Adv G F F1) (b : Adv G F1 F2) : Adv G F F2 := ⟨a.same.trans b.same, fun x h => (b.out x h).trans (a.out x h)⟩
theorem same_upd' {F : Hp} {p : Addr} {o : HO} (h : F p = none) : Same F (upd F p o) := fun b x e => by
  rw [upd_ne (ne_of_none e h)]
  exact e
theorem Adv.new {G F : Hp} {p : Addr} {o : HO} (hF : F p = none) (hG : G p = none) : Adv G F (upd F p o) :=
  ⟨same_upd' hF, fun a h => upd_ne fun z => h (by rw [z]; exact hG)⟩
theorem same_upd2 {F H : Hp} {p : Addr} {o : HO} (e : Same F H) : Same (upd F p o) (upd H p o) := fun b x q => by
  by_cases hb : b = p
  · subst hb; rw [upd_same] at q ⊢; exact q
  · rw [upd_ne hb] at q ⊢; exact e _ _ q
theorem same_upd1 {F H : Hp} {p : Addr} {o : HO} (e : Same F H) (h : F p = none) : Same F (upd H p o) := fun b x q => by
  rw [upd_ne (ne_of_none q h)]; exact e _ _ q

/-! ### slots -/
inductive Sl where
  /-- frozen data -/
  | fz (d : D)
  /-- a list of one's own, that of a caller's name, one that is walked -/
  | ow (xs : List D) | io (xs : List D) | lk (xs : List D)
  /-- the script -/
  | scr (ns : List Int)
  /-- an error that is handled: where it lies, its class -/
  | ex (a : Addr) (c : Str)
abbrev Ga := List (Option Sl)

/-- a list object apart: not frozen, not to be kept -/
def Own (K : Frag) (G F H : Hp) (a : Addr) (xs : List D) : Prop := ∃ vs, H a = some (.lst vs) ∧ RpAll K F vs xs ∧ F a = none ∧ G a = none
/-- a list that no code writes: the script -/
def SqS (K : Frag) (F : Hp) (a : Addr) (xs : List V) : Prop := (∃ o, F a = some (.frz o (.lst xs))) ∨ SqL K (fun _ => none) a xs
theorem SqS.l {K : Frag} {F : Hp} {a : Addr} {xs : List V} (h : SqS K F a xs) : SqL K F a xs := by
  rcases h with ⟨o, h⟩ | h
  · exact .inl (.inr ⟨o, h⟩)
  · exact Same.seq (fun _ _ z => by cases z) h
theorem SqS.mono {K : Frag} {F F' : Hp} {a : Addr} {xs : List V} (e : Same F F') (h : SqS K F a xs) : SqS K F' a xs := by
  rcases h with ⟨o, h⟩ | h
  · exact .inl ⟨o, e _ _ h⟩
  · exact .inr h
def SlR (K : Frag) (G F H : Hp) (v : V) : Sl → Prop
  | .fz d => Rp K F v d
  | .ow xs => ∃ a, v = .ref a ∧ Own K G F H a xs
  | .io xs => ∃ a, v = .ref a ∧ Own K G F H a xs
  | .lk xs => ∃ a vs, v = .ref a ∧ G a = some (.lst vs) ∧ RpAll K F vs xs ∧ F a = none
  | .scr ns => ∃ a, v = .ref a ∧ SqS K F a (ns.map V.int)
  | .ex a _ => v = .ref a
def Sl.owned : Sl → Bool
  | .ow _ => true
  | .io _ => true
  | .lk _ => true
  | _ => false
def Sl.pinned : Sl → Bool
  | .io _ => true
  | .lk _ => true
  | _ => false

theorem sqL_same {K : Frag} {F F' : Hp} {a : Addr} {xs : List V} (e : Same F F') (h : SqL K F a xs) : SqL K F' a xs := e.seq h

structure Rep (K : Frag) (G : Hp) (pn : List (Nat × Addr)) (Γ : Ga) (σ : St) (F H : Hp) : Prop where
  fh : Same F H
  gh : Same G H
  sl : ∀ (i : Nat) (s : Sl), Γ[i]? = some (some s) → ∃ v, σ[i]? = some (some v) ∧ SlR K G F H v s
  ap : ∀ (i j : Nat) (si sj : Sl) (a : Addr), Γ[i]? = some (some si) → Γ[j]? = some (some sj) → si.owned = true → sj.owned = true → σ[i]? = some (some (.ref a)) → σ[j]? = some (some (.ref a)) → i = j
  lkp : ∀ (i : Nat) (zs : List D), Γ[i]? = some (some (.lk zs)) → ∃ a, (i, a) ∈ pn
  pn : ∀ p, p ∈ pn → σ[p.1]? = some (some (.ref p.2)) ∧ ∃ s, Γ[p.1]? = some (some s) ∧ s.pinned = true
  len : Γ.length = σ.length

section
variable {K : Frag} {G : Hp} {pn : List (Nat × Addr)} {Γ : Ga} {σ : St} {F F' H H' : Hp}

theorem Own.frz {a : Addr} {xs : List D} (h : Own K G F H a xs) : ∃ vs, H a = some (.lst vs) ∧ RpAll K F vs xs := let ⟨vs, h1, h2, _⟩ := h; ⟨vs, h1, h2⟩
/-- the heap grows, what is frozen may too -/
theorem SlR.grow {v : V} {s : Sl} (h : SlR K G F H v s) (hF : Adv G F F') (hH : Same H H') (fr : ∀ (a : Addr), v = .ref a → s.owned = true → F' a = F a) : SlR K G F' H' v s := by
  cases s with
  | fz d => exact Rp.mono hF.same h
  | ow xs =>
    obtain ⟨a, rfl, vs, h1, h2, h3, h4⟩ := h
    exact ⟨a, rfl, vs, hH _ _ h1, RpAll.mono hF.same h2, by rw [fr a rfl rfl]; exact h3, h4⟩
  | io xs =>
    obtain ⟨a, rfl, vs, h1, h2, h3, h4⟩ := h
    exact ⟨a, rfl, vs, hH _ _ h1, RpAll.mono hF.same h2, by rw [fr a rfl rfl]; exact h3, h4⟩
  | lk xs =>
    obtain ⟨a, vs, rfl, h1, h2, h3⟩ := h
    exact ⟨a, vs, rfl, h1, RpAll.mono hF.same h2, by rw [fr a rfl rfl]; exact h3⟩
  | scr ns =>
    obtain ⟨a, rfl, h1⟩ := h
    exact ⟨a, rfl, h1.mono hF.same⟩
  | ex a c => exact h
/-- an owned slot's object is known to the heap -/
theorem SlR.there {v : V} {s : Sl} (h : SlR K G F H v s) (gh : Same G H) (o : s.owned = true) : ∃ a vs, v = .ref a ∧ H a = some (.lst vs) ∧ F a = none := by
  cases s with
  | fz d => cases o
  | ow xs =>
    obtain ⟨a, rfl, vs, h1, h2, h3, h4⟩ := h
    exact ⟨a, vs, rfl, h1, h3⟩
  | io xs =>
    obtain ⟨a, rfl, vs, h1, h2, h3, h4⟩ := h
    exact ⟨a, vs, rfl, h1, h3⟩
  | lk xs =>
    obtain ⟨a, vs, rfl, h1, h2, h3⟩ := h
    exact ⟨a, vs, rfl, gh _ _ h1, h3⟩
  | scr ns => cases o
  | ex a c => cases o
/-- a new object is laid, frozen or not -/
theorem Rep.new {p : Addr} {o : HO} (R : Rep K G pn Γ σ F H) (hp : H p = none) : Rep K G pn Γ σ F (upd H p o) where
  fh := same_upd1 R.fh (R.fh.free hp)
  gh := same_upd1 R.gh (R.gh.free hp)
  sl := fun i s e => by
    obtain ⟨v, e1, h⟩ := R.sl i s e
    exact ⟨v, e1, h.grow (Adv.refl G F) (same_upd' hp) fun _ _ _ => rfl⟩
  ap := R.ap
  pn := R.pn
  len := R.len
  lkp := R.lkp
theorem Rep.newF {p : Addr} {o : HO} (R : Rep K G pn Γ σ F H) (hp : H p = none) : Rep K G pn Γ σ (upd F p o) (upd H p o) where
  fh := same_upd2 R.fh
  gh := same_upd1 R.gh (R.gh.free hp)
  sl := fun i s e => by
    obtain ⟨v, e1, h⟩ := R.sl i s e
    refine ⟨v, e1, h.grow (Adv.new (R.fh.free hp) (R.gh.free hp)) (same_upd' hp) fun a ev ow => ?_⟩
    obtain ⟨a', vs', e2, h2, _⟩ := h.there R.gh ow
    rw [ev] at e2; cases e2
    exact upd_ne (ne_of_none h2 hp)
  ap := R.ap
  pn := R.pn
  len := R.len
  lkp := R.lkp
theorem Rep.advNew {p : Addr} {o : HO} (R : Rep K G pn Γ σ F H) (hp : H p = none) : Adv G F (upd F p o) := Adv.new (R.fh.free hp) (R.gh.free hp)
end

/-! ### setting a slot -/
section
variable {K : Frag} {G : Hp} {pn : List (Nat × Addr)} {Γ : Ga} {σ : St} {F F' H H' : Hp}
/-- may the slot be stored to -/
def freeAt (Γ : Ga) (i : Nat) : Bool := match Γ[i]? with
  | some (some s) => !s.pinned
  | some none => true
  | none => false
theorem get_set {α : Type} {l : List α} {i j : Nat} {x y : α} (h : (l.set i x)[j]? = some y) : (j = i ∧ y = x ∧ i < l.length) ∨ (j ≠ i ∧ l[j]? = some y) := by
  rw [List.getElem?_set] at h
  split at h
  · rename_i e
    split at h
    · rename_i hl
      exact .inl ⟨e.symm, (Option.some.inj h).symm, hl⟩
    · cases h
  · rename_i e
    exact .inr ⟨fun z => e z.symm, h⟩
/-- slot i takes the value v, which is apart from what the others own -/
theorem Rep.set {i : Nat} {v : V} {s : Sl} (R : Rep K G pn Γ σ F H) (hi : freeAt Γ i = true) (h : SlR K G F H v s) (np : s.pinned = false)
    (hap : s.owned = true → ∀ j sj, j ≠ i → Γ[j]? = some (some sj) → sj.owned = true → σ[j]? ≠ some (some v)) : Rep K G pn (Γ.set i (some s)) (σ.set i (some v)) F H where
  fh := R.fh
  gh := R.gh
  sl := fun j t e => by
    rcases get_set e with ⟨e1, e2, hl⟩ | ⟨e1, e2⟩
    · subst e1
      obtain rfl : t = s := Option.some.inj e2
      exact ⟨v, by rw [List.getElem?_set_self (by rw [← R.len]; exact hl)], h⟩
    · obtain ⟨u, q1, q2⟩ := R.sl j t e2
      exact ⟨u, by rw [List.getElem?_set_ne (Ne.symm e1)]; exact q1, q2⟩
  ap := fun j k sj sk a e1 e2 o1 o2 q1 q2 => by
    rcases get_set e1 with ⟨z1, z2, hl⟩ | ⟨z1, z2⟩
    · rcases get_set e2 with ⟨y1, y2, _⟩ | ⟨y1, y2⟩
      · rw [z1, y1]
      · exfalso
        obtain rfl : sj = s := Option.some.inj z2
        subst z1
        rw [List.getElem?_set_ne (Ne.symm y1)] at q2
        rw [List.getElem?_set_self (by rw [← R.len]; exact hl)] at q1
        have q1' : v = .ref a := Option.some.inj (Option.some.inj q1)
        exact hap o1 k sk y1 y2 o2 (by rw [q1']; exact q2)
    · rcases get_set e2 with ⟨y1, y2, hl⟩ | ⟨y1, y2⟩
      · exfalso
        obtain rfl : sk = s := Option.some.inj y2
        subst y1
        rw [List.getElem?_set_ne (Ne.symm z1)] at q1
        rw [List.getElem?_set_self (by rw [← R.len]; exact hl)] at q2
        have q2' : v = .ref a := Option.some.inj (Option.some.inj q2)
        exact hap o2 j sj z1 z2 o1 (by rw [q2']; exact q1)
      · rw [List.getElem?_set_ne (Ne.symm z1)] at q1
        rw [List.getElem?_set_ne (Ne.symm y1)] at q2
        exact R.ap j k sj sk a z2 y2 o1 o2 q1 q2
  pn := fun p hp => by
    obtain ⟨q1, s', q2, q3⟩ := R.pn p hp
    have ne : p.1 ≠ i := fun z => by
      subst z
      unfold freeAt at hi
      rw [q2] at hi
      simp [q3] at hi
    exact ⟨by rw [List.getElem?_set_ne (Ne.symm ne)]; exact q1, s', by rw [List.getElem?_set_ne (Ne.symm ne)]; exact q2, q3⟩
  len := by simp [R.len]
  lkp := fun j zs e => by
    rcases get_set e with ⟨e1, e2, hl⟩ | ⟨e1, e2⟩
    · rw [← Option.some.inj e2] at np; cases np
    · exact R.lkp j zs e2
/-- slot i is wiped -/
theorem Rep.unset {i : Nat} (R : Rep K G pn Γ σ F H) (hi : ∀ s, Γ[i]? = some (some s) → s.pinned = false) : Rep K G pn (Γ.set i none) (σ.set i none) F H where
  fh := R.fh
  gh := R.gh
  sl := fun j t e => by
    rcases get_set e with ⟨e1, e2, hl⟩ | ⟨e1, e2⟩
    · cases e2
    · obtain ⟨u, q1, q2⟩ := R.sl j t e2
      exact ⟨u, by rw [List.getElem?_set_ne (Ne.symm e1)]; exact q1, q2⟩
  ap := fun j k sj sk a e1 e2 o1 o2 q1 q2 => by
    rcases get_set e1 with ⟨z1, z2, hl⟩ | ⟨z1, z2⟩
    · cases z2
    · rcases get_set e2 with ⟨y1, y2, hl⟩ | ⟨y1, y2⟩
      · cases y2
      · rw [List.getElem?_set_ne (Ne.symm z1)] at q1
        rw [List.getElem?_set_ne (Ne.symm y1)] at q2
        exact R.ap j k sj sk a z2 y2 o1 o2 q1 q2
  pn := fun p hp => by
    obtain ⟨q1, s', q2, q3⟩ := R.pn p hp
    have ne : p.1 ≠ i := fun z => by
      subst z
      have := hi _ q2
      rw [q3] at this
      cases this
    exact ⟨by rw [List.getElem?_set_ne (Ne.symm ne)]; exact q1, s', by rw [List.getElem?_set_ne (Ne.symm ne)]; exact q2, q3⟩
  len := by simp [R.len]
  lkp := fun j zs e => by
    rcases get_set e with ⟨e1, e2, hl⟩ | ⟨e1, e2⟩
    · cases e2
    · exact R.lkp j zs e2
/-- the slot's content is told otherwise, its value stays -/
theorem Rep.retell {i : Nat} {v : V} {s s' : Sl} (R : Rep K G pn Γ σ F H) (hs : Γ[i]? = some (some s)) (hv : σ[i]? = some (some v)) (h : SlR K G F H v s') (ho : s'.owned = true → s.owned = true) (hpn : s.pinned = true → s'.pinned = true) (hlk : ∀ zs, s' = .lk zs → ∃ a, (i, a) ∈ pn) :
    Rep K G pn (Γ.set i (some s')) σ F H where
  fh := R.fh
  gh := R.gh
  sl := fun j t e => by
    rcases get_set e with ⟨e1, e2, hl⟩ | ⟨e1, e2⟩
    · subst e1
      obtain rfl : t = s' := Option.some.inj e2
      exact ⟨v, hv, h⟩
    · exact R.sl j t e2
  ap := fun j k sj sk a e1 e2 o1 o2 q1 q2 => by
    have f : ∀ (j : Nat) (sj : Sl), (Γ.set i (some s'))[j]? = some (some sj) → sj.owned = true → ∃ t, Γ[j]? = some (some t) ∧ t.owned = true := fun j sj e o => by
      rcases get_set e with ⟨z1, z2, hl⟩ | ⟨z1, z2⟩
      · subst z1
        exact ⟨s, hs, ho (by rw [← Option.some.inj z2]; exact o)⟩
      · exact ⟨sj, z2, o⟩
    obtain ⟨t1, y1, y2⟩ := f j sj e1 o1
    obtain ⟨t2, y3, y4⟩ := f k sk e2 o2
    exact R.ap j k t1 t2 a y1 y3 y2 y4 q1 q2
  pn := fun p hp => by
    obtain ⟨q1, t, q2, q3⟩ := R.pn p hp
    refine ⟨q1, ?_⟩
    by_cases z : p.1 = i
    · have hl : i < Γ.length := by
        rcases Nat.lt_or_ge i Γ.length with h | h
        · exact h
        · rw [List.getElem?_eq_none h] at hs; cases hs
      have q2' : Γ[i]? = some (some t) := by rw [← z]; exact q2
      rw [hs] at q2'
      obtain rfl : s = t := Option.some.inj (Option.some.inj q2')
      exact ⟨s', by rw [z, List.getElem?_set_self hl], hpn q3⟩
    · exact ⟨t, by rw [List.getElem?_set_ne (Ne.symm z)]; exact q2, q3⟩
  len := by simp [R.len]
  lkp := fun j zs e => by
    rcases get_set e with ⟨e1, e2, hl⟩ | ⟨e1, e2⟩
    · subst e1; exact hlk zs (Option.some.inj e2).symm
    · exact R.lkp j zs e2
/-- the object of an owned slot is written: slot i owns a, which holds vs' from now on -/
theorem Rep.write {i : Nat} {a : Addr} {s s' : Sl} {vs' : List V} {xs' : List D} (R : Rep K G pn Γ σ F H) (hs : Γ[i]? = some (some s)) (hv : σ[i]? = some (some (.ref a))) (hF : F a = none) (hG : G a = none)
    (hc : (s.pinned = false ∧ s.owned = true ∧ s' = .ow xs') ∨ ((∃ ys, s = .io ys) ∧ s' = .io xs')) (hr : RpAll K F vs' xs') : Rep K G pn (Γ.set i (some s')) σ F (upd H a (.lst vs')) where
  fh := same_upd1 R.fh hF
  gh := same_upd1 R.gh hG
  sl := fun j t e => by
    rcases get_set e with ⟨e1, e2, hl⟩ | ⟨e1, e2⟩
    · subst e1
      obtain rfl : t = s' := Option.some.inj e2
      refine ⟨_, hv, ?_⟩
      rcases hc with ⟨_, _, rfl⟩ | ⟨_, rfl⟩
      · exact ⟨a, rfl, vs', upd_same, hr, hF, hG⟩
      · exact ⟨a, rfl, vs', upd_same, hr, hF, hG⟩
    · obtain ⟨u, q1, q2⟩ := R.sl j t e2
      refine ⟨u, q1, ?_⟩
      have ow : s.owned = true := by
        rcases hc with ⟨_, z, _⟩ | ⟨⟨_, z⟩, _⟩
        · exact z
        · rw [z]; rfl
      have other : ∀ b, u = .ref b → t.owned = true → b ≠ a := fun b eb ot z => by
        subst eb; subst z
        exact e1 (R.ap j i t s b e2 hs ot ow q1 hv)
      cases t with
      | fz d => exact q2
      | ow xs =>
        obtain ⟨b, rfl, ws, h1, h2, h3, h4⟩ := q2
        exact ⟨b, rfl, ws, by rw [upd_ne (other b rfl rfl)]; exact h1, h2, h3, h4⟩
      | io xs =>
        obtain ⟨b, rfl, ws, h1, h2, h3, h4⟩ := q2
        exact ⟨b, rfl, ws, by rw [upd_ne (other b rfl rfl)]; exact h1, h2, h3, h4⟩
      | lk xs => exact q2
      | scr ns => exact q2
      | ex a c => exact q2
  ap := fun j k sj sk b e1 e2 o1 o2 q1 q2 => by
    have ow : s.owned = true := by
      rcases hc with ⟨_, z, _⟩ | ⟨⟨_, z⟩, _⟩
      · exact z
      · rw [z]; rfl
    have f : ∀ (j : Nat) (sj : Sl), (Γ.set i (some s'))[j]? = some (some sj) → sj.owned = true → ∃ t, Γ[j]? = some (some t) ∧ t.owned = true := fun j sj e o => by
      rcases get_set e with ⟨e1, e2, hl⟩ | ⟨e1, e2⟩
      · subst e1
        exact ⟨s, hs, ow⟩
      · exact ⟨sj, e2, o⟩
    obtain ⟨t1, y1, y2⟩ := f j sj e1 o1
    obtain ⟨t2, y3, y4⟩ := f k sk e2 o2
    exact R.ap j k t1 t2 b y1 y3 y2 y4 q1 q2
  pn := fun p hp => by
    obtain ⟨q1, t, q2, q3⟩ := R.pn p hp
    refine ⟨q1, ?_⟩
    by_cases z : p.1 = i
    · have hl : i < Γ.length := by
        rcases Nat.lt_or_ge i Γ.length with h | h
        · exact h
        · rw [List.getElem?_eq_none h] at hs; cases hs
      have q2' : Γ[i]? = some (some t) := by rw [← z]; exact q2
      rw [hs] at q2'
      obtain rfl : s = t := Option.some.inj (Option.some.inj q2')
      refine ⟨s', by rw [z, List.getElem?_set_self hl], ?_⟩
      rcases hc with ⟨z1, _, _⟩ | ⟨_, rfl⟩
      · rw [q3] at z1; cases z1
      · rfl
    · exact ⟨t, by rw [List.getElem?_set_ne (Ne.symm z)]; exact q2, q3⟩
  len := by simp [R.len]
  lkp := fun j zs e => by
    rcases get_set e with ⟨e1, e2, hl⟩ | ⟨e1, e2⟩
    · rcases hc with ⟨_, _, rfl⟩ | ⟨_, rfl⟩ <;> cases e2
    · exact R.lkp j zs e2
/-- an owned list is frozen -/
theorem Rep.freeze {i : Nat} {xs : List D} (R : Rep K G pn Γ σ F H) (hs : Γ[i]? = some (some (.ow xs))) : ∃ F' v, Adv G F F' ∧ Rep K G pn (Γ.set i (some (.fz (.list xs)))) σ F' H ∧ σ[i]? = some (some v) ∧ Rp K F' v (.list xs) := by
  obtain ⟨v, hv, a, rfl, vs, h1, h2, h3, h4⟩ := R.sl i _ hs
  have A : Adv G F (upd F a (.lst vs)) := Adv.new h3 h4
  have rp : Rp K (upd F a (.lst vs)) (.ref a) (.list xs) := .lst upd_same (RpAll.mono A.same h2)
  refine ⟨upd F a (.lst vs), .ref a, A, ⟨fun b o e => ?_, R.gh, fun j t e => ?_, fun j k sj sk b e1 e2 o1 o2 q1 q2 => ?_, fun j zs e => ?_, fun p hp => ?_, by simp [R.len]⟩, hv, rp⟩
  · by_cases hb : b = a
    · subst hb; rw [upd_same] at e; cases e; exact h1
    · rw [upd_ne hb] at e; exact R.fh _ _ e
  · rcases get_set e with ⟨e1, e2, hl⟩ | ⟨e1, e2⟩
    · subst e1
      obtain rfl : t = _ := Option.some.inj e2
      exact ⟨_, hv, rp⟩
    · obtain ⟨u, q1, q2⟩ := R.sl j t e2
      refine ⟨u, q1, q2.grow A (Same.refl H) fun b eb ot => upd_ne fun z => ?_⟩
      subst eb; subst z
      exact e1 (R.ap j i t _ b e2 hs ot rfl q1 hv)
  · rcases get_set e1 with ⟨z1, z2, hl⟩ | ⟨z1, z2⟩
    · obtain rfl : sj = _ := Option.some.inj z2
      cases o1
    · rcases get_set e2 with ⟨y1, y2, hl⟩ | ⟨y1, y2⟩
      · obtain rfl : sk = _ := Option.some.inj y2
        cases o2
      · exact R.ap j k sj sk b z2 y2 o1 o2 q1 q2
  · rcases get_set e with ⟨e1, e2, hl⟩ | ⟨e1, e2⟩
    · cases e2
    · exact R.lkp j zs e2
  · obtain ⟨q1, t, q2, q3⟩ := R.pn p hp
    have ne : p.1 ≠ i := fun z => by
      rw [z, hs] at q2
      cases q2
      cases q3
    exact ⟨q1, t, by rw [List.getElem?_set_ne (Ne.symm ne)]; exact q2, q3⟩
end
end FL

/-! FB: the judgements of the functional layer; names, constants, operators, tests. -/
namespace FL
open PySem PySem.Spec L2

structure Exc where
  cls : Str
  fld : Option Int
/-- how a piece of code ends: with a value, with an error, or so that nothing is told of it -/
inductive Rs (α : Type) where
  | ok (a : α) | exc (e : Exc) | bad
def Rs.bind {α β : Type} (x : Rs α) (f : α → Rs β) : Rs β := match x with
  | .ok a => f a
  | .exc e => .exc e
  | .bad => .bad
@[simp] theorem Rs.bind_ok {α β : Type} (a : α) (f : α → Rs β) : (Rs.ok a).bind f = f a := rfl
@[simp] theorem Rs.bind_exc {α β : Type} (e : Exc) (f : α → Rs β) : (Rs.exc e : Rs α).bind f = .exc e := rfl
@[simp] theorem Rs.bind_bad {α β : Type} (f : α → Rs β) : (Rs.bad : Rs α).bind f = .bad := rfl
/-- data; a list made just now; a name's own list (read when it is used) -/
inductive RV where
  | d (x : D) | ow (xs : List D) | sl (i : Nat)
abbrev FnE := Ga → Rs (RV × Ga)
abbrev FnT := Ga → Rs (Bool × Ga)
abbrev FnA := Ga → Rs (List RV × Ga)
def RV.fz : RV → RV
  | .ow xs => .d (.list xs)
  | r => r
def RV.still : RV → Bool
  | .ow _ => false
  | _ => true
def Sl.data : Sl → D
  | .fz d => d
  | .ow xs => .list xs
  | .io xs => .list xs
  | .lk xs => .list xs
  | .scr ns => .list (ns.map .int)
  | .ex _ _ => .none
def Sl.rd : Sl → Option D
  | .ex _ _ => none
  | .fz d => some d
  | .ow xs => some (.list xs)
  | .io xs => some (.list xs)
  | .lk xs => some (.list xs)
  | .scr ns => some (.list (ns.map .int))
@[simp] theorem rd_fz (d : D) : Sl.rd (.fz d) = some d := rfl
@[simp] theorem rd_ow (d : List D) : Sl.rd (.ow d) = some (.list d) := rfl
@[simp] theorem rd_io (d : List D) : Sl.rd (.io d) = some (.list d) := rfl
@[simp] theorem rd_lk (d : List D) : Sl.rd (.lk d) = some (.list d) := rfl
@[simp] theorem rd_scr (ns : List Int) : Sl.rd (.scr ns) = some (.list (ns.map .int)) := rfl
@[simp] theorem rd_ex (a : Addr) (c : Str) : Sl.rd (.ex a c) = none := rfl
theorem rd_data {s : Sl} {d : D} (h : s.rd = some d) : s.data = d ∧ ∀ a c, s ≠ .ex a c := by
  cases s with
  | ex a c => cases h
  | _ => cases h; exact ⟨rfl, fun a c e => by cases e⟩
def RV.get (Γ : Ga) : RV → Option D
  | .d x => some x
  | .ow xs => some (.list xs)
  | .sl i => match Γ[i]? with
    | some (some s) => s.rd
    | _ => none

/-- an error as it flies: its class, its fields -/
def ExR (mg : Str → Option Value) (K : Frag) (F H : Hp) (e : Exc) (c : Value) (d : Option Addr) : Prop := ∃ C, mg e.cls = some (.ref C) ∧ c = .ref C ∧
  match e.fld with
  | none => d = none
  | some n => ∃ dx, d = some dx ∧ H dx = some (.xd [("at", .int n)])

def RvR (K : Frag) (G F H : Hp) (Γ : Ga) (σ : St) (v : V) : RV → Prop
  | .d x => Rp K F v x
  | .ow xs => ∃ a, v = .ref a ∧ Own K G F H a xs ∧ ∀ (j : Nat) (sj : Sl), Γ[j]? = some (some sj) → sj.owned = true → σ[j]? ≠ some (some v)
  | .sl i => σ[i]? = some (some v)
inductive RvAll (K : Frag) (F : Hp) (σ : St) : List V → List RV → Prop
  | nil : RvAll K F σ [] []
  | d {v : V} {x : D} {vs : List V} {rs : List RV} : Rp K F v x → RvAll K F σ vs rs → RvAll K F σ (v :: vs) (.d x :: rs)
  | sl {v : V} {i : Nat} {vs : List V} {rs : List RV} : σ[i]? = some (some v) → RvAll K F σ vs rs → RvAll K F σ (v :: vs) (.sl i :: rs)

def PostX (K : Frag) (mg : Str → Option Value) (E : WX) (G : Hp) (σ : St) (F : Hp) (e : Exc) : Prop := ∀ c d F' H', Adv G F F' → Same F' H' → Same G H' → ExR mg K F' H' e c d → E c d σ H'
def PostE (K : Frag) (mg : Str → Option Value) (E : WX) (G : Hp) (pn : List (Nat × Addr)) (σ : St) (F : Hp) (Q : VK) : Rs (RV × Ga) → Prop
  | .ok (rv, Γ') => ∀ v F' H', Adv G F F' → Rep K G pn Γ' σ F' H' → RvR K G F' H' Γ' σ v rv → Q v H'
  | .exc e => PostX K mg E G σ F e
  | .bad => False
def PostT (K : Frag) (mg : Str → Option Value) (E : WX) (G : Hp) (pn : List (Nat × Addr)) (σ : St) (F : Hp) (Q : Bool → Hp → Prop) : Rs (Bool × Ga) → Prop
  | .ok (b, Γ') => ∀ F' H', Adv G F F' → Rep K G pn Γ' σ F' H' → Q b H'
  | .exc e => PostX K mg E G σ F e
  | .bad => False
def PostA (K : Frag) (mg : Str → Option Value) (E : WX) (G : Hp) (pn : List (Nat × Addr)) (σ : St) (F : Hp) (Q : List V → Hp → Prop) : Rs (List RV × Ga) → Prop
  | .ok (rs, Γ') => ∀ vs F' H', Adv G F F' → Rep K G pn Γ' σ F' H' → RvAll K F' σ vs rs → Q vs H'
  | .exc e => PostX K mg E G σ F e
  | .bad => False
def tE (K : Frag) (mg : Str → Option Value) (E : WX) (f : FnE) : TE := fun σ H Q => ∃ G pn F Γ, Rep K G pn Γ σ F H ∧ PostE K mg E G pn σ F Q (f Γ)
def tT (K : Frag) (mg : Str → Option Value) (E : WX) (f : FnT) : TT := fun σ H Q => ∃ G pn F Γ, Rep K G pn Γ σ F H ∧ PostT K mg E G pn σ F Q (f Γ)
def tA (K : Frag) (mg : Str → Option Value) (E : WX) (f : FnA) : TA := fun σ H Q => ∃ G pn F Γ, Rep K G pn Γ σ F H ∧ PostA K mg E G pn σ F Q (f Γ)
abbrev FE (X : Cx) (E : WX) (e : Expr) (f : FnE) : Prop := PE X e (tE X.K X.mg E f)
abbrev FT (X : Cx) (E : WX) (e : Expr) (f : FnT) : Prop := PT X e (tT X.K X.mg E f)
abbrev FA (X : Cx) (E : WX) (es : List Expr) (f : FnA) : Prop := PA X es (tA X.K X.mg E f)

/-! ### weaker readings -/
theorem pe_imp {X : Cx} {e : Expr} {t t' : TE} (h : PE X e t) (k : ∀ σ H Q, t' σ H Q → t σ H Q) : PE X e t' := ⟨fun pins s σ H Q I q => h.run pins s σ H Q I (k _ _ _ q)⟩
theorem pt_imp {X : Cx} {e : Expr} {t t' : TT} (h : PT X e t) (k : ∀ σ H Q, t' σ H Q → t σ H Q) : PT X e t' := ⟨fun pins s σ H Q I q => h.run pins s σ H Q I (k _ _ _ q)⟩
theorem pw_imp {X : Cx} {e : Expr} {t t' : TT} (h : PW X e t) (k : ∀ σ H Q, t' σ H Q → t σ H Q) : PW X e t' := ⟨fun wh pins s σ H Q I q => h.run wh pins s σ H Q I (k _ _ _ q)⟩
theorem pa_imp {X : Cx} {e : List Expr} {t t' : TA} (h : PA X e t) (k : ∀ σ H Q, t' σ H Q → t σ H Q) : PA X e t' := ⟨fun pos pins s σ H Q I q => h.run pos pins s σ H Q I (k _ _ _ q)⟩
theorem ps_imp {X : Cx} {e : Stmt} {t t' : TS} (h : PS X e t) (k : ∀ Dn σ H, t' Dn σ H → t Dn σ H) : PS X e t' := ⟨fun pins s σ H Dn I q => h.run pins s σ H Dn I (k _ _ _ q)⟩
theorem pss_imp {X : Cx} {e : List Stmt} {t t' : TS} (h : PSs X e t) (k : ∀ Dn σ H, t' Dn σ H → t Dn σ H) : PSs X e t' := ⟨fun pins s σ H Dn I q => h.run pins s σ H Dn I (k _ _ _ q)⟩

section
variable {K : Frag} {mg : Str → Option Value} {E : WX} {G : Hp} {pn : List (Nat × Addr)} {Γ : Ga} {σ : St} {F F' H H' : Hp}

theorem PostX.adv {e : Exc} (h : PostX K mg E G σ F e) (A : Adv G F F') : PostX K mg E G σ F' e := fun c d F2 H2 a s g r => h c d F2 H2 (A.trans a) s g r
theorem PostE.adv {Q : VK} {r : Rs (RV × Ga)} (h : PostE K mg E G pn σ F Q r) (A : Adv G F F') : PostE K mg E G pn σ F' Q r := by
  cases r with
  | ok p => obtain ⟨rv, Γ'⟩ := p; exact fun v F2 H2 a R rv => h v F2 H2 (A.trans a) R rv
  | exc e => exact PostX.adv h A
  | bad => exact h
theorem PostT.adv {Q : Bool → Hp → Prop} {r : Rs (Bool × Ga)} (h : PostT K mg E G pn σ F Q r) (A : Adv G F F') : PostT K mg E G pn σ F' Q r := by
  cases r with
  | ok p => obtain ⟨rv, Γ'⟩ := p; exact fun F2 H2 a R => h F2 H2 (A.trans a) R
  | exc e => exact PostX.adv h A
  | bad => exact h
theorem PostA.adv {Q : List V → Hp → Prop} {r : Rs (List RV × Ga)} (h : PostA K mg E G pn σ F Q r) (A : Adv G F F') : PostA K mg E G pn σ F' Q r := by
  cases r with
  | ok p => obtain ⟨rv, Γ'⟩ := p; exact fun v F2 H2 a R rv => h v F2 H2 (A.trans a) R rv
  | exc e => exact PostX.adv h A
  | bad => exact h
theorem PostX.imp {E' : WX} {e : Exc} (h : PostX K mg E G σ F e) (k : ∀ c d σ H, E c d σ H → E' c d σ H) : PostX K mg E' G σ F e := fun c d F' H' a s g r => k _ _ _ _ (h c d F' H' a s g r)

/-! ### a list made just now is frozen where it is an operand -/
def eOp (f : FnE) : FnE := fun Γ => (f Γ).bind fun p => .ok (p.1.fz, p.2)
/-- a list that no slot owns is frozen -/
theorem Rep.freezeAt {a : Addr} {vs : List V} (R : Rep K G pn Γ σ F H) (ha : H a = some (.lst vs)) (hF : F a = none) (hG : G a = none) (hap : ∀ (j : Nat) (sj : Sl), Γ[j]? = some (some sj) → sj.owned = true → σ[j]? ≠ some (some (.ref a))) :
    Rep K G pn Γ σ (upd F a (.lst vs)) H where
  fh := fun b o e => by
    by_cases hb : b = a
    · subst hb; rw [upd_same] at e; cases e; exact ha
    · rw [upd_ne hb] at e; exact R.fh _ _ e
  gh := R.gh
  sl := fun j t e => by
    obtain ⟨u, q1, q2⟩ := R.sl j t e
    refine ⟨u, q1, q2.grow (Adv.new hF hG) (Same.refl H) fun b eb ot => upd_ne fun z => ?_⟩
    subst eb; subst z
    exact hap j t e ot q1
  ap := R.ap
  pn := R.pn
  len := R.len
  lkp := R.lkp
theorem RvR.fz {v : V} {rv : RV} (R : Rep K G pn Γ σ F H) (h : RvR K G F H Γ σ v rv) : ∃ F', Adv G F F' ∧ Rep K G pn Γ σ F' H ∧ RvR K G F' H Γ σ v rv.fz := by
  cases rv with
  | d x => exact ⟨F, Adv.refl G F, R, h⟩
  | sl i => exact ⟨F, Adv.refl G F, R, h⟩
  | ow xs =>
    obtain ⟨a, rfl, ⟨vs, h1, h2, h3, h4⟩, hap⟩ := h
    have A : Adv G F (upd F a (.lst vs)) := Adv.new h3 h4
    exact ⟨upd F a (.lst vs), A, R.freezeAt h1 h3 h4 hap, .lst upd_same (RpAll.mono A.same h2)⟩
theorem tE_op {f : FnE} : ∀ σ H Q, tE K mg E (eOp f) σ H Q → tE K mg E f σ H Q := fun σ H Q ⟨G, pn, F, Γ, R, h⟩ => by
  refine ⟨G, pn, F, Γ, R, ?_⟩
  unfold eOp at h
  cases e : f Γ with
  | bad => rw [e] at h; exact h
  | exc x => rw [e] at h; exact h
  | ok p =>
    obtain ⟨rv, Γ'⟩ := p
    rw [e] at h
    intro v F' H' A R' rr
    obtain ⟨F2, A2, R2, r2⟩ := rr.fz R'
    exact h v F2 H' (A.trans A2) R2 r2
theorem RvR.keep {Γ' : Ga} {v : V} {rv : RV} (h : RvR K G F H Γ σ v rv) (st : rv.still = true) (A : Same F F') : RvR K G F' H' Γ' σ v rv := by
  cases rv with
  | d x => exact Rp.mono A h
  | sl i => exact h
  | ow xs => cases st
theorem RV.fz_still (rv : RV) : rv.fz.still = true := by cases rv <;> rfl
theorem RvAll.keep {vs : List V} {rs : List RV} (h : RvAll K F σ vs rs) (A : Same F F') : RvAll K F' σ vs rs := by
  induction h with
  | nil => exact .nil
  | d h _ ih => exact .d (Rp.mono A h) ih
  | sl h _ ih => exact .sl h ih

/-! ### reading -/
theorem slr_list {v : V} {s : Sl} {xs : List D} (R : Rep K G pn Γ σ F H) (h : SlR K G F H v s) (e : s.data = .list xs)  : ∃ a vs, v = .ref a ∧ SqL K H a vs ∧ RpAll K F vs xs := by
  cases s with
  | fz d =>
    cases e
    cases h with
    | lst h1 h2 => exact ⟨_, _, rfl, SqL.of (R.fh _ _ h1), h2⟩
  | ow ys => cases e; obtain ⟨a, rfl, vs, h1, h2, _⟩ := h; exact ⟨a, vs, rfl, SqL.of h1, h2⟩
  | io ys => cases e; obtain ⟨a, rfl, vs, h1, h2, _⟩ := h; exact ⟨a, vs, rfl, SqL.of h1, h2⟩
  | lk ys => cases e; obtain ⟨a, vs, rfl, h1, h2, _⟩ := h; exact ⟨a, vs, rfl, SqL.of (R.gh _ _ h1), h2⟩
  | scr ns => cases e; obtain ⟨a, rfl, h1⟩ := h; exact ⟨a, _, rfl, sqL_same R.fh h1.l, RpAll.ofInts ns⟩
  | ex a c => cases e
theorem rv_list {v : V} {rv : RV} {xs : List D} (R : Rep K G pn Γ σ F H) (h : RvR K G F H Γ σ v rv) (e : rv.get Γ = some (.list xs)) : ∃ a vs, v = .ref a ∧ SqL K H a vs ∧ RpAll K F vs xs := by
  cases rv with
  | d x =>
    cases e
    cases h with
    | lst h1 h2 => exact ⟨_, _, rfl, SqL.of (R.fh _ _ h1), h2⟩
  | ow ys => cases e; obtain ⟨a, rfl, ⟨vs, h1, h2, _⟩, _⟩ := h; exact ⟨a, vs, rfl, SqL.of h1, h2⟩
  | sl i =>
    unfold RV.get at e
    cases q : Γ[i]? with
    | none => simp [q] at e
    | some o =>
      cases o with
      | none => simp [q] at e
      | some s =>
        simp [q] at e
        obtain ⟨u, e1, e2⟩ := R.sl i s q
        obtain rfl : u = v := Option.some.inj (Option.some.inj (e1.symm.trans h))
        exact slr_list R e2 (rd_data e).1
theorem rv_tup {v : V} {rv : RV} {xs : List D} (R : Rep K G pn Γ σ F H) (h : RvR K G F H Γ σ v rv) (e : rv.get Γ = some (.tuple xs)) : ∃ a vs, v = .ref a ∧ SqT K H a vs ∧ RpAll K F vs xs ∧ SqT K F a vs := by
  cases rv with
  | d x =>
    cases e
    cases h with
    | tup h1 h2 => exact ⟨_, _, rfl, sqT_same R.fh h1, h2, h1⟩
  | ow ys => cases e
  | sl i =>
    unfold RV.get at e
    cases q : Γ[i]? with
    | none => simp [q] at e
    | some o =>
      cases o with
      | none => simp [q] at e
      | some s =>
        simp [q] at e
        obtain ⟨u, e1, e2⟩ := R.sl i s q
        obtain rfl : u = v := Option.some.inj (Option.some.inj (e1.symm.trans h))
        cases s with
        | fz d =>
          simp at e
          subst e
          cases e2 with
          | tup h1 h2 => exact ⟨_, _, rfl, sqT_same R.fh h1, h2, h1⟩
        | _ => simp at e
theorem rv_get {v : V} {rv : RV} {x : D} (R : Rep K G pn Γ σ F H) (h : RvR K G F H Γ σ v rv) (e : rv.get Γ = some x) : Dq K H v x := by
  cases x with
  | list xs => obtain ⟨a, vs, rfl, h1, h2⟩ := rv_list R h e; exact .lst h1 (RpAll.dp (RpAll.mono R.fh h2))
  | tuple xs => obtain ⟨a, vs, rfl, h1, h2, _⟩ := rv_tup R h e; exact .tup h1 (RpAll.dp (RpAll.mono R.fh h2))
  | _ =>
    cases rv with
    | d y => cases e; exact Rp.dp (Rp.mono R.fh h)
    | ow ys => cases e
    | sl i =>
      unfold RV.get at e
      cases q : Γ[i]? with
      | none => simp [q] at e
      | some o =>
        cases o with
        | none => simp [q] at e
        | some s =>
          simp [q] at e
          obtain ⟨u, e1, e2⟩ := R.sl i s q
          obtain rfl : u = v := Option.some.inj (Option.some.inj (e1.symm.trans h))
          cases s with
          | fz d => simp at e; subst e; exact Rp.dp (Rp.mono R.fh e2)
          | _ => simp at e
end

/-! ### names and constants -/
def eC (x : D) : FnE := fun Γ => .ok (.d x, Γ)
def eVar (i : Nat) : FnE := fun Γ => match Γ[i]? with
  | some (some (.fz d)) => .ok (.d d, Γ)
  | some (some _) => .ok (.sl i, Γ)
  | _ => .bad
section
variable {X : Cx} {E : WX}
theorem fe_c {e : Expr} {v : V} {x : D} (h : PE X e (tC v)) (r : ∀ F, Rp X.K F v x) : FE X E e (eC x) := pe_imp h fun σ H Q ⟨G, pn, F, Γ, R, q⟩ => q v F H (Adv.refl G F) R (r F)
theorem fe_int {i : Int} {j : Nat} {pos : Pos} : FE X E (.Constant (.int i) j pos) (eC (.int i)) := fe_c pe_int fun _ => .int i
theorem fe_bl {b : Bool} {j : Nat} {pos : Pos} : FE X E (.Constant (.bool b) j pos) (eC (.bool b)) := fe_c pe_bl fun _ => .bl b
theorem fe_non {j : Nat} {pos : Pos} : FE X E (.Constant .none j pos) (eC .none) := fe_c pe_non fun _ => .non
theorem fe_str {x : Str} {j : Nat} {pos : Pos} : FE X E (.Constant (.str x) j pos) (eC (.str x)) := fe_c pe_str fun _ => .str x
theorem fe_var {e : Expr} {i : Nat} (h : PE X e (tVar i)) : FE X E e (eVar i) := pe_imp h fun σ H Q ⟨G, pn, F, Γ, R, q⟩ => by
  unfold eVar at q
  cases e1 : Γ[i]? with
  | none => simp only [e1] at q; exact q.elim
  | some o =>
    cases o with
    | none => simp only [e1] at q; exact q.elim
    | some s =>
      obtain ⟨v, h1, h2⟩ := R.sl i s e1
      refine ⟨v, h1, ?_⟩
      cases s with
      | fz d => simp only [e1] at q; exact q v F H (Adv.refl G F) R h2
      | ow xs => simp only [e1] at q; exact q v F H (Adv.refl G F) R h1
      | io xs => simp only [e1] at q; exact q v F H (Adv.refl G F) R h1
      | lk xs => simp only [e1] at q; exact q v F H (Adv.refl G F) R h1
      | scr xs => simp only [e1] at q; exact q v F H (Adv.refl G F) R h1
      | ex a c => simp only [e1] at q; exact q v F H (Adv.refl G F) R h1
/-- a module's constant -/
theorem fe_glob {x : Str} {v : V} {u : Value} {d : D} {pos : Pos} (hg : Gl X x) (hm : X.mg x = some u) (r : RelV v u) (rp : ∀ F, Rp X.K F v d) (hd : (x == ("__debug__" : Str)) = false := by decide) : FE X E (.Name x pos) (eC d) := fe_c (pe_glob hg hm r hd) rp
end

/-! ### two operands -/
def eBin (g : RV → RV → Ga → Rs (RV × Ga)) (fa fb : FnE) : FnE := fun Γ => (eOp fa Γ).bind fun p => (eOp fb p.2).bind fun q => g p.1 q.1 q.2
theorem tE_bin {K : Frag} {mg : Str → Option Value} {E : WX} {fa fb : FnE} {g : RV → RV → Ga → Rs (RV × Ga)} {r : R2}
    (key : ∀ (G : Hp) (pn : List (Nat × Addr)) (F : Hp) (Γ : Ga) (σ : St) (H : Hp) (x y : V) (ra rb : RV) (Q : VK), Rep K G pn Γ σ F H → RvR K G F H Γ σ x ra → RvR K G F H Γ σ y rb → PostE K mg E G pn σ F Q (g ra rb Γ) → r x y H Q) :
    ∀ σ H Q, tE K mg E (eBin g fa fb) σ H Q → tOp r (tE K mg E fa) (tE K mg E fb) σ H Q := fun σ H Q ⟨G, pn, F, Γ, R, h⟩ => by
  refine tE_op _ _ _ ⟨G, pn, F, Γ, R, ?_⟩
  unfold eBin at h
  cases e : eOp fa Γ with
  | bad => rw [e] at h; exact h
  | exc x => rw [e] at h; exact h
  | ok p =>
    obtain ⟨ra, Γ1⟩ := p
    rw [e] at h
    have sa : ra.still = true := by
      unfold eOp at e
      cases e2 : fa Γ with
      | bad => rw [e2] at e; cases e
      | exc x => rw [e2] at e; cases e
      | ok p2 => rw [e2] at e; cases e; exact RV.fz_still _
    intro v F1 H1 A1 R1 r1
    refine tE_op _ _ _ ⟨G, pn, F1, Γ1, R1, ?_⟩
    simp only [Rs.bind_ok] at h
    cases e2 : eOp fb Γ1 with
    | bad => rw [e2] at h; exact h
    | exc x => rw [e2] at h; exact PostX.adv h A1
    | ok p2 =>
      obtain ⟨rb, Γ2⟩ := p2
      rw [e2] at h
      intro u F2 H2 A2 R2 r2
      exact key G pn F2 Γ2 σ H2 v u ra rb Q R2 (r1.keep sa A2.same) r2 (PostE.adv h (A1.trans A2))
/-- one operand -/
def eUn (g : RV → Ga → Rs (RV × Ga)) (fa : FnE) : FnE := fun Γ => (eOp fa Γ).bind fun p => g p.1 p.2
theorem tE_un {K : Frag} {mg : Str → Option Value} {E : WX} {fa : FnE} {g : RV → Ga → Rs (RV × Ga)} {r : V → Hp → VK → Prop}
    (key : ∀ (G : Hp) (pn : List (Nat × Addr)) (F : Hp) (Γ : Ga) (σ : St) (H : Hp) (x : V) (ra : RV) (Q : VK), Rep K G pn Γ σ F H → RvR K G F H Γ σ x ra → PostE K mg E G pn σ F Q (g ra Γ) → r x H Q) :
    ∀ σ H Q, tE K mg E (eUn g fa) σ H Q → tUn r (tE K mg E fa) σ H Q := fun σ H Q ⟨G, pn, F, Γ, R, h⟩ => by
  refine tE_op _ _ _ ⟨G, pn, F, Γ, R, ?_⟩
  unfold eUn at h
  cases e : eOp fa Γ with
  | bad => rw [e] at h; exact h
  | exc x => rw [e] at h; exact h
  | ok p =>
    obtain ⟨ra, Γ1⟩ := p
    rw [e] at h
    intro v F1 H1 A1 R1 r1
    exact key G pn F1 Γ1 σ H1 v ra Q R1 r1 (PostE.adv h A1)

/-! ### what an operation on data gives -/
/-- data out of two data -/
def g2 (op : D → D → Option D) : RV → RV → Ga → Rs (RV × Ga) := fun a b Γ => match a.get Γ, b.get Γ with
  | some x, some y => (match op x y with
    | some z => .ok (.d z, Γ)
    | none => .bad)
  | _, _ => .bad
theorem post_g2 {K : Frag} {mg : Str → Option Value} {E : WX} {G : Hp} {pn : List (Nat × Addr)} {σ : St} {F : Hp} {Q : VK} {op : D → D → Option D} {a b : RV} {Γ : Ga} (h : PostE K mg E G pn σ F Q (g2 op a b Γ)) :
    ∃ x y z, a.get Γ = some x ∧ b.get Γ = some y ∧ op x y = some z ∧ PostE K mg E G pn σ F Q (.ok (.d z, Γ)) := by
  unfold g2 at h
  cases e1 : a.get Γ with
  | none => simp only [e1] at h; exact h.elim
  | some x =>
    cases e2 : b.get Γ with
    | none => simp only [e1, e2] at h; exact h.elim
    | some y =>
      simp only [e1, e2] at h
      cases e3 : op x y with
      | none => simp only [e3] at h; exact h.elim
      | some z => simp only [e3] at h; exact ⟨x, y, z, rfl, rfl, e3, h⟩
def g1 (op : D → Option D) : RV → Ga → Rs (RV × Ga) := fun a Γ => match a.get Γ with
  | some x => (match op x with
    | some z => .ok (.d z, Γ)
    | none => .bad)
  | _ => .bad
theorem post_g1 {K : Frag} {mg : Str → Option Value} {E : WX} {G : Hp} {pn : List (Nat × Addr)} {σ : St} {F : Hp} {Q : VK} {op : D → Option D} {a : RV} {Γ : Ga} (h : PostE K mg E G pn σ F Q (g1 op a Γ)) :
    ∃ x z, a.get Γ = some x ∧ op x = some z ∧ PostE K mg E G pn σ F Q (.ok (.d z, Γ)) := by
  unfold g1 at h
  cases e1 : a.get Γ with
  | none => simp only [e1] at h; exact h.elim
  | some x =>
    simp only [e1] at h
    cases e3 : op x with
    | none => simp only [e3] at h; exact h.elim
    | some z => simp only [e3] at h; exact ⟨x, z, rfl, e3, h⟩

theorem dp_int {K : Frag} {H : Hp} {v : V} {i : Int} (h : Dq K H v (.int i)) : v = .int i := by cases h; rfl
theorem dp_str {K : Frag} {H : Hp} {v : V} {i : Str} (h : Dq K H v (.str i)) : v = .str i := by cases h; rfl
theorem dp_bl {K : Frag} {H : Hp} {v : V} {i : Bool} (h : Dq K H v (.bool i)) : v = .bl i := by cases h; rfl
theorem dp_non {K : Frag} {H : Hp} {v : V} (h : Dq K H v .none) : v = .non := by cases h; rfl
end FL

/-! FC: operators, comparisons, tests, displays, subscripts. -/
namespace FL
open PySem PySem.Spec L2

abbrev lim : Nat := 16777216
theorem lim_eq : sizeLine = lim := sizeLine_eq

section
variable {K : Frag} {mg : Str → Option Value} {E : WX} {G : Hp} {pn : List (Nat × Addr)} {Γ : Ga} {σ : St} {F F' H H' : Hp} {Q : VK}
theorem post_d {z : D} {v : V} (R : Rep K G pn Γ σ F H) (h : PostE K mg E G pn σ F Q (.ok (.d z, Γ))) (r : Rp K F v z) : Q v H := h v F H (Adv.refl G F) R r
theorem post_tup {xs : List D} {vs : List V} {p : Addr} (R : Rep K G pn Γ σ F H) (h : PostE K mg E G pn σ F Q (.ok (.d (.tuple xs), Γ))) (r : RpAll K F vs xs) (hp : H p = none) : Q (.ref p) (upd H p (.tup vs)) :=
  h _ _ _ (R.advNew hp) (R.newF hp) (.tup (SqT.of upd_same) (RpAll.mono (R.advNew (o := .tup vs) hp).same r))
theorem post_ow {xs : List D} {vs : List V} {p : Addr} (R : Rep K G pn Γ σ F H) (h : PostE K mg E G pn σ F Q (.ok (.ow xs, Γ))) (r : RpAll K F vs xs) (hp : H p = none) : Q (.ref p) (upd H p (.lst vs)) :=
  h _ F _ (Adv.refl G F) (R.new hp) ⟨p, rfl, ⟨vs, upd_same, r, R.fh.free hp, R.gh.free hp⟩, fun j sj e o q => by
    obtain ⟨v, q1, q2⟩ := R.sl j sj e
    obtain ⟨a, ws, rfl, q3, _⟩ := q2.there R.gh o
    rw [q] at q1
    cases q1
    rw [hp] at q3; cases q3⟩
end

/-! ### lists that may be written, or copied -/
def RV.lst (Γ : Ga) : RV → Option (List D)
  | .d (.list xs) => some xs
  | .d _ => none
  | .ow xs => some xs
  | .sl i => match Γ[i]? with
    | some (some (.ow xs)) => some xs
    | some (some (.io xs)) => some xs
    | some (some (.lk xs)) => some xs
    | some (some (.fz (.list xs))) => some xs
    | _ => none
theorem rv_lst {K : Frag} {G : Hp} {pn : List (Nat × Addr)} {Γ : Ga} {σ : St} {F H : Hp} {v : V} {rv : RV} {xs : List D} (R : Rep K G pn Γ σ F H) (h : RvR K G F H Γ σ v rv) (e : rv.lst Γ = some xs) : ∃ a vs, v = .ref a ∧ H a = some (.lst vs) ∧ RpAll K F vs xs := by
  cases rv with
  | d x =>
    cases x with
    | list ys =>
      cases e
      cases h with
      | lst h1 h2 => exact ⟨_, _, rfl, R.fh _ _ h1, h2⟩
    | _ => cases e
  | ow ys => cases e; obtain ⟨a, rfl, ⟨vs, h1, h2, _⟩, _⟩ := h; exact ⟨a, vs, rfl, h1, h2⟩
  | sl i =>
    unfold RV.lst at e
    cases q : Γ[i]? with
    | none => simp [q] at e
    | some o =>
      cases o with
      | none => simp [q] at e
      | some s =>
        obtain ⟨u, e1, e2⟩ := R.sl i s q
        obtain rfl : u = v := Option.some.inj (Option.some.inj (e1.symm.trans h))
        cases s with
        | fz d =>
          cases d with
          | list ys =>
            simp [q] at e; subst e
            cases e2 with
            | lst h1 h2 => exact ⟨_, _, rfl, R.fh _ _ h1, h2⟩
          | _ => simp [q] at e
        | ow ys => simp [q] at e; subst e; obtain ⟨a, rfl, vs, h1, h2, _⟩ := e2; exact ⟨a, vs, rfl, h1, h2⟩
        | io ys => simp [q] at e; subst e; obtain ⟨a, rfl, vs, h1, h2, _⟩ := e2; exact ⟨a, vs, rfl, h1, h2⟩
        | lk ys => simp [q] at e; subst e; obtain ⟨a, vs, rfl, h1, h2, _⟩ := e2; exact ⟨a, vs, rfl, R.gh _ _ h1, h2⟩
        | scr ys => simp [q] at e
        | ex a c => simp [q] at e

/-! ### + - * // % ** -/
def addD : D → D → Option D
  | .int a, .int b => some (.int (a + b))
  | .str a, .str b => if a.length + b.length ≤ lim then some (.str (a ++ b)) else none
  | .tuple a, .tuple b => if a.length + b.length ≤ lim then some (.tuple (a ++ b)) else none
  | _, _ => none
def gAdd (a b : RV) : Ga → Rs (RV × Ga) := fun Γ => match a.lst Γ, b.lst Γ with
  | some xs, some ys => if xs.length + ys.length ≤ lim then .ok (.ow (xs ++ ys), Γ) else .bad
  | _, _ => g2 addD a b Γ
def subD : D → D → Option D
  | .int a, .int b => some (.int (a - b))
  | _, _ => none
def mulOk (i j : Int) : Bool := decide (i.natAbs.log2 + j.natAbs.log2 < 1000000)
def mulD : D → D → Option D
  | .int a, .int b => if mulOk a b then some (.int (a * b)) else none
  | .tuple a, .int b => if !a.isEmpty && decide (2 ≤ b) && decide (b ≤ 1000) && decide (a.length ≤ 1000) then some (.tuple (List.replicate b.toNat a).flatten) else none
  | _, _ => none
def gMul (a b : RV) : Ga → Rs (RV × Ga) := fun Γ => match a.lst Γ, b.get Γ with
  | some xs, some (.int k) => if -(2 ^ 63) ≤ k ∧ k < 2 ^ 63 ∧ xs.length * k.toNat ≤ lim then .ok (.ow (List.replicate k.toNat xs).flatten, Γ) else .bad
  | _, _ => g2 mulD a b Γ
theorem mulOk_wide {i j : Int} (h : mulOk i j = true) : CMulW i j := by
  unfold mulOk at h
  unfold CMulW
  simpa using h
def fdivOk (j : Int) : Bool := decide (0 < j) && decide (j.natAbs.log2 < 9000)
def fdivD : D → D → Option D
  | .int a, .int b => if fdivOk b then some (.int (a / b)) else none
  | _, _ => none
def modD : D → D → Option D
  | .int a, .int b => if 0 < b then some (.int (a % b)) else none
  | _, _ => none
def powD : D → D → Option D
  | .int a, .int b => if 0 ≤ b ∧ b ≤ 1000000 ∧ a.natAbs < 2 ^ 64 then some (.int (a ^ b.toNat)) else none
  | _, _ => none
def negD : D → Option D
  | .int a => some (.int (-a))
  | _ => none
theorem rep_all {K : Frag} {F : Hp} {vs : List V} {xs : List D} (h : RpAll K F vs xs) : ∀ n : Nat, RpAll K F (List.replicate n vs).flatten (List.replicate n xs).flatten
  | 0 => .nil
  | n + 1 => by
    rw [List.replicate_succ, List.replicate_succ, List.flatten_cons, List.flatten_cons]
    exact RpAll.app h (rep_all h n)
section
variable {X : Cx} {E : WX} {a b : Expr} {fa fb : FnE} {pos : Pos}
theorem fe_add (ha : FE X E a fa) (hb : FE X E b fb) : FE X E (.BinOp a .Add b pos) (eBin gAdd fa fb) :=
  pe_imp (pe_op (op_add.or (op_add_str.or (op_catA.or op_cat))) ha hb) (tE_bin fun G pn F Γ σ H x y ra rb Q R r1 r2 h => by
    unfold gAdd at h
    split at h
    · rename_i xs ys e1 e2
      split at h
      · rename_i hz
        obtain ⟨l, vs, rfl, h1, h2⟩ := rv_lst R r1 e1
        obtain ⟨m, us, rfl, h3, h4⟩ := rv_lst R r2 e2
        exact .inr (.inr (.inr ⟨l, m, vs, us, rfl, rfl, h1, h3, by rw [lim_eq, h2.len, h4.len]; exact hz, fun p hp => post_ow R h (h2.app h4) hp⟩))
      · exact h.elim
    · obtain ⟨d, e, z, q1, q2, q3, h⟩ := post_g2 h
      have k1 := rv_get R r1 q1
      have k2 := rv_get R r2 q2
      unfold addD at q3
      split at q3
      · cases q3
        exact .inl ⟨_, _, dp_int k1, dp_int k2, post_d R h (.int _)⟩
      · split at q3
        · rename_i hz
          cases q3
          exact .inr (.inl ⟨_, _, dp_str k1, dp_str k2, by rw [lim_eq]; exact hz, post_d R h (.str _)⟩)
        · cases q3
      · split at q3
        · rename_i hz
          cases q3
          obtain ⟨l, vs, rfl, h1, h2, f1⟩ := rv_tup R r1 q1
          obtain ⟨m, us, rfl, h3, h4, f2⟩ := rv_tup R r2 q2
          refine .inr (.inr (.inl ⟨l, m, vs, us, rfl, rfl, h1, h3, by rw [lim_eq, h2.len, h4.len]; exact hz, fun z => ?_, fun _ z => ?_, fun _ _ p hp => post_tup R h (h2.app h4) hp⟩))
          · subst z
            cases h2
            exact post_d R h (.tup f2 h4)
          · subst z
            cases h4
            rw [List.append_nil] at h
            exact post_d R h (.tup f1 h2)
        · cases q3
      · cases q3)
theorem fe_sub (ha : FE X E a fa) (hb : FE X E b fb) : FE X E (.BinOp a .Sub b pos) (eBin (g2 subD) fa fb) :=
  pe_imp (pe_op op_sub ha hb) (tE_bin fun G pn F Γ σ H x y ra rb Q R r1 r2 h => by
    obtain ⟨d, e, z, q1, q2, q3, h⟩ := post_g2 h
    unfold subD at q3
    split at q3
    · cases q3
      exact ⟨_, _, dp_int (rv_get R r1 q1), dp_int (rv_get R r2 q2), post_d R h (.int _)⟩
    · cases q3)
theorem fe_mul (ha : FE X E a fa) (hb : FE X E b fb) : FE X E (.BinOp a .Mult b pos) (eBin gMul fa fb) :=
  pe_imp (pe_op (op_mulW.or (op_repT.or op_rep)) ha hb) (tE_bin fun G pn F Γ σ H x y ra rb Q R r1 r2 h => by
    unfold gMul at h
    split at h
    · rename_i xs k e1 e2
      split at h
      · rename_i hz
        obtain ⟨l, vs, rfl, h1, h2⟩ := rv_lst R r1 e1
        exact .inr (.inr ⟨l, k, vs, rfl, dp_int (rv_get R r2 e2), h1, hz.1, hz.2.1, by rw [lim_eq, h2.len]; exact hz.2.2, fun p hp => post_ow R h (rep_all h2 _) hp⟩)
      · exact h.elim
    · obtain ⟨d, e, z, q1, q2, q3, h⟩ := post_g2 h
      unfold mulD at q3
      split at q3
      · split at q3
        · rename_i hz
          cases q3
          exact .inl ⟨_, _, dp_int (rv_get R r1 q1), dp_int (rv_get R r2 q2), mulOk_wide hz, post_d R h (.int _)⟩
        · cases q3
      · split at q3
        · rename_i hz
          cases q3
          obtain ⟨l, vs, rfl, h1, h2, f1⟩ := rv_tup R r1 q1
          simp only [Bool.and_eq_true, decide_eq_true_eq] at hz
          obtain ⟨⟨⟨z1, z2⟩, z3⟩, z4⟩ := hz
          refine .inr (.inl ⟨l, _, vs, rfl, dp_int (rv_get R r2 q2), h1, fun z => ?_, z2, z3, by rw [h2.len]; exact z4, fun p hp => post_tup R h (rep_all h2 _) hp⟩)
          subst z
          cases h2
          simp at z1
        · cases q3
      · cases q3)
theorem fe_fdiv (ha : FE X E a fa) (hb : FE X E b fb) : FE X E (.BinOp a .FloorDiv b pos) (eBin (g2 fdivD) fa fb) :=
  pe_imp (pe_op op_fdivW ha hb) (tE_bin fun G pn F Γ σ H x y ra rb Q R r1 r2 h => by
    obtain ⟨d, e, z, q1, q2, q3, h⟩ := post_g2 h
    unfold fdivD at q3
    split at q3
    · split at q3
      · rename_i hz
        cases q3
        simp only [fdivOk, Bool.and_eq_true, decide_eq_true_eq] at hz
        exact ⟨_, _, dp_int (rv_get R r1 q1), dp_int (rv_get R r2 q2), hz, post_d R h (.int _)⟩
      · cases q3
    · cases q3)
theorem fe_mod (ha : FE X E a fa) (hb : FE X E b fb) : FE X E (.BinOp a .Mod b pos) (eBin (g2 modD) fa fb) :=
  pe_imp (pe_op op_mod ha hb) (tE_bin fun G pn F Γ σ H x y ra rb Q R r1 r2 h => by
    obtain ⟨d, e, z, q1, q2, q3, h⟩ := post_g2 h
    unfold modD at q3
    split at q3
    · split at q3
      · rename_i hz
        cases q3
        exact ⟨_, _, dp_int (rv_get R r1 q1), dp_int (rv_get R r2 q2), hz, post_d R h (.int _)⟩
      · cases q3
    · cases q3)
theorem fe_pow (ha : FE X E a fa) (hb : FE X E b fb) : FE X E (.BinOp a .Pow b pos) (eBin (g2 powD) fa fb) :=
  pe_imp (pe_op op_pow ha hb) (tE_bin fun G pn F Γ σ H x y ra rb Q R r1 r2 h => by
    obtain ⟨d, e, z, q1, q2, q3, h⟩ := post_g2 h
    unfold powD at q3
    split at q3
    · split at q3
      · rename_i hz
        cases q3
        exact ⟨_, _, dp_int (rv_get R r1 q1), dp_int (rv_get R r2 q2), hz, post_d R h (.int _)⟩
      · cases q3
    · cases q3)
theorem fe_neg (ha : FE X E a fa) : FE X E (.UnaryOp .USub a pos) (eUn (g1 negD) fa) :=
  pe_imp (pe_un un_neg ha) (tE_un fun G pn F Γ σ H x ra Q R r1 h => by
    obtain ⟨d, z, q1, q3, h⟩ := post_g1 h
    unfold negD at q3
    split at q3
    · cases q3
      exact ⟨_, dp_int (rv_get R r1 q1), post_d R h (.int _)⟩
    · cases q3)
end

/-! ### comparisons: their rules on values -/
def ltD : D → D → Option Bool
  | .int a, .int b => some (decide (a < b))
  | _, _ => none
def leD : D → D → Option Bool
  | .int a, .int b => some (decide (a ≤ b))
  | _, _ => none
def gtD : D → D → Option Bool
  | .int a, .int b => some (decide (b < a))
  | _, _ => none
def geD : D → D → Option Bool
  | .int a, .int b => some (decide (b ≤ a))
  | _, _ => none
def eqD (x y : D) : Option Bool := if SeqAt.shaped x && SeqAt.shaped y then some (PyData.eqv x y) else none
def neD (x y : D) : Option Bool := (eqD x y).map (!·)
def flatD : D → Bool
  | .none => true
  | .bool _ => true
  | .int _ => true
  | .str _ => true
  | _ => false
def inD (x y : D) : Option Bool := match y with
  | .list ds => if SeqAt.shaped x && SeqAt.shaped (.list ds) then some (ds.any fun z => PyData.eqv z x) else none
  | .tuple ds => if flatD x && ds.all flatD then some (ds.any fun z => PyData.eqv z x) else none
  | .str z => (match x with
    | .str ⟨⟨[c]⟩⟩ => some (decide (c ∈ z.cps.toList))
    | _ => none)
  | _ => none
def notInD (x y : D) : Option Bool := (inD x y).map (!·)
def isND (x y : D) : Option Bool := match y with
  | .none => some (isNone x)
  | _ => none
def isNotND (x y : D) : Option Bool := match y with
  | .none => some (!isNone x)
  | _ => none
def gB (op : D → D → Option Bool) : RV → RV → Ga → Rs (RV × Ga) := g2 fun x y => (op x y).map .bool
theorem post_gB {K : Frag} {mg : Str → Option Value} {E : WX} {G : Hp} {pn : List (Nat × Addr)} {σ : St} {F H : Hp} {Q : VK} {op : D → D → Option Bool} {a b : RV} {Γ : Ga} (R : Rep K G pn Γ σ F H) (h : PostE K mg E G pn σ F Q (gB op a b Γ)) :
    ∃ x y z, a.get Γ = some x ∧ b.get Γ = some y ∧ op x y = some z ∧ Q (.bl z) H := by
  obtain ⟨x, y, z, q1, q2, q3, h⟩ := post_g2 h
  cases e : op x y with
  | none => rw [e] at q3; cases q3
  | some c =>
    rw [e] at q3
    cases q3
    exact ⟨x, y, c, q1, q2, e, post_d R h (.bl c)⟩
/-- a rule for a comparison, told on data -/
def CmpF (X : Cx) (op : CmpOp) (f : D → D → Option Bool) (r : R2) : Prop := OpR X (compareOp op) r ∧ ∀ (K : Frag) (_ : K = X.K) (H : Hp) (x y : V) (d e : D) (z : Bool) (Q : VK), Dq K H x d → Dq K H y e → f d e = some z → Q (.bl z) H → r x y H Q

theorem flat_dp {K : Frag} {H : Hp} {v : V} {d : D} (h : Dq K H v d) (f : flatD d = true) : flatV v = true := by
  cases h <;> first | rfl | cases f
theorem eqV_dp {K : Frag} {H : Hp} {v u : V} {d e : D} (h : Dq K H v d) (k : Dq K H u e) (f : flatD d = true) (f2 : flatD e = true) : eqV v u = PyData.eqv d e := by
  cases h <;> first | (cases f; done) | (cases k <;> first | (cases f2; done) | (unfold PyData.eqv; rfl))
theorem inV_dp {K : Frag} {H : Hp} {u : V} {e : D} (k : Dq K H u e) (f2 : flatD e = true) : ∀ {vs : List V} {ds : List D}, DqAll K H vs ds → ds.all flatD = true → inV u vs = ds.any fun z => PyData.eqv z e
  | _, [], h, _ => by cases h; rfl
  | _, d :: ds, h, f => by
    cases h with
    | cons h1 h2 =>
      rw [List.all_cons, Bool.and_eq_true] at f
      have ih := inV_dp k f2 h2 f.2
      unfold inV at ih ⊢
      rw [List.any_cons, List.any_cons, ih, eqV_dp h1 k f.1 f2]
theorem flats_dp {K : Frag} {H : Hp} : ∀ {vs : List V} {ds : List D}, DqAll K H vs ds → ds.all flatD = true → vs.all flatV = true
  | _, [], h, _ => by cases h; rfl
  | _, d :: ds, h, f => by
    cases h with
    | cons h1 h2 =>
      rw [List.all_cons, Bool.and_eq_true] at f
      rw [List.all_cons, Bool.and_eq_true]
      exact ⟨flat_dp h1 f.1, flats_dp h2 f.2⟩

section
variable {X : Cx}
theorem cf_lt : CmpF X .Lt ltD (rI0 fun i j => .bl (decide (i < j))) := ⟨op_lt, fun K eK H x y d e z Q h1 h2 f q => by
  unfold ltD at f
  split at f
  · cases f; exact ⟨_, _, dp_int h1, dp_int h2, q⟩
  · cases f⟩
theorem cf_le : CmpF X .LtE leD (rI0 fun i j => .bl (decide (i ≤ j))) := ⟨op_le, fun K eK H x y d e z Q h1 h2 f q => by
  unfold leD at f
  split at f
  · cases f; exact ⟨_, _, dp_int h1, dp_int h2, q⟩
  · cases f⟩
theorem cf_gt : CmpF X .Gt gtD (rI0 fun i j => .bl (decide (j < i))) := ⟨op_gt, fun K eK H x y d e z Q h1 h2 f q => by
  unfold gtD at f
  split at f
  · cases f; exact ⟨_, _, dp_int h1, dp_int h2, q⟩
  · cases f⟩
theorem cf_ge : CmpF X .GtE geD (rI0 fun i j => .bl (decide (j ≤ i))) := ⟨op_ge, fun K eK H x y d e z Q h1 h2 f q => by
  unfold geD at f
  split at f
  · cases f; exact ⟨_, _, dp_int h1, dp_int h2, q⟩
  · cases f⟩
theorem cf_eq (hu : X.A.units + 64 < cLine) : CmpF X .Eq eqD (rEqD X.K) := ⟨op_eqD hu, fun K eK H x y d e z Q h1 h2 f q => by
  subst eK
  unfold eqD at f
  split at f
  · rename_i hs
    cases f
    rw [Bool.and_eq_true] at hs
    exact ⟨d, e, h1.dp (noDict_shaped hs.1), h2.dp (noDict_shaped hs.2), hs.1, hs.2, q⟩
  · cases f⟩
theorem cf_ne (hu : X.A.units + 64 < cLine) : CmpF X .NotEq neD (rNeD X.K) := ⟨op_neD hu, fun K eK H x y d e z Q h1 h2 f q => by
  subst eK
  unfold neD eqD at f
  split at f
  · rename_i hs
    cases f
    rw [Bool.and_eq_true] at hs
    exact ⟨d, e, h1.dp (noDict_shaped hs.1), h2.dp (noDict_shaped hs.2), hs.1, hs.2, q⟩
  · cases f⟩
def rInA (K : Frag) : R2 := fun x y H Q => rInD K x y H Q ∨ rIn K false x y H Q ∨ ∃ (c : Nat) (z : Str), x = .str ⟨#[c]⟩ ∧ y = .str z ∧ Q (.bl (decide (c ∈ z.cps.toList))) H
def rNotInA (K : Frag) : R2 := fun x y H Q => rNotInD K x y H Q ∨ rIn K true x y H Q ∨ ∃ (c : Nat) (z : Str), x = .str ⟨#[c]⟩ ∧ y = .str z ∧ Q (.bl (!decide (c ∈ z.cps.toList))) H
theorem cf_in (hu : X.A.units + 65 < cLine) : CmpF X .In inD (rInA X.K) := ⟨(op_inD hu).or (op_in_seq.or op_in_sign), fun K eK H x y d e z Q h1 h2 f q => by
  subst eK
  unfold inD at f
  split at f
  · split at f
    · rename_i hs
      cases f
      rw [Bool.and_eq_true] at hs
      exact .inl ⟨_, _, h1.dp (noDict_shaped hs.1), h2.dp (noDict_shaped hs.2), hs.1, hs.2, q⟩
    · cases f
  · split at f
    · rename_i hs
      cases f
      rw [Bool.and_eq_true] at hs
      cases h2 with
      | tup g1 g2 => exact .inr (.inl ⟨_, _, rfl, .inr g1, flat_dp h1 hs.1, flats_dp g2 hs.2, by rw [if_neg Bool.false_ne_true, inV_dp h1 hs.1 g2 hs.2]; exact q⟩)
    · cases f
  · split at f
    · cases f
      exact .inr (.inr ⟨_, _, dp_str h1, dp_str h2, q⟩)
    · cases f
  · cases f⟩
theorem cf_notIn (hu : X.A.units + 65 < cLine) : CmpF X .NotIn notInD (rNotInA X.K) := ⟨(op_notInD hu).or (op_notIn_seq.or op_notIn_sign), fun K eK H x y d e z Q h1 h2 f q => by
  subst eK
  unfold notInD inD at f
  split at f
  · split at f
    · rename_i hs
      cases f
      rw [Bool.and_eq_true] at hs
      exact .inl ⟨_, _, h1.dp (noDict_shaped hs.1), h2.dp (noDict_shaped hs.2), hs.1, hs.2, q⟩
    · cases f
  · split at f
    · rename_i hs
      cases f
      rw [Bool.and_eq_true] at hs
      cases h2 with
      | tup g1 g2 => exact .inr (.inl ⟨_, _, rfl, .inr g1, flat_dp h1 hs.1, flats_dp g2 hs.2, by rw [if_pos rfl, inV_dp h1 hs.1 g2 hs.2]; exact q⟩)
    · cases f
  · split at f
    · cases f
      exact .inr (.inr ⟨_, _, dp_str h1, dp_str h2, q⟩)
    · cases f
  · cases f⟩
theorem none_dp {K : Frag} {H : Hp} {v : V} {d : D} (h : Dq K H v d) : decide (v = .non) = isNone d := by
  cases h <;> simp [isNone]
theorem cf_is : CmpF X .Is isND (fun x y H Q => y = .non ∧ Q (.bl (decide (x = .non))) H) := ⟨op_isN, fun K eK H x y d e z Q h1 h2 f q => by
  unfold isND at f
  split at f
  · cases f
    exact ⟨dp_non h2, by rw [none_dp h1]; exact q⟩
  · cases f⟩
theorem cf_isNot : CmpF X .IsNot isNotND (fun x y H Q => y = .non ∧ Q (.bl (!decide (x = .non))) H) := ⟨op_notN, fun K eK H x y d e z Q h1 h2 f q => by
  unfold isNotND at f
  split at f
  · cases f
    exact ⟨dp_non h2, by rw [none_dp h1]; exact q⟩
  · cases f⟩

variable {E : WX} {a b : Expr} {fa fb : FnE} {pos : Pos} {op : CmpOp} {f : D → D → Option Bool} {r : R2}
theorem key_cmp (c : CmpF X op f r) : ∀ σ H Q, tE X.K X.mg E (eBin (gB f) fa fb) σ H Q → tOp r (tE X.K X.mg E fa) (tE X.K X.mg E fb) σ H Q :=
  tE_bin fun G pn F Γ σ H x y ra rb Q R r1 r2 h => by
    obtain ⟨d, e, z, q1, q2, q3, h⟩ := post_gB R h
    exact c.2 X.K rfl H x y d e z Q (rv_get R r1 q1) (rv_get R r2 q2) q3 h
theorem fe_cmp (c : CmpF X op f r) (ha : FE X E a fa) (hb : FE X E b fb) (hm : behindInMarks op b = false) : FE X E (.Compare a [op] [b] pos) (eBin (gB f) fa fb) := pe_imp (pe_cmpR c.1 ha hb hm) (key_cmp c)

/-! ### tests -/
/-- a value as a test: it is a truth -/
def tst (f : FnE) : FnT := fun Γ => (f Γ).bind fun p => match p.1 with
  | .d (.bool b) => .ok (b, p.2)
  | _ => .bad
theorem tT_tst {K : Frag} {mg : Str → Option Value} {f : FnE} : ∀ σ H Q, tT K mg E (tst f) σ H Q → tTest (tE K mg E f) σ H Q := fun σ H Q ⟨G, pn, F, Γ, R, h⟩ => by
  refine ⟨G, pn, F, Γ, R, ?_⟩
  unfold tst at h
  cases e : f Γ with
  | bad => rw [e] at h; exact h
  | exc x => rw [e] at h; exact h
  | ok p =>
    obtain ⟨rv, Γ'⟩ := p
    rw [e] at h
    intro v F' H' A R' rr
    cases rv with
    | ow xs => exact h.elim
    | sl i => exact h.elim
    | d x =>
      cases x with
      | bool c => cases rr; exact ⟨c, rfl, h F' H' A R'⟩
      | _ => exact h.elim
theorem tTest_mono {t t' : TE} (h : ∀ σ H Q, t' σ H Q → t σ H Q) : ∀ σ H Q, tTest t' σ H Q → tTest t σ H Q := fun σ H Q q => h _ _ _ q
theorem ft_cmp (c : CmpF X op f r) (ha : FE X E a fa) (hb : FE X E b fb) (hm : behindInMarks op b = false) : FT X E (.Compare a [op] [b] pos) (tst (eBin (gB f) fa fb)) :=
  pt_imp (pt_cmpR c.1 ha hb hm) fun σ H Q h => tTest_mono (key_cmp c) σ H Q (tT_tst σ H Q h)
theorem ft_val {e : Expr} {g : FnE} (h : FE X E e g) (he : ∀ whole, isTrue e X.env whole = (do let v ← whole; standAt e.pos; holding [v] (truthy v)) := by intro _; rfl) : FT X E e (tst g) :=
  pt_imp (pt_val h he) fun σ H Q q => tT_tst σ H Q q
def fNot (f : FnT) : FnT := fun Γ => (f Γ).bind fun p => .ok (!p.1, p.2)
def fAnd (f g : FnT) : FnT := fun Γ => (f Γ).bind fun p => if p.1 then g p.2 else .ok (false, p.2)
def fOr (f g : FnT) : FnT := fun Γ => (f Γ).bind fun p => if p.1 then .ok (true, p.2) else g p.2
variable {ft gt : FnT} {rest : List Expr}
theorem ft_not (ha : FT X E a ft) : FT X E (.UnaryOp .Not a pos) (fNot ft) := pt_imp (pt_not ha) fun σ H Q ⟨G, pn, F, Γ, R, h⟩ => by
  refine ⟨G, pn, F, Γ, R, ?_⟩
  unfold fNot at h
  cases e : ft Γ with
  | bad => rw [e] at h; exact h
  | exc x => rw [e] at h; exact h
  | ok p => rw [e] at h; exact h
theorem tT_bind {K : Frag} {mg : Str → Option Value} {f g h : FnT} {G : Hp} {pn : List (Nat × Addr)} {F : Hp} {Γ : Ga} {σ : St} {H : Hp} {Q Q' : Bool → Hp → Prop} {k : Bool → FnT} (R : Rep K G pn Γ σ F H)
    (q : PostT K mg E G pn σ F Q ((f Γ).bind fun p => k p.1 p.2)) (step : ∀ c Γ' F' H', Rep K G pn Γ' σ F' H' → PostT K mg E G pn σ F' Q (k c Γ') → Q' c H') : PostT K mg E G pn σ F Q' (f Γ) := by
  cases e : f Γ with
  | bad => rw [e] at q; exact q
  | exc x => rw [e] at q; exact q
  | ok p =>
    obtain ⟨c, Γ'⟩ := p
    rw [e] at q
    exact fun F' H' A R' => step c Γ' F' H' R' (PostT.adv q A)
theorem fw_and1 (ha : FT X E a ft) : PW X (.BoolOp .And [a] pos) (tT X.K X.mg E ft) := pw_and1 ha
theorem fw_or1 (ha : FT X E a ft) : PW X (.BoolOp .Or [a] pos) (tT X.K X.mg E ft) := pw_or1 ha
theorem fw_and (ha : FT X E a ft) (hb : PW X (.BoolOp .And (b :: rest) pos) (tT X.K X.mg E gt)) : PW X (.BoolOp .And (a :: b :: rest) pos) (tT X.K X.mg E (fAnd ft gt)) :=
  pw_imp (pw_and ha hb) fun σ H Q ⟨G, pn, F, Γ, R, h⟩ => ⟨G, pn, F, Γ, R, tT_bind (f := ft) (g := ft) (h := ft) (k := fun c Γ => if c then gt Γ else .ok (false, Γ)) R h fun c Γ' F' H' R' q => by
    cases c with
    | true => exact ⟨G, pn, F', Γ', R', q⟩
    | false => exact q F' H' (Adv.refl G F') R'⟩
theorem fw_or (ha : FT X E a ft) (hb : PW X (.BoolOp .Or (b :: rest) pos) (tT X.K X.mg E gt)) : PW X (.BoolOp .Or (a :: b :: rest) pos) (tT X.K X.mg E (fOr ft gt)) :=
  pw_imp (pw_or ha hb) fun σ H Q ⟨G, pn, F, Γ, R, h⟩ => ⟨G, pn, F, Γ, R, tT_bind (f := ft) (g := ft) (h := ft) (k := fun c Γ => if c then .ok (true, Γ) else gt Γ) R h fun c Γ' F' H' R' q => by
    cases c with
    | true => exact q F' H' (Adv.refl G F') R'
    | false => exact ⟨G, pn, F', Γ', R', q⟩⟩

/-! ### and, or, not as values (truths) -/
def eAnd (f g : FnE) : FnE := fun Γ => (tst f Γ).bind fun p => if p.1 then g p.2 else .ok (.d (.bool false), p.2)
def eOr (f g : FnE) : FnE := fun Γ => (tst f Γ).bind fun p => if p.1 then .ok (.d (.bool true), p.2) else g p.2
def eNot (f : FnE) : FnE := fun Γ => (tst f Γ).bind fun p => .ok (.d (.bool (!p.1)), p.2)
theorem tE_tst {K : Frag} {mg : Str → Option Value} {f : FnE} {G : Hp} {pn : List (Nat × Addr)} {F : Hp} {Γ : Ga} {σ : St} {H : Hp} {Q Q' : VK} {k : Bool → FnE} (R : Rep K G pn Γ σ F H)
    (q : PostE K mg E G pn σ F Q ((tst f Γ).bind fun p => k p.1 p.2)) (step : ∀ c Γ' F' H', Rep K G pn Γ' σ F' H' → PostE K mg E G pn σ F' Q (k c Γ') → Q' (.bl c) H') : PostE K mg E G pn σ F Q' (f Γ) := by
  unfold tst at q
  cases e : f Γ with
  | bad => rw [e] at q; exact q
  | exc x => rw [e] at q; exact q
  | ok p =>
    obtain ⟨rv, Γ'⟩ := p
    rw [e] at q
    intro v F' H' A R' rr
    cases rv with
    | ow xs => exact q.elim
    | sl i => exact q.elim
    | d x =>
      cases x with
      | bool c => cases rr; exact step c Γ' F' H' R' (PostE.adv q A)
      | _ => exact q.elim
theorem fe_one {opb : BoolOp} (ha : FE X E a fa) : FE X E (.BoolOp opb [a] pos) fa := pe_one ha
theorem fe_and (ha : FE X E a fa) (hb : FE X E (.BoolOp .And (b :: rest) pos) fb) : FE X E (.BoolOp .And (a :: b :: rest) pos) (eAnd fa fb) :=
  pe_imp (pe_and ha hb) fun σ H Q ⟨G, pn, F, Γ, R, h⟩ => ⟨G, pn, F, Γ, R, tE_tst (k := fun c Γ => if c then fb Γ else .ok (.d (.bool false), Γ)) R h fun c Γ' F' H' R' q => by
    refine ⟨c, rfl, ?_⟩
    cases c with
    | true => exact ⟨G, pn, F', Γ', R', q⟩
    | false => exact post_d R' q (.bl false)⟩
theorem fe_or (ha : FE X E a fa) (hb : FE X E (.BoolOp .Or (b :: rest) pos) fb) : FE X E (.BoolOp .Or (a :: b :: rest) pos) (eOr fa fb) :=
  pe_imp (pe_or ha hb) fun σ H Q ⟨G, pn, F, Γ, R, h⟩ => ⟨G, pn, F, Γ, R, tE_tst (k := fun c Γ => if c then .ok (.d (.bool true), Γ) else fb Γ) R h fun c Γ' F' H' R' q => by
    refine ⟨c, rfl, ?_⟩
    cases c with
    | true => exact post_d R' q (.bl true)
    | false => exact ⟨G, pn, F', Γ', R', q⟩⟩
theorem fe_not (ha : FE X E a fa) : FE X E (.UnaryOp .Not a pos) (eNot fa) :=
  pe_imp (pe_not ha) fun σ H Q ⟨G, pn, F, Γ, R, h⟩ => ⟨G, pn, F, Γ, R, tE_tst (k := fun c Γ => .ok (.d (.bool (!c)), Γ)) R h fun c Γ' F' H' R' q => ⟨c, rfl, post_d R' q (.bl _)⟩⟩
def eIf (t : FnT) (f g : FnE) : FnE := fun Γ => (t Γ).bind fun p => if p.1 then f p.2 else g p.2
theorem fe_if {c : Expr} (hc : FT X E c ft) (ha : FE X E a fa) (hb : FE X E b fb) : FE X E (.IfExp c a b pos) (eIf ft fa fb) :=
  pe_imp (pe_ifExp hc ha hb) fun σ H Q ⟨G, pn, F, Γ, R, h⟩ => by
    refine ⟨G, pn, F, Γ, R, ?_⟩
    unfold eIf at h
    cases e : ft Γ with
    | bad => rw [e] at h; exact h
    | exc x => rw [e] at h; exact h
    | ok p =>
      obtain ⟨c, Γ'⟩ := p
      rw [e] at h
      intro F' H' A R'
      cases c with
      | true => exact ⟨G, pn, F', Γ', R', PostE.adv h A⟩
      | false => exact ⟨G, pn, F', Γ', R', PostE.adv h A⟩
end

/-! ### lists of expressions -/
def aNil : FnA := fun Γ => .ok ([], Γ)
def aCons (f : FnE) (g : FnA) : FnA := fun Γ => (eOp f Γ).bind fun p => (g p.2).bind fun q => .ok (p.1 :: q.1, q.2)
section
variable {X : Cx} {E : WX} {e : Expr} {es : List Expr} {f : FnE} {g : FnA} {pos : Pos}
theorem fa_nil : FA X E [] aNil := pa_imp pa_nil fun σ H Q ⟨G, pn, F, Γ, R, h⟩ => h [] F H (Adv.refl G F) R .nil
theorem eOp_still {Γ Γ' : Ga} {rv : RV} (h : eOp f Γ = .ok (rv, Γ')) : rv.still = true := by
  unfold eOp at h
  cases e : f Γ with
  | bad => rw [e] at h; cases h
  | exc x => rw [e] at h; cases h
  | ok p => rw [e] at h; cases h; exact RV.fz_still _
theorem fa_cons (ha : FE X E e f) (hr : FA X E es g) (hs : starEach (e :: es) X.env = (false, eval e X.env) :: starEach es X.env := by rfl) : FA X E (e :: es) (aCons f g) :=
  pa_imp (pa_cons ha hr hs) fun σ H Q ⟨G, pn, F, Γ, R, h⟩ => by
    refine tE_op _ _ _ ⟨G, pn, F, Γ, R, ?_⟩
    unfold aCons at h
    cases q : eOp f Γ with
    | bad => rw [q] at h; exact h
    | exc x => rw [q] at h; exact h
    | ok p =>
      obtain ⟨rv, Γ1⟩ := p
      rw [q] at h
      have st := eOp_still q
      intro v F1 H1 A1 R1 r1
      refine ⟨G, pn, F1, Γ1, R1, ?_⟩
      simp only [Rs.bind_ok] at h
      cases q2 : g Γ1 with
      | bad => rw [q2] at h; exact h
      | exc x => rw [q2] at h; exact PostX.adv h A1
      | ok p2 =>
        obtain ⟨rs, Γ2⟩ := p2
        rw [q2] at h
        intro vs F2 H2 A2 R2 r2
        refine h (v :: vs) F2 H2 (A1.trans A2) R2 ?_
        cases rv with
        | ow xs => cases st
        | d x => exact .d (Rp.mono A2.same r1) r2
        | sl i => exact .sl r1 r2

/-- what each argument holds, frozen -/
def rvFz (Γ : Ga) : RV → Option (D × Ga)
  | .d x => some (x, Γ)
  | .ow xs => some (.list xs, Γ)
  | .sl i => match Γ[i]? with
    | some (some (.ow xs)) => some (.list xs, Γ.set i (some (.fz (.list xs))))
    | some (some (.fz d)) => some (d, Γ)
    | _ => none
def rvsFz : List RV → Ga → Option (List D × Ga)
  | [], Γ => some ([], Γ)
  | r :: rs, Γ => match rvFz Γ r with
    | some (x, Γ1) => (match rvsFz rs Γ1 with
      | some (xs, Γ2) => some (x :: xs, Γ2)
      | none => none)
    | none => none
section
variable {K : Frag} {G : Hp} {pn : List (Nat × Addr)} {Γ Γ' : Ga} {σ : St} {F F' H H' : Hp}
theorem rvFz_ok {v : V} {r : RV} {x : D} (R : Rep K G pn Γ σ F H) (h : (∃ d, r = .d d ∧ Rp K F v d) ∨ ∃ i, r = .sl i ∧ σ[i]? = some (some v)) (e : rvFz Γ r = some (x, Γ')) : ∃ F', Adv G F F' ∧ Rep K G pn Γ' σ F' H ∧ Rp K F' v x := by
  rcases h with ⟨d, rfl, h⟩ | ⟨i, rfl, h⟩
  · cases e
    exact ⟨F, Adv.refl G F, R, h⟩
  · unfold rvFz at e
    cases q : Γ[i]? with
    | none => simp [q] at e
    | some o =>
      cases o with
      | none => simp [q] at e
      | some s =>
        cases s with
        | ow xs =>
          simp only [q] at e
          cases e
          obtain ⟨F', v', A, R', hv, rp⟩ := R.freeze q
          rw [h] at hv
          cases hv
          exact ⟨F', A, R', rp⟩
        | fz d =>
          simp only [q] at e
          cases e
          obtain ⟨u, e1, e2⟩ := R.sl i _ q
          rw [h] at e1
          cases e1
          exact ⟨F, Adv.refl G F, R, e2⟩
        | _ => simp [q] at e
theorem rvsFz_ok {vs : List V} {rs : List RV} {xs : List D} (R : Rep K G pn Γ σ F H) (h : RvAll K F σ vs rs) (e : rvsFz rs Γ = some (xs, Γ')) : ∃ F', Adv G F F' ∧ Rep K G pn Γ' σ F' H ∧ RpAll K F' vs xs := by
  induction rs generalizing vs xs Γ F with
  | nil =>
    cases h
    cases e
    exact ⟨F, Adv.refl G F, R, .nil⟩
  | cons r rs ih =>
    unfold rvsFz at e
    cases q : rvFz Γ r with
    | none => simp [q] at e
    | some p =>
      obtain ⟨x, Γ1⟩ := p
      simp only [q] at e
      cases q2 : rvsFz rs Γ1 with
      | none => simp [q2] at e
      | some p2 =>
        obtain ⟨ys, Γ2⟩ := p2
        simp only [q2] at e
        cases e
        have : ∃ v us, vs = v :: us ∧ ((∃ d, r = .d d ∧ Rp K F v d) ∨ ∃ i, r = .sl i ∧ σ[i]? = some (some v)) ∧ RvAll K F σ us rs := by
          cases h with
          | d h1 h2 => exact ⟨_, _, rfl, .inl ⟨_, rfl, h1⟩, h2⟩
          | sl h1 h2 => exact ⟨_, _, rfl, .inr ⟨_, rfl, h1⟩, h2⟩
        obtain ⟨v, us, rfl, h1, h2⟩ := this
        obtain ⟨F1, A1, R1, rp⟩ := rvFz_ok R h1 q
        obtain ⟨F2, A2, R2, rps⟩ := ih R1 (h2.keep A1.same) q2
        exact ⟨F2, A1.trans A2, R2, .cons (Rp.mono A2.same rp) rps⟩
end

/-- a tuple, a list of written items -/
def eTup (g : FnA) : FnE := fun Γ => (g Γ).bind fun p => match rvsFz p.1 p.2 with
  | some (xs, Γ') => if xs.length ≤ lim then .ok (.d (.tuple xs), Γ') else .bad
  | none => .bad
def eLst (g : FnA) : FnE := fun Γ => (g Γ).bind fun p => match rvsFz p.1 p.2 with
  | some (xs, Γ') => if xs.length ≤ lim then .ok (.ow xs, Γ') else .bad
  | none => .bad
theorem fe_tup {k : Nat} (h : FA X E es g) : FE X E (.Tuple es k pos) (eTup g) := pe_imp (pe_tup h) fun σ H Q ⟨G, pn, F, Γ, R, h⟩ => by
  refine ⟨G, pn, F, Γ, R, ?_⟩
  unfold eTup at h
  cases q : g Γ with
  | bad => rw [q] at h; exact h
  | exc x => rw [q] at h; exact h
  | ok p =>
    obtain ⟨rs, Γ1⟩ := p
    rw [q] at h
    intro vs F1 H1 A1 R1 r1
    simp only [Rs.bind_ok] at h
    cases q2 : rvsFz rs Γ1 with
    | none => simp only [q2] at h; exact h.elim
    | some p2 =>
      obtain ⟨xs, Γ2⟩ := p2
      simp only [q2] at h
      split at h
      · rename_i hz
        obtain ⟨F2, A2, R2, rp⟩ := rvsFz_ok R1 r1 q2
        exact ⟨by rw [lim_eq, rp.len]; exact hz, fun p hp => post_tup R2 (PostE.adv h (A1.trans A2)) rp hp⟩
      · exact h.elim
theorem fe_lst (h : FA X E es g) : FE X E (.List es pos) (eLst g) := pe_imp (pe_lst h) fun σ H Q ⟨G, pn, F, Γ, R, h⟩ => by
  refine ⟨G, pn, F, Γ, R, ?_⟩
  unfold eLst at h
  cases q : g Γ with
  | bad => rw [q] at h; exact h
  | exc x => rw [q] at h; exact h
  | ok p =>
    obtain ⟨rs, Γ1⟩ := p
    rw [q] at h
    intro vs F1 H1 A1 R1 r1
    simp only [Rs.bind_ok] at h
    cases q2 : rvsFz rs Γ1 with
    | none => simp only [q2] at h; exact h.elim
    | some p2 =>
      obtain ⟨xs, Γ2⟩ := p2
      simp only [q2] at h
      split at h
      · rename_i hz
        obtain ⟨F2, A2, R2, rp⟩ := rvsFz_ok R1 r1 q2
        exact ⟨by rw [lim_eq, rp.len]; exact hz, fun p hp => post_ow R2 (PostE.adv h (A1.trans A2)) rp hp⟩
      · exact h.elim
end

/-! ### subscripts -/
def ixD : D → D → Option D
  | .list xs, .int i => atI xs i
  | .tuple xs, .int i => atI xs i
  | .str z, .int i => if z.length ≤ lim then (atI z.cps.toList i).map fun c => .str ⟨#[c]⟩ else none
  | _, _ => none
theorem atI_rp {K : Frag} {F : Hp} {vs : List V} {xs : List D} {i : Int} {x : D} (h : RpAll K F vs xs) (e : atI xs i = some x) : ∃ v, atI vs i = some v ∧ Rp K F v x := by
  unfold atI at e ⊢
  rw [h.len]
  cases q : ixN xs.length i with
  | none => rw [q] at e; cases e
  | some j =>
    rw [q] at e
    exact h.at e
/-- lo:hi of a list -/
def cutD (xs : List D) (lo hi : Option Int) : List D := (xs.drop (HT.sIx xs.length 0 lo)).take (HT.sIx xs.length xs.length hi - HT.sIx xs.length 0 lo)
theorem cut_rp {K : Frag} {F : Hp} {vs : List V} {xs : List D} {lo hi : Option Int} (h : RpAll K F vs xs) : RpAll K F (cutV vs lo hi) (cutD xs lo hi) := by
  unfold cutV cutD
  rw [h.len]
  exact RpAll.take _ (RpAll.drop _ h)
abbrev FnO := Ga → Rs (Option Int × Ga)
def PostO (K : Frag) (mg : Str → Option Value) (E : WX) (G : Hp) (pn : List (Nat × Addr)) (σ : St) (F : Hp) (Q : Option Int → Hp → Prop) : Rs (Option Int × Ga) → Prop
  | .ok (b, Γ') => ∀ F' H', Adv G F F' → Rep K G pn Γ' σ F' H' → Q b H'
  | .exc e => PostX K mg E G σ F e
  | .bad => False
def tO (K : Frag) (mg : Str → Option Value) (E : WX) (f : FnO) : TO := fun σ H Q => ∃ G pn F Γ, Rep K G pn Γ σ F H ∧ PostO K mg E G pn σ F Q (f Γ)
abbrev FO (X : Cx) (E : WX) (e : Option Expr) (f : FnO) : Prop := PO X e (tO X.K X.mg E f)
theorem po_imp {X : Cx} {e : Option Expr} {t t' : TO} (h : PO X e t) (k : ∀ σ H Q, t' σ H Q → t σ H Q) : PO X e t' := ⟨fun pins s σ H Q I q => h.run pins s σ H Q I (k _ _ _ q)⟩
theorem PostO.adv {K : Frag} {mg : Str → Option Value} {E : WX} {G : Hp} {pn : List (Nat × Addr)} {σ : St} {F F' : Hp} {Q : Option Int → Hp → Prop} {r : Rs (Option Int × Ga)} (h : PostO K mg E G pn σ F Q r) (A : Adv G F F') : PostO K mg E G pn σ F' Q r := by
  cases r with
  | ok p => obtain ⟨rv, Γ'⟩ := p; exact fun F2 H2 a R => h F2 H2 (A.trans a) R
  | exc e => exact PostX.adv h A
  | bad => exact h
def oNone : FnO := fun Γ => .ok (none, Γ)
def oSome (f : FnE) : FnO := fun Γ => (f Γ).bind fun p => match p.1 with
  | .d (.int i) => .ok (some i, p.2)
  | _ => .bad
def eSl (f : FnE) (lo hi : FnO) : FnE := fun Γ => (eOp f Γ).bind fun p => (lo p.2).bind fun q => (hi q.2).bind fun r => match p.1.lst r.2 with
  | some xs => .ok (.ow (cutD xs q.1 r.1), r.2)
  | none => match p.1.get r.2 with
    | some (.tuple xs) => .ok (.d (.tuple (cutD xs q.1 r.1)), r.2)
    | some (.str z) => if z.length ≤ lim then .ok (.d (.str (cutS z q.1 r.1)), r.2) else .bad
    | _ => .bad
section
variable {X : Cx} {E : WX} {a b e : Expr} {fa fb f : FnE} {lo hi : Option Expr} {gl gh : FnO} {pos p2 : Pos}
theorem fe_ix (ha : FE X E a fa) (hb : FE X E b fb) (hs : PlainIx b) : FE X E (.Subscript a b pos) (eBin (g2 ixD) fa fb) :=
  pe_imp (pe_ix ix_seq ha hb hs) (tE_bin fun G pn F Γ σ H x y ra rb Q R r1 r2 h => by
    obtain ⟨d, e, z, q1, q2, q3, h⟩ := post_g2 h
    unfold ixD at q3
    split at q3
    · obtain ⟨l, vs, rfl, h1, h2⟩ := rv_list R r1 q1
      obtain ⟨v, e1, e2⟩ := atI_rp h2 q3
      exact .inl ⟨l, vs, _, v, rfl, dp_int (rv_get R r2 q2), h1, e1, post_d R h e2⟩
    · obtain ⟨l, vs, rfl, h1, h2, _⟩ := rv_tup R r1 q1
      obtain ⟨v, e1, e2⟩ := atI_rp h2 q3
      exact .inr (.inl ⟨l, vs, _, v, rfl, dp_int (rv_get R r2 q2), h1, e1, post_d R h e2⟩)
    · split at q3
      · rename_i hz
        cases q : atI _ _ with
        | none => rw [q] at q3; cases q3
        | some c =>
          rw [q] at q3
          cases q3
          exact .inr (.inr ⟨_, _, c, dp_str (rv_get R r1 q1), dp_int (rv_get R r2 q2), by rw [lim_eq]; exact hz, q, post_d R h (.str _)⟩)
      · cases q3
    · cases q3)
theorem fo_none : FO X E none oNone := po_imp po_none fun σ H Q ⟨G, pn, F, Γ, R, h⟩ => h F H (Adv.refl G F) R
theorem fo_some (he : FE X E e f) : FO X E (some e) (oSome f) := po_imp (po_some he) fun σ H Q ⟨G, pn, F, Γ, R, h⟩ => by
  refine ⟨G, pn, F, Γ, R, ?_⟩
  unfold oSome at h
  cases q : f Γ with
  | bad => rw [q] at h; exact h
  | exc x => rw [q] at h; exact h
  | ok p =>
    obtain ⟨rv, Γ1⟩ := p
    rw [q] at h
    intro v F1 H1 A1 R1 r1
    cases rv with
    | ow xs => exact h.elim
    | sl i => exact h.elim
    | d x =>
      cases x with
      | int i => cases r1; exact ⟨i, rfl, h F1 H1 A1 R1⟩
      | _ => exact h.elim
theorem fe_slice (he : FE X E e f) (hl : FO X E lo gl) (hh : FO X E hi gh) : FE X E (.Subscript e (.Slice lo hi none p2) pos) (eSl f gl gh) :=
  pe_imp (pe_slice (sl_list.or (sl_tupA.or sl_str)) he hl hh) fun σ H Q ⟨G, pn, F, Γ, R, h⟩ => by
    refine tE_op _ _ _ ⟨G, pn, F, Γ, R, ?_⟩
    unfold eSl at h
    cases q : eOp f Γ with
    | bad => rw [q] at h; exact h
    | exc x => rw [q] at h; exact h
    | ok p =>
      obtain ⟨rv, Γ1⟩ := p
      rw [q] at h
      have st := eOp_still q
      intro v F1 H1 A1 R1 r1
      refine ⟨G, pn, F1, Γ1, R1, ?_⟩
      simp only [Rs.bind_ok] at h
      cases q2 : gl Γ1 with
      | bad => rw [q2] at h; exact h
      | exc x => rw [q2] at h; exact PostX.adv h A1
      | ok p2 =>
        obtain ⟨l, Γ2⟩ := p2
        rw [q2] at h
        intro F2 H2 A2 R2
        refine ⟨G, pn, F2, Γ2, R2, ?_⟩
        simp only [Rs.bind_ok] at h
        cases q3 : gh Γ2 with
        | bad => rw [q3] at h; exact h
        | exc x => rw [q3] at h; exact PostX.adv h (A1.trans A2)
        | ok p3 =>
          obtain ⟨u, Γ3⟩ := p3
          rw [q3] at h
          intro F3 H3 A3 R3
          simp only [Rs.bind_ok] at h
          have r3 : RvR X.K G F3 H3 Γ3 σ v rv := r1.keep st (A2.trans A3).same
          have A := (A1.trans A2).trans A3
          split at h
          · rename_i xs e1
            obtain ⟨a, vs, rfl, h1, h2⟩ := rv_lst R3 r3 e1
            exact .inl ⟨a, vs, rfl, SqL.of h1, fun p hp => post_ow R3 (PostE.adv h A) (cut_rp h2) hp⟩
          · split at h
            · rename_i xs e1
              obtain ⟨a, vs, rfl, h1, h2, h3⟩ := rv_tup R3 r3 e1
              refine .inr (.inl ⟨a, vs, rfl, h1, fun z => post_d R3 (PostE.adv h A) ?_, fun _ p hp => post_tup R3 (PostE.adv h A) (cut_rp h2) hp⟩)
              have e2 : cutD xs l u = xs := by
                unfold cutD
                rw [← h2.len, z.1, z.2, List.drop_zero, Nat.sub_zero, h2.len, List.take_length]
              rw [e2]
              exact .tup h3 h2
            · rename_i z e1
              split at h
              · rename_i hz
                exact .inr (.inr ⟨z, dp_str (rv_get R3 r3 e1), by rw [lim_eq]; exact hz, post_d R3 (PostE.adv h A) (.str _)⟩)
              · exact h.elim
            · exact h.elim
end
end FL

/-! FD: targets, statements, loops. -/
namespace FL
open PySem PySem.Spec L2

inductive SR where
  | nx (Γ : Ga) | bk (Γ : Ga) | ct (Γ : Ga) | ret (d : D) (Γ : Ga) | exc (e : Exc) | bad
abbrev FnS := Ga → SR
def PostXS (K : Frag) (mg : Str → Option Value) (E : WX) (G : Hp) (n : Nat) (F : Hp) (e : Exc) : Prop := ∀ c d σ' F' H', σ'.length = n → Adv G F F' → Same F' H' → Same G H' → ExR mg K F' H' e c d → E c d σ' H'
def PostS (K : Frag) (mg : Str → Option Value) (E : WX) (G : Hp) (pn : List (Nat × Addr)) (n : Nat) (F : Hp) (Dn : Ends) : SR → Prop
  | .nx Γ' => ∀ σ' F' H', Adv G F F' → Rep K G pn Γ' σ' F' H' → σ'.length = n → Dn.nx σ' H'
  | .bk Γ' => ∀ σ' F' H', Adv G F F' → Rep K G pn Γ' σ' F' H' → σ'.length = n → Dn.bk σ' H'
  | .ct Γ' => ∀ σ' F' H', Adv G F F' → Rep K G pn Γ' σ' F' H' → σ'.length = n → Dn.ct σ' H'
  | .ret d Γ' => ∀ v σ' F' H', Adv G F F' → Rep K G pn Γ' σ' F' H' → Rp K F' v d → Dn.rt v H'
  | .exc e => PostXS K mg E G n F e
  | .bad => False
def tS (K : Frag) (mg : Str → Option Value) (E : WX) (f : FnS) : TS := fun Dn σ H => ∃ G pn F Γ, Rep K G pn Γ σ F H ∧ PostS K mg E G pn σ.length F Dn (f Γ)
abbrev FS (X : Cx) (E : WX) (st : Stmt) (f : FnS) : Prop := PS X st (tS X.K X.mg E f)
abbrev FSs (X : Cx) (E : WX) (st : List Stmt) (f : FnS) : Prop := PSs X st (tS X.K X.mg E f)
section
variable {K : Frag} {mg : Str → Option Value} {E : WX} {G : Hp} {pn : List (Nat × Addr)} {Γ : Ga} {σ : St} {F F' H H' : Hp} {n : Nat} {Dn : Ends}
theorem PostXS.adv {e : Exc} (h : PostXS K mg E G n F e) (A : Adv G F F') : PostXS K mg E G n F' e := fun c d s F2 H2 l a x y r => h c d s F2 H2 l (A.trans a) x y r
theorem PostXS.at {e : Exc} (h : PostXS K mg E G σ.length F e) : PostX K mg E G σ F e := fun c d F' H' a s g r => h c d σ F' H' rfl a s g r
theorem PostS.adv {r : SR} (h : PostS K mg E G pn n F Dn r) (A : Adv G F F') : PostS K mg E G pn n F' Dn r := by
  cases r with
  | nx Γ => exact fun σ' F2 H2 a R l => h σ' F2 H2 (A.trans a) R l
  | bk Γ => exact fun σ' F2 H2 a R l => h σ' F2 H2 (A.trans a) R l
  | ct Γ => exact fun σ' F2 H2 a R l => h σ' F2 H2 (A.trans a) R l
  | ret d Γ => exact fun v σ' F2 H2 a R r => h v σ' F2 H2 (A.trans a) R r
  | exc e => exact PostXS.adv h A
  | bad => exact h
theorem PostS.ends {Dm : Ends} {r : SR} (h : PostS K mg E G pn n F Dn r) (k1 : ∀ σ H, Dn.nx σ H → Dm.nx σ H) (k2 : ∀ σ H, Dn.bk σ H → Dm.bk σ H) (k3 : ∀ σ H, Dn.ct σ H → Dm.ct σ H) (k4 : ∀ v H, Dn.rt v H → Dm.rt v H) : PostS K mg E G pn n F Dm r := by
  cases r with
  | nx Γ => exact fun σ' F2 H2 a R l => k1 _ _ (h σ' F2 H2 a R l)
  | bk Γ => exact fun σ' F2 H2 a R l => k2 _ _ (h σ' F2 H2 a R l)
  | ct Γ => exact fun σ' F2 H2 a R l => k3 _ _ (h σ' F2 H2 a R l)
  | ret d Γ => exact fun v σ' F2 H2 a R r => k4 _ _ (h v σ' F2 H2 a R r)
  | exc e => exact h
  | bad => exact h
end

/-! ### blocks -/
def sNil : FnS := fun Γ => .nx Γ
def sSeq (f g : FnS) : FnS := fun Γ => match f Γ with
  | .nx Γ' => g Γ'
  | r => r
/-- from a result of an expression to a statement's -/
def Rs.toS {α : Type} (x : Rs α) (f : α → SR) : SR := match x with
  | .ok a => f a
  | .exc e => .exc e
  | .bad => .bad
@[simp] theorem Rs.toS_ok {α : Type} (a : α) (f : α → SR) : (Rs.ok a).toS f = f a := rfl
@[simp] theorem Rs.toS_exc {α : Type} (e : Exc) (f : α → SR) : (Rs.exc e : Rs α).toS f = .exc e := rfl
@[simp] theorem Rs.toS_bad {α : Type} (f : α → SR) : (Rs.bad : Rs α).toS f = .bad := rfl
section
variable {X : Cx} {E : WX} {st : Stmt} {rest : List Stmt} {f g : FnS} {e : Expr} {fe : FnE} {ft : FnT} {pos : Pos}
theorem fs_nil : FSs X E [] sNil := pss_imp pss_nil fun Dn σ H ⟨G, pn, F, Γ, R, h⟩ => h σ F H (Adv.refl G F) R rfl
theorem fs_cons (h1 : FS X E st f) (h2 : FSs X E rest g) : FSs X E (st :: rest) (sSeq f g) := pss_imp (pss_cons h1 h2) fun Dn σ H ⟨G, pn, F, Γ, R, h⟩ => by
  refine ⟨G, pn, F, Γ, R, ?_⟩
  unfold sSeq at h
  cases q : f Γ with
  | nx Γ1 =>
    simp only [q] at h
    exact fun σ' F' H' A R' l => ⟨G, pn, F', Γ1, R', by rw [l]; exact PostS.adv h A⟩
  | bk Γ1 => simp only [q] at h; exact h
  | ct Γ1 => simp only [q] at h; exact h
  | ret d Γ1 => simp only [q] at h; exact h
  | exc e => simp only [q] at h; exact h
  | bad => simp only [q] at h; exact h
theorem fs_one (h1 : FS X E st f) : FSs X E [st] f := pss_one h1
def sBreak : FnS := fun Γ => .bk Γ
def sCont : FnS := fun Γ => .ct Γ
theorem fs_pass : FS X E (.Pass pos) sNil := ps_imp ps_pass fun Dn σ H ⟨G, pn, F, Γ, R, h⟩ => h σ F H (Adv.refl G F) R rfl
theorem fs_doc {x : Str} {j : Nat} {pos pos' : Pos} : FS X E (.Expr (.Constant (.str x) j pos) pos') sNil := ps_imp ps_doc fun Dn σ H ⟨G, pn, F, Γ, R, h⟩ => h σ F H (Adv.refl G F) R rfl
theorem fs_break : FS X E (.Break pos) sBreak := ps_imp ps_break fun Dn σ H ⟨G, pn, F, Γ, R, h⟩ => h σ F H (Adv.refl G F) R rfl
theorem fs_cont : FS X E (.Continue pos) sCont := ps_imp ps_continue fun Dn σ H ⟨G, pn, F, Γ, R, h⟩ => h σ F H (Adv.refl G F) R rfl
def sExpr (f : FnE) : FnS := fun Γ => (f Γ).toS fun p => .nx p.2
theorem fs_expr (he : FE X E e fe) (hs : swapsWith e none pos.line X.env = pure false := by rfl) : FS X E (.Expr e pos) (sExpr fe) := ps_imp (ps_expr he hs) fun Dn σ H ⟨G, pn, F, Γ, R, h⟩ => by
  refine ⟨G, pn, F, Γ, R, ?_⟩
  unfold sExpr at h
  cases q : fe Γ with
  | bad => rw [q] at h; exact h
  | exc x => rw [q] at h; exact h.at
  | ok p => rw [q] at h; exact fun v F' H' A R' rr => h σ F' H' A R' rfl
theorem rvFz_any {K : Frag} {G : Hp} {pn : List (Nat × Addr)} {Γ Γ' : Ga} {σ : St} {F H : Hp} {v : V} {r : RV} {x : D} (R : Rep K G pn Γ σ F H) (h : RvR K G F H Γ σ v r) (e : rvFz Γ r = some (x, Γ')) : ∃ F', Adv G F F' ∧ Rep K G pn Γ' σ F' H ∧ Rp K F' v x := by
  cases r with
  | d y => exact rvFz_ok R (.inl ⟨y, rfl, h⟩) e
  | sl i => exact rvFz_ok R (.inr ⟨i, rfl, h⟩) e
  | ow xs =>
    cases e
    obtain ⟨F', A, R', h'⟩ := h.fz R
    exact ⟨F', A, R', h'⟩
def sRet (f : FnE) : FnS := fun Γ => (f Γ).toS fun p => match rvFz p.2 p.1 with
  | some (d, Γ') => .ret d Γ'
  | none => .bad
theorem fs_ret (he : FE X E e fe) : FS X E (.Return (some e) pos) (sRet fe) := ps_imp (ps_ret he) fun Dn σ H ⟨G, pn, F, Γ, R, h⟩ => by
  refine ⟨G, pn, F, Γ, R, ?_⟩
  unfold sRet at h
  cases q : fe Γ with
  | bad => rw [q] at h; exact h
  | exc x => rw [q] at h; exact h.at
  | ok p =>
    obtain ⟨rv, Γ1⟩ := p
    rw [q] at h
    intro v F' H' A R' rr
    simp only [Rs.toS_ok] at h
    cases q2 : rvFz Γ1 rv with
    | none => simp only [q2] at h; exact h.elim
    | some p2 =>
      obtain ⟨d, Γ2⟩ := p2
      simp only [q2] at h
      obtain ⟨F2, A2, R2, rp⟩ := rvFz_any R' rr q2
      exact h v σ F2 H' (A.trans A2) R2 rp
def sRetN : FnS := fun Γ => .ret .none Γ
theorem fs_retN : FS X E (.Return none pos) sRetN := ps_imp ps_retN fun Dn σ H ⟨G, pn, F, Γ, R, h⟩ => h .non σ F H (Adv.refl G F) R .non
def sIf (t : FnT) (f g : FnS) : FnS := fun Γ => (t Γ).toS fun p => if p.1 then f p.2 else g p.2
theorem fs_if {c : Expr} {a b : List Stmt} (hc : FT X E c ft) (ha : FSs X E a f) (hb : FSs X E b g) : FS X E (.If c a b pos) (sIf ft f g) := ps_imp (ps_if hc ha hb) fun Dn σ H ⟨G, pn, F, Γ, R, h⟩ => by
  refine ⟨G, pn, F, Γ, R, ?_⟩
  unfold sIf at h
  cases q : ft Γ with
  | bad => rw [q] at h; exact h
  | exc x => rw [q] at h; exact h.at
  | ok p =>
    obtain ⟨c, Γ1⟩ := p
    rw [q] at h
    intro F' H' A R'
    cases c with
    | true => exact ⟨G, pn, F', Γ1, R', PostS.adv h A⟩
    | false => exact ⟨G, pn, F', Γ1, R', PostS.adv h A⟩
/-- raise C('..'), an error of the program's own -/
def sRaise (x : Str) : FnS := fun _ => .exc ⟨x, none⟩
theorem fs_raise {x m : Str} {C : Addr} {j : Nat} {p p2 p3 pos : Pos} {bmB : List Value} {B newId initId : String} (hc : X.calm = true) (tk : L2N.Takes X E) (Fx : ExcBaseFacts B newId initId bmB) (q : PySem.W.excIn X.K C bmB newId = true) (gC : X.mg x = some (.ref C))
    (kC : PySem.W.keepIn X.K (.ref C) = true) (r : Raises X (.ref C)) (hg : Gl X x) (hdb : (x == ("__debug__" : Str)) = false := by decide) : FS X E (.Raise (some (.Call (.Name x p) [.Constant (.str m) j p2] [] p3)) none pos) (sRaise x) :=
  ps_imp (L2N.ps_raise hc tk (L2N.pmk_own Fx q gC kC r hg hdb)) fun Dn σ H ⟨G, pn, F, Γ, R, h⟩ => h (.ref C) none σ F H rfl (Adv.refl G F) R.fh R.gh ⟨C, gC, rfl, rfl⟩
end

/-! ### targets -/
abbrev FnG := RV → Ga → Option Ga
def tG (K : Frag) (g : FnG) : TG := fun v σ H Qs => ∃ G pn F Γ rv, Rep K G pn Γ σ F H ∧ RvR K G F H Γ σ v rv ∧ match g rv Γ with
  | some Γ' => ∀ σ' F' H', Adv G F F' → Rep K G pn Γ' σ' F' H' → σ'.length = σ.length → Qs σ' H'
  | none => False
abbrev FG (X : Cx) (tg : Expr) (g : FnG) : Prop := PG X tg (tG X.K g)
theorem pg_imp {X : Cx} {e : Expr} {t t' : TG} (h : PG X e t) (k : ∀ v σ H Q, t' v σ H Q → t v σ H Q) : PG X e t' := ⟨fun pins s σ H v u Q I r q => h.run pins s σ H v u Q I r (k _ _ _ _ q)⟩
theorem pgs_imp {X : Cx} {e : List Expr} {t t' : TGs} (h : PGs X e t) (k : ∀ v σ H Q, t' v σ H Q → t v σ H Q) : PGs X e t' := ⟨fun pins s σ H v u Q I r q => h.run pins s σ H v u Q I r (k _ _ _ _ q)⟩
def gN (i : Nat) : FnG := fun rv Γ => match rv with
  | .ow xs => if freeAt Γ i then some (Γ.set i (some (.ow xs))) else none
  | rv => match rvFz Γ rv with
    | some (d, Γ') => if freeAt Γ' i then some (Γ'.set i (some (.fz d))) else none
    | none => none
section
variable {K : Frag} {G : Hp} {pn : List (Nat × Addr)} {Γ Γ' : Ga} {σ : St} {F F' H H' : Hp}
theorem gN_ok {i : Nat} {v : V} {rv : RV} (R : Rep K G pn Γ σ F H) (h : RvR K G F H Γ σ v rv) (e : gN i rv Γ = some Γ') : ∃ F', Adv G F F' ∧ Rep K G pn Γ' (σ.set i (some v)) F' H := by
  have other : ∀ {d : D} {Γ1 : Ga}, rvFz Γ rv = some (d, Γ1) → freeAt Γ1 i = true → Γ' = Γ1.set i (some (.fz d)) → ∃ F', Adv G F F' ∧ Rep K G pn Γ' (σ.set i (some v)) F' H := fun {d Γ1} e1 e2 e3 => by
    obtain ⟨F1, A1, R1, rp⟩ := rvFz_any R h e1
    rw [e3]
    exact ⟨F1, A1, R1.set e2 rp rfl fun z => by cases z⟩
  cases rv with
  | ow xs =>
    unfold gN at e
    simp only at e
    split at e
    · rename_i hf
      cases e
      obtain ⟨a, rfl, o, hap⟩ := h
      exact ⟨F, Adv.refl G F, R.set hf ⟨a, rfl, o⟩ rfl fun _ j sj _ e1 e2 => hap j sj e1 e2⟩
    · cases e
  | d x =>
    unfold gN at e
    simp only at e
    cases q : rvFz Γ (.d x) with
    | none => simp [q] at e
    | some p =>
      obtain ⟨d, Γ1⟩ := p
      simp only [q] at e
      split at e
      · rename_i hf
        cases e
        exact other q hf rfl
      · cases e
  | sl j =>
    unfold gN at e
    simp only at e
    cases q : rvFz Γ (.sl j) with
    | none => simp [q] at e
    | some p =>
      obtain ⟨d, Γ1⟩ := p
      simp only [q] at e
      split at e
      · rename_i hf
        cases e
        exact other q hf rfl
      · cases e
end
/-- several targets -/
abbrev FnGs := List D → Ga → Option Ga
def gsNil : FnGs := fun ds Γ => match ds with
  | [] => some Γ
  | _ => none
def gsCons (g : FnG) (gs : FnGs) : FnGs := fun ds Γ => match ds with
  | d :: r => (g (.d d) Γ).bind fun Γ' => gs r Γ'
  | [] => none
def gT (gs : FnGs) : FnG := fun rv Γ => match rv with
  | .d (.tuple ds) => gs ds Γ
  | _ => none
def tGs (K : Frag) (g : FnGs) : TGs := fun vs σ H Qs => ∃ G pn F Γ ds, Rep K G pn Γ σ F H ∧ RpAll K F vs ds ∧ match g ds Γ with
  | some Γ' => ∀ σ' F' H', Adv G F F' → Rep K G pn Γ' σ' F' H' → σ'.length = σ.length → Qs σ' H'
  | none => False
abbrev FGs (X : Cx) (tg : List Expr) (g : FnGs) : Prop := PGs X tg (tGs X.K g)
section
variable {X : Cx} {E : WX} {pos : Pos} {e : Expr} {es : List Expr} {fe : FnE} {g : FnG} {gs : FnGs}
theorem fg_name {i : Nat} (h : PG X e (gName i)) : FG X e (gN i) := pg_imp h fun v σ H Q ⟨G, pn, F, Γ, rv, R, rr, q⟩ => by
  cases e1 : gN i rv Γ with
  | none => simp only [e1] at q
  | some Γ' =>
    simp only [e1] at q
    obtain ⟨F', A, R'⟩ := gN_ok R rr e1
    exact q _ F' H A R' (by simp)
theorem fgs_nil : FGs X [] gsNil := pgs_imp pgs_nil fun vs σ H Q ⟨G, pn, F, Γ, ds, R, rr, q⟩ => by
  cases ds with
  | nil => cases rr; exact ⟨rfl, q σ F H (Adv.refl G F) R rfl⟩
  | cons d r => exact q.elim
theorem fgs_cons (h1 : FG X e g) (h2 : FGs X es gs) (hs : (assignEach (e :: es) X.env).map (·.2) = assign e X.env :: (assignEach es X.env).map (·.2) := by rfl) : FGs X (e :: es) (gsCons g gs) :=
  pgs_imp (pgs_cons h1 h2 hs) fun vs σ H Q ⟨G, pn, F, Γ, ds, R, rr, q⟩ => by
    cases ds with
    | nil => exact q.elim
    | cons d r =>
      cases rr with
      | cons r1 r2 =>
        unfold gsCons at q
        simp only at q
        refine ⟨_, _, rfl, G, pn, F, Γ, .d d, R, r1, ?_⟩
        cases e1 : g (.d d) Γ with
        | none => rw [e1] at q; exact q.elim
        | some Γ1 =>
          rw [e1] at q
          simp only [Option.bind_some] at q
          intro σ' F' H' A R' l
          refine ⟨G, pn, F', Γ1, r, R', RpAll.mono A.same r2, ?_⟩
          cases e2 : gs r Γ1 with
          | none => simp only [e2] at q
          | some Γ2 =>
            simp only [e2] at q ⊢
            exact fun σ2 F2 H2 A2 R2 l2 => q σ2 F2 H2 (A.trans A2) R2 (l2.trans l)
theorem gs_len : ∀ {ds : List D} {Γ Γ' : Ga} {K : Frag} {es : List Expr} {X : Cx}, True := trivial
theorem fg_tup {k n : Nat} (hc : X.calm = true) (h : FGs X es gs) (hl : ∀ ds Γ Γ', gs ds Γ = some Γ' → ds.length = n) (hn : (assignEach es X.env).length = n := by rfl) (hst : (assignEach es X.env).findIdx? (·.1) = none := by rfl) :
    FG X (.Tuple es k pos) (gT gs) := pg_imp (pg_tup hc h hn hst) fun v σ H Q ⟨G, pn, F, Γ, rv, R, rr, q⟩ => by
  unfold gT at q
  cases rv with
  | ow xs => exact q.elim
  | sl i => exact q.elim
  | d x =>
    cases x with
    | tuple ds =>
      simp only at q
      cases rr with
      | tup h1 h2 =>
        refine ⟨_, _, rfl, sqT_same R.fh h1, ?_, G, pn, F, Γ, ds, R, h2, q⟩
        cases e1 : gs ds Γ with
        | none => simp only [e1] at q
        | some Γ' => rw [h2.len]; exact hl _ _ _ e1
    | _ => exact q.elim
theorem gsNil_len : ∀ ds Γ Γ', gsNil ds Γ = some Γ' → ds.length = 0 := fun ds Γ Γ' h => by
  cases ds with
  | nil => rfl
  | cons d r => cases h
theorem gsCons_len {g : FnG} {gs : FnGs} {n : Nat} (h : ∀ ds Γ Γ', gs ds Γ = some Γ' → ds.length = n) : ∀ ds Γ Γ', gsCons g gs ds Γ = some Γ' → ds.length = n + 1 := fun ds Γ Γ' e => by
  cases ds with
  | nil => cases e
  | cons d r =>
    unfold gsCons at e
    simp only at e
    cases q : g (.d d) Γ with
    | none => rw [q] at e; cases e
    | some Γ1 =>
      rw [q] at e
      simp only [Option.bind_some] at e
      rw [List.length_cons, h _ _ _ e]

/-! ### assignments -/
def sAsg (f : FnE) (g : FnG) : FnS := fun Γ => (f Γ).toS fun p => match g p.1 p.2 with
  | some Γ' => .nx Γ'
  | none => .bad
theorem key_asg {K : Frag} {mg : Str → Option Value} {te : TE} {tg : TG} (k1 : ∀ σ H Q, tE K mg E fe σ H Q → te σ H Q) (k2 : ∀ v σ H Q, tG K g v σ H Q → tg v σ H Q) (m1 : ∀ σ H Q Q', (∀ v H', Q v H' → Q' v H') → te σ H Q → te σ H Q') :
    ∀ Dn σ H, tS K mg E (sAsg fe g) Dn σ H → tAsg te tg Dn σ H := fun Dn σ H ⟨G, pn, F, Γ, R, h⟩ => by
  refine m1 σ H _ _ (fun v H' q => k2 v σ H' _ q) (k1 σ H _ ⟨G, pn, F, Γ, R, ?_⟩)
  unfold sAsg at h
  cases q : fe Γ with
  | bad => rw [q] at h; exact h
  | exc x => rw [q] at h; exact h.at
  | ok p =>
    obtain ⟨rv, Γ1⟩ := p
    rw [q] at h
    intro v F' H' A R' rr
    refine ⟨G, pn, F', Γ1, rv, R', rr, ?_⟩
    simp only [Rs.toS_ok] at h
    cases q2 : g rv Γ1 with
    | none => simp only [q2] at h; exact h.elim
    | some Γ2 =>
      simp only [q2] at h ⊢
      exact fun σ2 F2 H2 A2 R2 l2 => h σ2 F2 H2 (A.trans A2) R2 l2
theorem tE_mono {K : Frag} {mg : Str → Option Value} : ∀ σ H Q Q', (∀ v H', Q v H' → Q' v H') → tE K mg E fe σ H Q → tE K mg E fe σ H Q' := fun σ H Q Q' k ⟨G, pn, F, Γ, R, h⟩ => by
  refine ⟨G, pn, F, Γ, R, ?_⟩
  cases q : fe Γ with
  | bad => rw [q] at h; exact h
  | exc x => rw [q] at h; exact h
  | ok p => rw [q] at h; exact fun v F' H' A R' rr => k _ _ (h v F' H' A R' rr)
theorem fs_asg {tg : Expr} (he : FE X E e fe) (hg : FG X tg g) (hs : swapsWithSole [tg] e pos.line X.env = pure false := by rfl) (hw : swappedStores [tg] e X.env = pure none := by rfl)
    (h1 : (assignEach [tg] X.env).map (·.2) = [assign tg X.env] := by rfl) : FS X E (.Assign [tg] e pos) (sAsg fe g) := ps_imp (ps_asg he hg hs hw h1) (key_asg (fun _ _ _ h => h) (fun _ _ _ _ h => h) tE_mono)
theorem fs_set {i : Nat} {x : Str} {pos' : Pos} (hN : X.N.Nodup) (hi : X.N[i]? = some x) (hx : Loc X.env.scope x) (he : FE X E e fe) (hs : swapsWith e (some (.Name x pos')) pos.line X.env = pure false := by rfl) (hf : X.fn x = true ∨ X.env.scope.names.lookup x = some .local := by first | exact .inl rfl | exact .inr rfl | assumption) :
    FS X E (.Assign [.Name x pos'] e pos) (sAsg fe (gN i)) := ps_imp (ps_set hN hi hx he hs hf) (key_asg (fun _ _ _ h => h) (fun v σ H Q ⟨G, pn, F, Γ, rv, R, rr, q⟩ => by
      cases e1 : gN i rv Γ with
      | none => simp only [e1] at q
      | some Γ' =>
        simp only [e1] at q
        obtain ⟨F', A, R'⟩ := gN_ok R rr e1
        exact q _ F' H A R' (by simp)) tE_mono)
/-- a, b = e1, e2 with local names -/
def sPar (i j : Nat) (f : FnA) : FnS := fun Γ => (f Γ).toS fun p => match rvsFz p.1 p.2 with
  | some ([x, y], Γ1) => if freeAt Γ1 i && freeAt Γ1 j then .nx ((Γ1.set i (some (.fz x))).set j (some (.fz y))) else .bad
  | _ => .bad
theorem freeAt_set {Γ : Ga} {i j : Nat} {s : Sl} (h : freeAt Γ j = true) (np : s.pinned = false) : freeAt (Γ.set i (some s)) j = true := by
  unfold freeAt at h ⊢
  by_cases e : i = j
  · subst e
    by_cases hl : i < Γ.length
    · rw [List.getElem?_set_self hl]
      simp [np]
    · rw [List.getElem?_eq_none (Nat.le_of_not_lt hl)] at h
      exact absurd h (by simp)
  · rw [List.getElem?_set_ne e]
    exact h
theorem fs_par {i j : Nat} {x y : Str} {a b : Expr} {fa : FnA} {px py pt : Pos} {kt k2 : Nat} {pt2 : Pos} (hc : X.calm = true) (hN : X.N.Nodup) (hi : X.N[i]? = some x) (hj : X.N[j]? = some y) (hij : i ≠ j)
    (hx : X.env.scope.names.lookup x = some .local) (hy : X.env.scope.names.lookup y = some .local) (ha : FA X E [a, b] fa)
    (hw : swappedStores [.Tuple [.Name x px, .Name y py] kt pt] (.Tuple [a, b] k2 pt2) X.env = pure (some [x, y]) := by rfl)
    (hs : swapsWithSole [.Tuple [.Name x px, .Name y py] kt pt] (.Tuple [a, b] k2 pt2) pos.line X.env = pure false := by rfl) :
    FS X E (.Assign [.Tuple [.Name x px, .Name y py] kt pt] (.Tuple [a, b] k2 pt2) pos) (sPar i j fa) := ps_imp (ps_par hc hN hi hj hij hx hy ha hw hs) fun Dn σ H ⟨G, pn, F, Γ, R, h⟩ => by
  refine ⟨G, pn, F, Γ, R, ?_⟩
  unfold sPar at h
  cases q : fa Γ with
  | bad => rw [q] at h; exact h
  | exc x => rw [q] at h; exact h.at
  | ok p =>
    obtain ⟨rs, Γ1⟩ := p
    rw [q] at h
    intro vs F' H' A R' rr
    simp only [Rs.toS_ok] at h
    split at h
    · rename_i x y Γ2 e1
      split at h
      · rename_i hf
        rw [Bool.and_eq_true] at hf
        obtain ⟨F2, A2, R2, rp⟩ := rvsFz_ok R' rr e1
        cases rp with
        | cons r1 r2 =>
          cases r2 with
          | cons r2 r3 =>
            cases r3
            refine ⟨_, _, rfl, ?_⟩
            exact h _ F2 H' (A.trans A2) ((R2.set hf.1 (s := .fz x) r1 rfl fun z => by cases z).set (freeAt_set hf.2 rfl) (s := .fz y) r2 rfl fun z => by cases z) (by simp)
      · exact h.elim
    · exact h.elim
/-- the slot's list is written -/
def slWrite (Γ : Ga) (i : Nat) (f : List D → Option (List D)) : Option Ga := match Γ[i]? with
  | some (some (.ow xs)) => (f xs).map fun ys => Γ.set i (some (.ow ys))
  | some (some (.io xs)) => (f xs).map fun ys => Γ.set i (some (.io ys))
  | _ => none
def hasAt (Γ : Ga) (i : Nat) : Bool := match Γ[i]? with
  | some (some _) => true
  | _ => false
theorem hasAt_ok {K : Frag} {G : Hp} {pn : List (Nat × Addr)} {Γ : Ga} {σ : St} {F H : Hp} {i : Nat} (R : Rep K G pn Γ σ F H) (h : hasAt Γ i = true) : ∃ u, σ[i]? = some (some u) := by
  unfold hasAt at h
  split at h
  · rename_i s e
    obtain ⟨u, e1, _⟩ := R.sl i s e
    exact ⟨u, e1⟩
  · cases h
/-- what a write of the slot's list is -/
theorem slWrite_ok {K : Frag} {G : Hp} {pn : List (Nat × Addr)} {Γ Γ' : Ga} {σ : St} {F H : Hp} {i : Nat} {v : V} {f : List D → Option (List D)} (R : Rep K G pn Γ σ F H) (hv : σ[i]? = some (some v)) (e : slWrite Γ i f = some Γ') :
    ∃ a vs xs ys, v = .ref a ∧ H a = some (.lst vs) ∧ RpAll K F vs xs ∧ f xs = some ys ∧ ∀ vs', RpAll K F vs' ys → Rep K G pn Γ' σ F (upd H a (.lst vs')) := by
  unfold slWrite at e
  split at e
  · rename_i xs q
    cases q2 : f xs with
    | none => rw [q2] at e; cases e
    | some ys =>
      rw [q2] at e
      cases e
      obtain ⟨u, e1, a, rfl, vs, h1, h2, h3, h4⟩ := R.sl i _ q
      rw [hv] at e1
      cases e1
      exact ⟨a, vs, xs, ys, rfl, h1, h2, q2, fun vs' r => R.write q hv h3 h4 (.inl ⟨rfl, rfl, rfl⟩) r⟩
  · rename_i xs q
    cases q2 : f xs with
    | none => rw [q2] at e; cases e
    | some ys =>
      rw [q2] at e
      cases e
      obtain ⟨u, e1, a, rfl, vs, h1, h2, h3, h4⟩ := R.sl i _ q
      rw [hv] at e1
      cases e1
      exact ⟨a, vs, xs, ys, rfl, h1, h2, q2, fun vs' r => R.write q hv h3 h4 (.inr ⟨⟨xs, rfl⟩, rfl⟩) r⟩
  · cases e
/-- xs[k] = e at a name -/
def sSetIx (i : Nat) (fk fe : FnE) : FnS := fun Γ => (eOp fe Γ).toS fun p => if hasAt p.2 i then (fk p.2).toS fun q => (match rvFz q.2 p.1, q.1 with
  | some (x, Γ2), .d (.int k) => (match slWrite Γ2 i fun xs => (ixN xs.length k).map fun j => xs.set j x with
    | some Γ3 => .nx Γ3
    | none => .bad)
  | _, _ => .bad) else .bad
theorem fs_setIx {i : Nat} {o k : Expr} {fk : FnE} {pos' : Pos} (ho : PE X o (tVar i)) (hk : FE X E k fk) (he : FE X E e fe)
    (ha : ∀ v, assign (.Subscript o k pos') X.env v = (do
      let ov ← holding [v] (eval o X.env)
      let iv ← holding [v, ov] (eval k X.env)
      standAt pos'
      holding [v, ov, iv] (setItem ov iv v)
      release [v, ov, iv] []) := by intro _; rfl)
    (hs : swapsWithSole [.Subscript o k pos'] e pos.line X.env = pure false := by rfl) (hw : swappedStores [.Subscript o k pos'] e X.env = pure none := by rfl)
    (h1 : (assignEach [.Subscript o k pos'] X.env).map (·.2) = [assign (.Subscript o k pos') X.env] := by rfl) : FS X E (.Assign [.Subscript o k pos'] e pos) (sSetIx i fk fe) :=
  ps_imp (ps_asg he (pg_sub ho hk set_list ha) hs hw h1) fun Dn σ H ⟨G, pn, F, Γ, R, h⟩ => by
    refine tE_op _ _ _ ⟨G, pn, F, Γ, R, ?_⟩
    unfold sSetIx at h
    cases q : eOp fe Γ with
    | bad => rw [q] at h; exact h
    | exc x => rw [q] at h; exact h.at
    | ok p =>
      obtain ⟨rv, Γ1⟩ := p
      rw [q] at h
      have st := eOp_still q
      intro v F1 H1 A1 R1 r1
      simp only [Rs.toS_ok] at h
      split at h
      · rename_i hh
        obtain ⟨u, hu⟩ := hasAt_ok R1 hh
        refine ⟨u, hu, G, pn, F1, Γ1, R1, ?_⟩
        cases q2 : fk Γ1 with
        | bad => rw [q2] at h; exact h
        | exc x => rw [q2] at h; exact (PostXS.adv h A1).at
        | ok p2 =>
          obtain ⟨rk, Γ2⟩ := p2
          rw [q2] at h
          intro w F2 H2 A2 R2 r2
          simp only [Rs.toS_ok] at h
          split at h
          · rename_i x Γ3 k e1
            obtain ⟨F3, A3, R3, rp⟩ := rvFz_any R2 (r1.keep st A2.same) e1
            split at h
            · rename_i Γ4 e2
              obtain ⟨a, vs, xs, ys, rfl, g1, g2, g3, g4⟩ := slWrite_ok R3 hu e2
              cases r2
              cases q3 : ixN xs.length k with
              | none => rw [q3] at g3; cases g3
              | some j =>
                rw [q3] at g3
                cases g3
                exact ⟨a, vs, k, j, rfl, rfl, g1, by rw [g2.len]; exact q3, h σ F3 _ ((A1.trans A2).trans A3) (g4 _ (RpAll.set rp j g2)) rfl⟩
            · exact h.elim
          · exact h.elim
      · exact h.elim
end

/-! ### methods that write a name's own list -/
def ownAt (Γ : Ga) (i : Nat) : Bool := match Γ[i]? with
  | some (some (.ow _)) => true
  | some (some (.io _)) => true
  | _ => false
theorem ownAt_ok {K : Frag} {G : Hp} {pn : List (Nat × Addr)} {Γ : Ga} {σ : St} {F H : Hp} {i : Nat} (R : Rep K G pn Γ σ F H) (h : ownAt Γ i = true) : ∃ u, σ[i]? = some (some u) ∧ tyV K "list" u H := by
  unfold ownAt at h
  split at h
  · rename_i s e
    obtain ⟨u, e1, a, rfl, vs, h1, _⟩ := R.sl i _ e
    exact ⟨_, e1, .inl ⟨rfl, vs, SqL.of h1⟩⟩
  · rename_i s e
    obtain ⟨u, e1, a, rfl, vs, h1, _⟩ := R.sl i _ e
    exact ⟨_, e1, .inl ⟨rfl, vs, SqL.of h1⟩⟩
  · cases h
def eMet (i : Nat) (fe : FnE) (out : Ga → RV → Rs (RV × Ga)) : FnE := fun Γ => if ownAt Γ i then (eOp fe Γ).bind fun p => out p.2 p.1 else .bad
section
variable {K : Frag} {mg : Str → Option Value} {E : WX}
/-- the common way to such a method -/
theorem key_meth {r : V → List V → Hp → VK → Prop} {i : Nat} {fe : FnE} {out : Ga → RV → Rs (RV × Ga)}
    (key : ∀ (G : Hp) (pn : List (Nat × Addr)) (F : Hp) (Γ : Ga) (σ : St) (H : Hp) (u y : V) (rv : RV) (Q : VK), Rep K G pn Γ σ F H → σ[i]? = some (some u) → RvR K G F H Γ σ y rv → PostE K mg E G pn σ F Q (out Γ rv) → r u [y] H Q) :
    ∀ σ H Q, tE K mg E (eMet i fe out) σ H Q → tBM K "list" r (tVar i) (tCons (tE K mg E fe) tNil) σ H Q := fun σ H Q ⟨G, pn, F, Γ, R, h⟩ => by
  unfold eMet at h
  split at h
  · rename_i hh
    obtain ⟨u, hu, ty⟩ := ownAt_ok R hh
    refine ⟨u, hu, ty, ?_⟩
    refine tE_op _ _ _ ⟨G, pn, F, Γ, R, ?_⟩
    cases q : eOp fe Γ with
    | bad => rw [q] at h; exact h
    | exc x => rw [q] at h; exact h
    | ok p =>
      obtain ⟨rv, Γ1⟩ := p
      rw [q] at h
      intro v F1 H1 A1 R1 r1
      exact key G pn F1 Γ1 σ H1 u v rv Q R1 hu r1 (PostE.adv h A1)
  · exact h.elim
end
def outApp (i : Nat) : Ga → RV → Rs (RV × Ga) := fun Γ rv => match rvFz Γ rv with
  | some (x, Γ1) => (match slWrite Γ1 i fun xs => if xs.length < lim then some (xs ++ [x]) else none with
    | some Γ2 => .ok (.d .none, Γ2)
    | none => .bad)
  | none => .bad
def outExt (i : Nat) : Ga → RV → Rs (RV × Ga) := fun Γ rv => match rvFz Γ rv with
  | some (.list ys, Γ1) => (match slWrite Γ1 i fun xs => if xs.length + ys.length ≤ lim then some (xs ++ ys) else none with
    | some Γ2 => .ok (.d .none, Γ2)
    | none => .bad)
  | _ => .bad
def intsOf : List D → Option (List Int)
  | [] => some []
  | .int i :: r => (intsOf r).map (i :: ·)
  | _ => none
theorem intsOf_ok : ∀ {ds : List D} {ns : List Int}, intsOf ds = some ns → ds = ns.map .int
  | [], ns, h => by cases h; rfl
  | .int i :: r, ns, h => by
    unfold intsOf at h
    cases q : intsOf r with
    | none => rw [q] at h; cases h
    | some m =>
      rw [q] at h
      cases h
      rw [intsOf_ok q]
      rfl
  | .none :: _, _, h => by cases h
  | .bool _ :: _, _, h => by cases h
  | .str _ :: _, _, h => by cases h
  | .list _ :: _, _, h => by cases h
  | .tuple _ :: _, _, h => by cases h
  | .dict _ :: _, _, h => by cases h
@[simp] theorem intsOf_map : ∀ ns : List Int, intsOf (ns.map .int) = some ns
  | [] => rfl
  | n :: ns => by
    show (intsOf (ns.map .int)).map (n :: ·) = _
    rw [intsOf_map ns]
    rfl
def remInt (k : Int) (xs : List D) : Option (List D) := match intsOf xs with
  | some ns => if k ∈ ns then some ((ns.erase k).map .int) else none
  | none => none
def outRem (i : Nat) : Ga → RV → Rs (RV × Ga) := fun Γ rv => match rv with
  | .d (.int k) => (match slWrite Γ i (remInt k) with
    | some Γ2 => .ok (.d .none, Γ2)
    | none => .bad)
  | _ => .bad
theorem find_first {ns : List Int} {k : Int} (h : k ∈ ns) : ∃ j, ns[j]? = some k ∧ (∀ m : Nat, m < j → ns[m]? ≠ some k) ∧ ns.eraseIdx j = ns.erase k := by
  induction ns with
  | nil => cases h
  | cons a r ih =>
    by_cases e : a = k
    · subst e
      exact ⟨0, rfl, fun m hm => absurd hm (Nat.not_lt_zero _), by simp⟩
    · have h' : k ∈ r := by
        rcases List.mem_cons.mp h with z | z
        · exact absurd z.symm e
        · exact z
      obtain ⟨j, h1, h2, h3⟩ := ih h'
      refine ⟨j + 1, h1, fun m hm => ?_, ?_⟩
      · cases m with
        | zero => intro z; exact e (Option.some.inj z)
        | succ m => exact h2 m (by omega)
      · rw [List.eraseIdx_cons_succ, h3, List.erase_cons_tail (by simpa using e)]
section
variable {X : Cx} {E : WX} {o e : Expr} {fe : FnE} {i : Nat} {apos cpos : Pos}
theorem fe_append (ho : PE X o (tVar i)) (he : FE X E e fe) (hbase : attributeBase o "append" X.env (eval o X.env) = eval o X.env := by rfl)
    (hs : starEach [e] X.env = [(false, eval e X.env)] := by rfl) (hfew : ((backTo cpos (starEach [e] X.env)).all (fun x => !x.1) && (backToKw cpos (keywordEach [] X.env)).all (fun x => x.1.isSome)
      && decide (([e]).length + ([] : List Keyword).length + (if ([] : List Keyword).isEmpty then 0 else 1) < 30)) = true := by rfl) (hline : (apos.endLine == cpos.line) = true := by rfl) :
    FE X E (.Call (.Attribute o "append" apos) [e] [] cpos) (eMet i fe (outApp i)) :=
  pe_imp (pe_bm PySem.F.plainAttrs_list PySem.F.slot_list_append PySem.F.type_list_append mt_append ho (pa_cons he pa_nil hs) hbase hfew hline hs rfl) (key_meth fun G pn F Γ σ H u y rv Q R hu r h => by
    unfold outApp at h
    split at h
    · rename_i x Γ1 e1
      obtain ⟨F1, A1, R1, rp⟩ := rvFz_any R r e1
      split at h
      · rename_i Γ2 e2
        obtain ⟨a, vs, xs, ys, rfl, g1, g2, g3, g4⟩ := slWrite_ok R1 hu e2
        split at g3
        · rename_i hz
          cases g3
          exact ⟨a, vs, y, rfl, rfl, g1, by rw [lim_eq, g2.len]; exact hz, h _ F1 _ A1 (g4 _ (g2.app (.one rp))) .non⟩
        · cases g3
      · exact h.elim
    · exact h.elim)
theorem fe_extend (ho : PE X o (tVar i)) (he : FE X E e fe) (hbase : attributeBase o "extend" X.env (eval o X.env) = eval o X.env := by rfl)
    (hs : starEach [e] X.env = [(false, eval e X.env)] := by rfl) (hfew : ((backTo cpos (starEach [e] X.env)).all (fun x => !x.1) && (backToKw cpos (keywordEach [] X.env)).all (fun x => x.1.isSome)
      && decide (([e]).length + ([] : List Keyword).length + (if ([] : List Keyword).isEmpty then 0 else 1) < 30)) = true := by rfl) (hline : (apos.endLine == cpos.line) = true := by rfl) :
    FE X E (.Call (.Attribute o "extend" apos) [e] [] cpos) (eMet i fe (outExt i)) :=
  pe_imp (pe_bm PySem.F.plainAttrs_list PySem.F.slot_list_extend PySem.F.type_list_extend mt_extend ho (pa_cons he pa_nil hs) hbase hfew hline hs rfl) (key_meth fun G pn F Γ σ H u y rv Q R hu r h => by
    unfold outExt at h
    split at h
    · rename_i zs Γ1 e1
      obtain ⟨F1, A1, R1, rp⟩ := rvFz_any R r e1
      split at h
      · rename_i Γ2 e2
        obtain ⟨a, vs, xs, ys, rfl, g1, g2, g3, g4⟩ := slWrite_ok R1 hu e2
        split at g3
        · rename_i hz
          cases g3
          cases rp with
          | lst k1 k2 => exact ⟨a, _, vs, _, rfl, rfl, g1, R1.fh _ _ k1, by rw [lim_eq, g2.len, k2.len]; exact hz, h _ F1 _ A1 (g4 _ (g2.app k2)) .non⟩
        · cases g3
      · exact h.elim
    · exact h.elim)
theorem fe_remove (ho : PE X o (tVar i)) (he : FE X E e fe) (hbase : attributeBase o "remove" X.env (eval o X.env) = eval o X.env := by rfl)
    (hs : starEach [e] X.env = [(false, eval e X.env)] := by rfl) (hfew : ((backTo cpos (starEach [e] X.env)).all (fun x => !x.1) && (backToKw cpos (keywordEach [] X.env)).all (fun x => x.1.isSome)
      && decide (([e]).length + ([] : List Keyword).length + (if ([] : List Keyword).isEmpty then 0 else 1) < 30)) = true := by rfl) (hline : (apos.endLine == cpos.line) = true := by rfl) :
    FE X E (.Call (.Attribute o "remove" apos) [e] [] cpos) (eMet i fe (outRem i)) :=
  pe_imp (pe_bm PySem.F.plainAttrs_list PySem.F.slot_list_remove PySem.F.type_list_remove mt_remove ho (pa_cons he pa_nil hs) hbase hfew hline hs rfl) (key_meth fun G pn F Γ σ H u y rv Q R hu r h => by
    unfold outRem at h
    split at h
    · rename_i k
      split at h
      · rename_i Γ2 e2
        obtain ⟨a, vs, xs, ys, rfl, g1, g2, g3, g4⟩ := slWrite_ok R hu e2
        unfold remInt at g3
        split at g3
        · rename_i ns e3
          split at g3
          · rename_i hk
            cases g3
            cases r
            have ex := intsOf_ok e3
            subst ex
            have ev := RpAll.ints g2
            subst ev
            obtain ⟨j, f1, f2, f3⟩ := find_first hk
            refine ⟨a, ns, k, j, rfl, rfl, g1, f1, f2, ?_⟩
            rw [f3]
            exact h _ F _ (Adv.refl G F) (g4 _ (RpAll.ofInts _)) .non
          · cases g3
        · cases g3
      · exact h.elim
    · exact h.elim)
end

/-! ### what is walked -/
abbrev FnI := Ga → Rs (List D × Option Nat × Ga)
def WalkD (K : Frag) (J : It) (xs : List D) (G2 Fs : Hp) : Prop := ∃ Y, Walk J xs.length (fun H => Same G2 H ∧ Same Fs H) Y ∧
  ∀ (i : Nat) (H : Hp) (v : V) (H' F Gc : Hp) (x : D), Same Fs F → Same F H → Same Gc H → Same G2 H → Y i H v H' → xs[i]? = some x →
    ∃ F', Adv Gc F F' ∧ Rp K F' v x ∧ ((H' = H ∧ F' = F) ∨ ∃ p o, H p = none ∧ H' = upd H p o ∧ F' = upd F p o)
def LkR (K : Frag) (G G2 F H : Hp) (Γ : Ga) (σ : St) : Option Nat → Prop
  | none => G2 = G
  | some i => ∃ a vs ys, G2 = upd G a (.lst vs) ∧ Γ[i]? = some (some (.ow ys)) ∧ σ[i]? = some (some (.ref a)) ∧ H a = some (.lst vs) ∧ RpAll K F vs ys ∧ F a = none ∧ G a = none
def PostI (K : Frag) (mg : Str → Option Value) (E : WX) (G : Hp) (pn : List (Nat × Addr)) (σ : St) (F : Hp) (Rk : It → Hp → Prop) : Rs (List D × Option Nat × Ga) → Prop
  | .ok (xs, lk, Γ') => ∀ J F' H' G2, Adv G F F' → Rep K G pn Γ' σ F' H' → LkR K G G2 F' H' Γ' σ lk → WalkD K J xs G2 F' → Rk J H'
  | .exc e => PostX K mg E G σ F e
  | .bad => False
def tI (K : Frag) (mg : Str → Option Value) (E : WX) (f : FnI) : TI := fun σ H Rk => ∃ G pn F Γ, Rep K G pn Γ σ F H ∧ PostI K mg E G pn σ F Rk (f Γ)
abbrev FI (X : Cx) (E : WX) (tg e : Expr) (f : FnI) : Prop := PI X tg e (tI X.K X.mg E f)
theorem pi_imp {X : Cx} {tg e : Expr} {t t' : TI} (h : PI X tg e t) (k : ∀ σ H Q, t' σ H Q → t σ H Q) : PI X tg e t' := ⟨fun pins s σ H Q I q => h.run pins s σ H Q I (k _ _ _ q)⟩
theorem PostI.adv {K : Frag} {mg : Str → Option Value} {E : WX} {G : Hp} {pn : List (Nat × Addr)} {σ : St} {F F' : Hp} {Rk : It → Hp → Prop} {r : Rs (List D × Option Nat × Ga)} (h : PostI K mg E G pn σ F Rk r) (A : Adv G F F') : PostI K mg E G pn σ F' Rk r := by
  cases r with
  | ok p => obtain ⟨xs, lk, Γ'⟩ := p; exact fun J F2 H2 G2 a R l w => h J F2 H2 G2 (A.trans a) R l w
  | exc e => exact PostX.adv h A
  | bad => exact h
theorem walkD_same {K : Frag} {J : It} {xs : List D} {G2 Fs : Hp} {Y : Nat → Hp → V → Hp → Prop} (w : Walk J xs.length (fun H => Same G2 H ∧ Same Fs H) Y)
    (h : ∀ (i : Nat) (H : Hp) (v : V) (H' F : Hp) (x : D), Same Fs F → Same F H → Same G2 H → Y i H v H' → xs[i]? = some x → H' = H ∧ Rp K F v x) : WalkD K J xs G2 Fs :=
  ⟨Y, w, fun i H v H' F Gc x s1 s2 s3 s4 y e => let ⟨e1, r⟩ := h i H v H' F x s1 s2 s4 y e; ⟨F, Adv.refl Gc F, r, .inl ⟨e1, rfl⟩⟩⟩
theorem walkD_list {K : Frag} {a : Addr} {vs : List V} {xs : List D} {G2 Fs : Hp} (h : ∀ H, Same G2 H ∧ Same Fs H → SqL K H a vs) (r : RpAll K Fs vs xs) : WalkD K (Itl K a) xs G2 Fs := by
  have w : Walk (Itl K a) xs.length (fun H => Same G2 H ∧ Same Fs H) (YAt vs) := by
    rw [← r.len]
    exact walk_list.mono h fun i H x H' _ _ y => y
  exact walkD_same w fun i H v H' F x s1 s2 s3 y e => by
    obtain ⟨e1, e2⟩ := y
    obtain ⟨d, e3, rp⟩ := r.atV e2
    rw [e] at e3
    cases e3
    exact ⟨e1, Rp.mono s1 rp⟩
theorem walkD_tup {K : Frag} {a : Addr} {vs : List V} {xs : List D} {G2 Fs : Hp} (h : ∀ H, Same G2 H ∧ Same Fs H → SqT K H a vs) (r : RpAll K Fs vs xs) : WalkD K (Itt K a) xs G2 Fs := by
  have w : Walk (Itt K a) xs.length (fun H => Same G2 H ∧ Same Fs H) (YAt vs) := by
    rw [← r.len]
    exact walk_tup.mono h fun i H x H' _ _ y => y
  exact walkD_same w fun i H v H' F x s1 s2 s3 y e => by
    obtain ⟨e1, e2⟩ := y
    obtain ⟨d, e3, rp⟩ := r.atV e2
    rw [e] at e3
    cases e3
    exact ⟨e1, Rp.mono s1 rp⟩
/-- the items of a value that is a list, a tuple: what is walked, which slot is shut meanwhile -/
def itemsL (rv : RV) (Γ : Ga) : Option (List D × Option Nat) := match rv with
  | .d (.list xs) => some (xs, none)
  | .d _ => none
  | .ow xs => some (xs, none)
  | .sl i => match Γ[i]? with
    | some (some (.ow xs)) => some (xs, some i)
    | some (some (.lk xs)) => some (xs, none)
    | some (some (.scr ns)) => some (ns.map .int, none)
    | _ => none
theorem itemsL_ok {K : Frag} {G : Hp} {pn : List (Nat × Addr)} {Γ : Ga} {σ : St} {F H : Hp} {v : V} {rv : RV} {xs : List D} {lk : Option Nat} (R : Rep K G pn Γ σ F H) (h : RvR K G F H Γ σ v rv) (st : rv.still = true) (e : itemsL rv Γ = some (xs, lk)) :
    ∃ a vs G2, v = .ref a ∧ SqL K H a vs ∧ LkR K G G2 F H Γ σ lk ∧ WalkD K (Itl K a) xs G2 F ∧ RpAll K F vs xs ∧ (∀ H', Same G2 H' ∧ Same F H' → SqL K H' a vs) := by
  unfold itemsL at e
  split at e
  · cases e
    cases h with
    | lst h1 h2 => exact ⟨_, _, G, rfl, SqL.of (R.fh _ _ h1), rfl, walkD_list (fun H' s => SqL.of (s.2 _ _ h1)) h2, h2, fun H' s => SqL.of (s.2 _ _ h1)⟩
  · cases e
  · cases st
  · rename_i i
    split at e
    · rename_i ys q
      cases e
      obtain ⟨u, e1, a, rfl, vs, h1, h2, h3, h4⟩ := R.sl i _ q
      obtain rfl : V.ref a = v := Option.some.inj (Option.some.inj (e1.symm.trans h))
      exact ⟨a, vs, upd G a (.lst vs), rfl, SqL.of h1, ⟨a, vs, _, rfl, q, h, h1, h2, h3, h4⟩, walkD_list (fun H' s => SqL.of (s.1 _ _ upd_same)) h2, h2, fun H' s => SqL.of (s.1 _ _ upd_same)⟩
    · rename_i ys q
      cases e
      obtain ⟨u, e1, a, vs, rfl, h1, h2, h3⟩ := R.sl i _ q
      obtain rfl : V.ref a = v := Option.some.inj (Option.some.inj (e1.symm.trans h))
      exact ⟨a, vs, G, rfl, SqL.of (R.gh _ _ h1), rfl, walkD_list (fun H' s => SqL.of (s.1 _ _ h1)) h2, h2, fun H' s => SqL.of (s.1 _ _ h1)⟩
    · rename_i ns q
      cases e
      obtain ⟨u, e1, a, rfl, h1⟩ := R.sl i _ q
      obtain rfl : V.ref a = v := Option.some.inj (Option.some.inj (e1.symm.trans h))
      exact ⟨a, ns.map V.int, G, rfl, sqL_same R.fh h1.l, rfl, walkD_list (fun H' s => sqL_same s.2 h1.l) (RpAll.ofInts ns), RpAll.ofInts ns, fun H' s => sqL_same s.2 h1.l⟩
    · cases e
def iL (f : FnE) : FnI := fun Γ => (eOp f Γ).bind fun p => match itemsL p.1 p.2 with
  | some (xs, lk) => .ok (xs, lk, p.2)
  | none => .bad
/-- over a tuple -/
def iT (f : FnE) : FnI := fun Γ => (eOp f Γ).bind fun p => match p.1.get p.2 with
  | some (.tuple xs) => .ok (xs, none, p.2)
  | _ => .bad
def rgs (lo : Int) (n : Nat) : List D := (List.range n).map fun i => .int (lo + (i : Nat))
def rgOk (i : Int) : Bool := decide (-(2 ^ 62) ≤ i) && decide (i < 2 ^ 62)
def iR1 (f : FnA) : FnI := fun Γ => (f Γ).bind fun p => match p.1 with
  | [.d (.int j)] => if rgOk j then .ok (rgs 0 j.toNat, none, p.2) else .bad
  | _ => .bad
def iR2 (f : FnA) : FnI := fun Γ => (f Γ).bind fun p => match p.1 with
  | [.d (.int i), .d (.int j)] => if rgOk i && rgOk j then .ok (rgs i (j - i).toNat, none, p.2) else .bad
  | _ => .bad
theorem walkD_range {K : Frag} {lo : Int} {n : Nat} {G2 Fs : Hp} : WalkD K (Itr lo n) (rgs lo n) G2 Fs := by
  have w : Walk (Itr lo n) (rgs lo n).length (fun H => Same G2 H ∧ Same Fs H) (YFn fun i => .int (lo + i)) := by
    rw [show (rgs lo n).length = n by simp [rgs]]
    exact walk_range.mono (fun _ _ => trivial) fun i H x H' _ _ y => y
  exact walkD_same w fun i H v H' F x s1 s2 s3 y e => by
    obtain ⟨e1, e2⟩ := y
    subst e2
    unfold rgs at e
    rw [List.getElem?_map] at e
    cases q : (List.range n)[i]? with
    | none => rw [q] at e; cases e
    | some j =>
      rw [q] at e
      have hj : j = i := by
        rw [List.getElem?_eq_some_iff] at q
        obtain ⟨hl, q⟩ := q
        rw [List.getElem_range] at q
        exact q.symm
      subst hj
      cases e
      exact ⟨e1, .int _⟩
section
variable {X : Cx} {E : WX} {tg e a b : Expr} {fe : FnE} {fa : FnA} {p pos : Pos}
theorem fi_list (he : FE X E e fe) : FI X E tg e (iL fe) := pi_imp (pi_list he) fun σ H Rk ⟨G, pn, F, Γ, R, h⟩ => by
  refine tE_op _ _ _ ⟨G, pn, F, Γ, R, ?_⟩
  unfold iL at h
  cases q : eOp fe Γ with
  | bad => rw [q] at h; exact h
  | exc x => rw [q] at h; exact h
  | ok p =>
    obtain ⟨rv, Γ1⟩ := p
    rw [q] at h
    intro v F1 H1 A1 R1 r1
    simp only [Rs.bind_ok] at h
    cases q2 : itemsL rv Γ1 with
    | none => simp only [q2] at h; exact h.elim
    | some p2 =>
      obtain ⟨xs, lk⟩ := p2
      simp only [q2] at h
      obtain ⟨a, vs, G2, rfl, hs, lkr, wd, _⟩ := itemsL_ok R1 r1 (eOp_still q) q2
      exact ⟨a, rfl, ⟨vs, hs⟩, h _ F1 H1 G2 A1 R1 lkr wd⟩
theorem fi_tup (he : FE X E e fe) : FI X E tg e (iT fe) := pi_imp (pi_tup he) fun σ H Rk ⟨G, pn, F, Γ, R, h⟩ => by
  refine tE_op _ _ _ ⟨G, pn, F, Γ, R, ?_⟩
  unfold iT at h
  cases q : eOp fe Γ with
  | bad => rw [q] at h; exact h
  | exc x => rw [q] at h; exact h
  | ok p =>
    obtain ⟨rv, Γ1⟩ := p
    rw [q] at h
    intro v F1 H1 A1 R1 r1
    simp only [Rs.bind_ok] at h
    split at h
    · rename_i xs e1
      obtain ⟨a, vs, rfl, h1, h2, h3⟩ := rv_tup R1 r1 e1
      exact ⟨a, rfl, ⟨vs, h1⟩, h _ F1 H1 G A1 R1 rfl (walkD_tup (fun H' s => sqT_same s.2 h3) h2)⟩
    · exact h.elim
theorem rvAll1 {K : Frag} {F : Hp} {σ : St} {vs : List V} {i : Int} (h : RvAll K F σ vs [.d (.int i)]) : vs = [.int i] := by
  cases h with
  | d h1 h2 => cases h1; cases h2; rfl
theorem rvAll2 {K : Frag} {F : Hp} {σ : St} {vs : List V} {i j : Int} (h : RvAll K F σ vs [.d (.int i), .d (.int j)]) : vs = [.int i, .int j] := by
  cases h with
  | d h1 h2 => cases h1; rw [rvAll1 h2]
theorem key_r1 {K : Frag} {mg : Str → Option Value} {E : WX} {fa : FnA} : ∀ σ H Rk, tI K mg E (iR1 fa) σ H Rk → iRng1 (tA K mg E fa) σ H Rk := fun σ H Rk ⟨G, pn, F, Γ, R, h⟩ => by
    refine ⟨G, pn, F, Γ, R, ?_⟩
    unfold iR1 at h
    cases q : fa Γ with
    | bad => rw [q] at h; exact h
    | exc x => rw [q] at h; exact h
    | ok p =>
      obtain ⟨rs, Γ1⟩ := p
      rw [q] at h
      intro vs F1 H1 A1 R1 r1
      simp only [Rs.bind_ok] at h
      split at h
      · rename_i j
        split at h
        · rename_i hz
          simp only [rgOk, Bool.and_eq_true, decide_eq_true_eq] at hz
          rw [rvAll1 r1]
          exact ⟨j, rfl, hz.1, hz.2, h _ F1 H1 G A1 R1 rfl walkD_range⟩
        · exact h.elim
      · exact h.elim
theorem fi_range1 (hg : Gl X "range") (hm : X.mg "range" = none) (ha : FA X E [a] fa) (hs : starEach [a] X.env = [(false, eval a X.env)] := by rfl) : FI X E tg (.Call (.Name "range" p) [a] [] pos) (iR1 fa) :=
  pi_imp (pi_range1 hg hm ha hs) key_r1
theorem fi_range2 (hg : Gl X "range") (hm : X.mg "range" = none) (ha : FA X E [a, b] fa) (hs : starEach [a, b] X.env = [(false, eval a X.env), (false, eval b X.env)] := by rfl) (hs2 : starEach [b] X.env = [(false, eval b X.env)] := by rfl) : FI X E tg (.Call (.Name "range" p) [a, b] [] pos) (iR2 fa) :=
  pi_imp (pi_range2 hg hm ha hs hs2) fun σ H Rk ⟨G, pn, F, Γ, R, h⟩ => by
    refine ⟨G, pn, F, Γ, R, ?_⟩
    unfold iR2 at h
    cases q : fa Γ with
    | bad => rw [q] at h; exact h
    | exc x => rw [q] at h; exact h
    | ok p =>
      obtain ⟨rs, Γ1⟩ := p
      rw [q] at h
      intro vs F1 H1 A1 R1 r1
      simp only [Rs.bind_ok] at h
      split at h
      · rename_i i j
        split at h
        · rename_i hz
          simp only [rgOk, Bool.and_eq_true, decide_eq_true_eq] at hz
          rw [rvAll2 r1]
          exact ⟨i, j, rfl, ⟨hz.1.1, hz.1.2, hz.2.1, hz.2.2⟩, h _ F1 H1 G A1 R1 rfl walkD_range⟩
        · exact h.elim
      · exact h.elim
end

/-! ### for -/
def loopF (g : FnG) (b : FnS) : List D → Ga → SR
  | [], Γ => .nx Γ
  | x :: xs, Γ => match g (.d x) Γ with
    | none => .bad
    | some Γ1 => match b Γ1 with
      | .nx Γ2 => loopF g b xs Γ2
      | .ct Γ2 => loopF g b xs Γ2
      | .bk Γ2 => .nx Γ2
      | .ret d Γ2 => .ret d Γ2
      | .exc e => .exc e
      | .bad => .bad
def unlk (i : Nat) (Γ : Ga) : Option Ga := match Γ[i]? with
  | some (some (.lk zs)) => some (Γ.set i (some (.ow zs)))
  | _ => none
def unl (i : Nat) : SR → SR
  | .nx Γ => (match unlk i Γ with | some Γ' => .nx Γ' | none => .bad)
  | .bk Γ => (match unlk i Γ with | some Γ' => .bk Γ' | none => .bad)
  | .ct Γ => (match unlk i Γ with | some Γ' => .ct Γ' | none => .bad)
  | .ret d Γ => (match unlk i Γ with | some Γ' => .ret d Γ' | none => .bad)
  | .exc e => .exc e
  | .bad => .bad
def shut (i : Nat) (Γ : Ga) : Ga := match Γ[i]? with
  | some (some (.ow ys)) => Γ.set i (some (.lk ys))
  | _ => Γ
def sFor (fi : FnI) (g : FnG) (b : FnS) : FnS := fun Γ => (fi Γ).toS fun p => match p.2.1 with
  | none => loopF g b p.1 p.2.2
  | some i => unl i (loopF g b p.1 (shut i p.2.2))
section
variable {K : Frag} {mg : Str → Option Value} {E : WX} {G G2 : Hp} {pn : List (Nat × Addr)} {Γ : Ga} {σ : St} {F F' H H' : Hp} {n : Nat} {Dn : Ends}
theorem Adv.weaken {a : Addr} {vs : List V} (h : Adv (upd G a (.lst vs)) F F') (hG : G a = none) : Adv G F F' := ⟨h.same, fun x hx => h.out x (by
  by_cases e : x = a
  · subst e; exact absurd hG hx
  · rw [upd_ne e]; exact hx)⟩
theorem same_sub {a : Addr} {vs : List V} (h : Same (upd G a (.lst vs)) H) (hG : G a = none) : Same G H := fun b o e => h b o (by rw [upd_ne (ne_of_none e hG)]; exact e)
theorem Rep.lock {i : Nat} {a : Addr} {vs : List V} {ys : List D} (R : Rep K G pn Γ σ F H) (e : Γ[i]? = some (some (.ow ys))) (hv : σ[i]? = some (some (.ref a))) (ha : H a = some (.lst vs)) (r : RpAll K F vs ys) (hF : F a = none) (hG : G a = none) :
    Rep K (upd G a (.lst vs)) ((i, a) :: pn) (Γ.set i (some (.lk ys))) σ F H where
  fh := R.fh
  gh := fun b o q => by
    by_cases hb : b = a
    · subst hb; rw [upd_same] at q; cases q; exact ha
    · rw [upd_ne hb] at q; exact R.gh _ _ q
  sl := fun j t q => by
    rcases get_set q with ⟨e1, e2, hl⟩ | ⟨e1, e2⟩
    · subst e1
      obtain rfl : t = _ := Option.some.inj e2
      exact ⟨_, hv, a, vs, rfl, upd_same, r, hF⟩
    · obtain ⟨u, q1, q2⟩ := R.sl j t e2
      refine ⟨u, q1, ?_⟩
      have other : ∀ b, u = .ref b → t.owned = true → b ≠ a := fun b eb ot z => by
        subst eb; subst z
        exact e1 (R.ap j i t _ b e2 e ot rfl q1 hv)
      cases t with
      | fz d => exact q2
      | ow xs =>
        obtain ⟨b, rfl, ws, h1, h2, h3, h4⟩ := q2
        exact ⟨b, rfl, ws, h1, h2, h3, by rw [upd_ne (other b rfl rfl)]; exact h4⟩
      | io xs =>
        obtain ⟨b, rfl, ws, h1, h2, h3, h4⟩ := q2
        exact ⟨b, rfl, ws, h1, h2, h3, by rw [upd_ne (other b rfl rfl)]; exact h4⟩
      | lk xs =>
        obtain ⟨b, ws, rfl, h1, h2, h3⟩ := q2
        exact ⟨b, ws, rfl, by rw [upd_ne (other b rfl rfl)]; exact h1, h2, h3⟩
      | scr ns => exact q2
      | ex a c => exact q2
  ap := fun j k sj sk b e1 e2 o1 o2 q1 q2 => by
    have f : ∀ (j : Nat) (sj : Sl), (Γ.set i (some (.lk ys)))[j]? = some (some sj) → sj.owned = true → ∃ t, Γ[j]? = some (some t) ∧ t.owned = true := fun j sj q o => by
      rcases get_set q with ⟨z1, z2, hl⟩ | ⟨z1, z2⟩
      · subst z1
        exact ⟨_, e, rfl⟩
      · exact ⟨sj, z2, o⟩
    obtain ⟨t1, y1, y2⟩ := f j sj e1 o1
    obtain ⟨t2, y3, y4⟩ := f k sk e2 o2
    exact R.ap j k t1 t2 b y1 y3 y2 y4 q1 q2
  pn := fun p hp => by
    have hl : i < Γ.length := by
      rcases Nat.lt_or_ge i Γ.length with h | h
      · exact h
      · rw [List.getElem?_eq_none h] at e; cases e
    rcases List.mem_cons.mp hp with z | z
    · subst z
      exact ⟨hv, _, by rw [List.getElem?_set_self hl], rfl⟩
    · obtain ⟨q1, t, q2, q3⟩ := R.pn p z
      refine ⟨q1, ?_⟩
      by_cases y : p.1 = i
      · rw [y, List.getElem?_set_self hl]
        exact ⟨_, rfl, rfl⟩
      · exact ⟨t, by rw [List.getElem?_set_ne (Ne.symm y)]; exact q2, q3⟩
  len := by simp [R.len]
  lkp := fun j zs q => by
    rcases get_set q with ⟨z1, z2, hl⟩ | ⟨z1, z2⟩
    · subst z1; exact ⟨a, List.mem_cons_self⟩
    · obtain ⟨b, hb⟩ := R.lkp j zs z2
      exact ⟨b, List.mem_cons_of_mem _ hb⟩
theorem Rep.unlock {i : Nat} {a : Addr} {vs : List V} {Γ' : Ga} (R : Rep K (upd G a (.lst vs)) ((i, a) :: pn) Γ σ F H) (hp : ∀ p ∈ pn, p.1 ≠ i) (hG : G a = none) (e : unlk i Γ = some Γ') : Rep K G pn Γ' σ F H := by
  unfold unlk at e
  split at e
  · rename_i zs q
    cases e
    obtain ⟨hv, _⟩ := R.pn (i, a) List.mem_cons_self
    obtain ⟨u, q1, b, ws, rfl, h1, h2, h3⟩ := R.sl i _ q
    have eb : a = b := by
      have := hv.symm.trans q1
      cases this
      rfl
    subst eb
    rw [upd_same] at h1
    cases h1
    exact {
      fh := R.fh
      gh := same_sub R.gh hG
      sl := fun j t z => by
        rcases get_set z with ⟨e1, e2, hl⟩ | ⟨e1, e2⟩
        · subst e1
          obtain rfl : t = _ := Option.some.inj e2
          exact ⟨_, hv, a, rfl, vs, R.gh _ _ upd_same, h2, h3, hG⟩
        · obtain ⟨u, q1', q2⟩ := R.sl j t e2
          refine ⟨u, q1', ?_⟩
          have other : ∀ b, u = .ref b → t.owned = true → b ≠ a := fun b eb ot z => by
            subst eb; subst z
            exact e1 (R.ap j i t _ b e2 q ot rfl q1' hv)
          cases t with
          | fz d => exact q2
          | ow xs =>
            obtain ⟨b, rfl, ws, h1, h2, h3, h4⟩ := q2
            exact ⟨b, rfl, ws, h1, h2, h3, by rw [upd_ne (other b rfl rfl)] at h4; exact h4⟩
          | io xs =>
            obtain ⟨b, rfl, ws, h1, h2, h3, h4⟩ := q2
            exact ⟨b, rfl, ws, h1, h2, h3, by rw [upd_ne (other b rfl rfl)] at h4; exact h4⟩
          | lk xs =>
            obtain ⟨b, ws, rfl, h1, h2, h3⟩ := q2
            exact ⟨b, ws, rfl, by rw [upd_ne (other b rfl rfl)] at h1; exact h1, h2, h3⟩
          | scr ns => exact q2
          | ex a c => exact q2
      ap := fun j k sj sk b e1 e2 o1 o2 q1 q2 => by
        have f : ∀ (j : Nat) (sj : Sl), (Γ.set i (some (.ow zs)))[j]? = some (some sj) → sj.owned = true → ∃ t, Γ[j]? = some (some t) ∧ t.owned = true := fun j sj z o => by
          rcases get_set z with ⟨z1, z2, hl⟩ | ⟨z1, z2⟩
          · subst z1
            exact ⟨_, q, rfl⟩
          · exact ⟨sj, z2, o⟩
        obtain ⟨t1, y1, y2⟩ := f j sj e1 o1
        obtain ⟨t2, y3, y4⟩ := f k sk e2 o2
        exact R.ap j k t1 t2 b y1 y3 y2 y4 q1 q2
      pn := fun p hp' => by
        obtain ⟨q1, t, q2, q3⟩ := R.pn p (List.mem_cons_of_mem _ hp')
        exact ⟨q1, t, by rw [List.getElem?_set_ne (Ne.symm (hp p hp'))]; exact q2, q3⟩
      len := by simp [R.len]
      lkp := fun j ws z => by
        rcases get_set z with ⟨z1, z2, hl⟩ | ⟨z1, z2⟩
        · cases z2
        · obtain ⟨b, hb⟩ := R.lkp j ws z2
          rcases List.mem_cons.mp hb with y | y
          · cases y; exact absurd rfl z1
          · exact ⟨b, y⟩ }
  · cases e
theorem post_unl {i : Nat} {a : Addr} {vs : List V} {r : SR} (hp : ∀ p ∈ pn, p.1 ≠ i) (hG : G a = none) (h : PostS K mg E G pn n F Dn (unl i r)) : PostS K mg E (upd G a (.lst vs)) ((i, a) :: pn) n F Dn r := by
  cases r with
  | nx Γ =>
    cases e : unlk i Γ with
    | none => simp only [unl, e] at h; exact h.elim
    | some Γ' => simp only [unl, e] at h; exact fun σ' F2 H2 A R l => h σ' F2 H2 (A.weaken hG) (R.unlock hp hG e) l
  | bk Γ =>
    cases e : unlk i Γ with
    | none => simp only [unl, e] at h; exact h.elim
    | some Γ' => simp only [unl, e] at h; exact fun σ' F2 H2 A R l => h σ' F2 H2 (A.weaken hG) (R.unlock hp hG e) l
  | ct Γ =>
    cases e : unlk i Γ with
    | none => simp only [unl, e] at h; exact h.elim
    | some Γ' => simp only [unl, e] at h; exact fun σ' F2 H2 A R l => h σ' F2 H2 (A.weaken hG) (R.unlock hp hG e) l
  | ret d Γ =>
    cases e : unlk i Γ with
    | none => simp only [unl, e] at h; exact h.elim
    | some Γ' => simp only [unl, e] at h; exact fun v σ' F2 H2 A R l => h v σ' F2 H2 (A.weaken hG) (R.unlock hp hG e) l
  | exc e => exact fun c d σ' F2 H2 l A s1 s2 x => h c d σ' F2 H2 l (A.weaken hG) s1 (same_sub s2 hG) x
  | bad => exact h
/-- the loop, once its items are known -/
theorem loop_ok {J : It} {xs : List D} {g : FnG} {b : FnS} (w : WalkD K J xs G2 F) (R : Rep K G2 pn Γ σ F H) (h : PostS K mg E G2 pn σ.length F Dn (loopF g b xs Γ)) :
    ∃ W : Nat → Nat → St → Hp → Prop, (∃ m, W 0 m σ H) ∧ ∀ i m σ H, W i m σ H →
      (J.stop i H ∧ Dn.nx σ H) ∨ (J.go i H ∧ ∃ N : St → Hp → Prop, (∀ σ' H', N σ' H' → ∃ m', m' < m ∧ W (i + 1) m' σ' H') ∧ ∀ x H', J.yld i H x H' → tG K g x σ H' fun σ2 H2 => tS K mg E b { Dn with nx := N, ct := N, bk := Dn.nx } σ2 H2) := by
  obtain ⟨Y, wk, yl⟩ := w
  refine for_it wk (fun i σ' H' => ∃ F' Γ', Adv G2 F F' ∧ Rep K G2 pn Γ' σ' F' H' ∧ σ'.length = σ.length ∧ PostS K mg E G2 pn σ.length F' Dn (loopF g b (xs.drop i) Γ')) ⟨F, Γ, Adv.refl G2 F, R, rfl, h⟩ ?_ ?_ ?_
  · rintro i σ' H' _ ⟨F', Γ', A, R', _, _⟩
    exact ⟨R'.gh, fun x o e => R'.fh x o (A.same x o e)⟩
  · rintro i v σ' H1 H2 hi ⟨F', Γ', A, R', l, p⟩ y
    have e : xs[i]? = some xs[i] := List.getElem?_eq_getElem hi
    obtain ⟨F2, A2, rp, nw⟩ := yl i H1 v H2 F' G2 xs[i] A.same R'.fh R'.gh R'.gh y e
    have R2 : Rep K G2 pn Γ' σ' F2 H2 := by
      rcases nw with ⟨e1, e2⟩ | ⟨p, o, hp, e1, e2⟩
      · rw [e1, e2]; exact R'
      · rw [e1, e2]; exact R'.newF hp
    refine ⟨G2, pn, F2, Γ', .d xs[i], R2, rp, ?_⟩
    rw [List.drop_eq_getElem_cons hi] at p
    unfold loopF at p
    cases q : g (.d xs[i]) Γ' with
    | none => simp only [q] at p; exact p
    | some Γ1 =>
      simp only [q] at p
      intro σ3 F3 H3 A3 R3 l3
      refine ⟨G2, pn, F3, Γ1, R3, ?_⟩
      have Aall : Adv G2 F' F3 := A2.trans A3
      have ll : σ3.length = σ.length := l3.trans l
      rw [ll]
      cases q2 : b Γ1 with
      | nx Γ2 => simp only [q2] at p; exact fun σ4 F4 H4 A4 R4 l4 => ⟨F4, Γ2, (A.trans Aall).trans A4, R4, l4, p.adv (Aall.trans A4)⟩
      | ct Γ2 => simp only [q2] at p; exact fun σ4 F4 H4 A4 R4 l4 => ⟨F4, Γ2, (A.trans Aall).trans A4, R4, l4, p.adv (Aall.trans A4)⟩
      | bk Γ2 => simp only [q2] at p; exact fun σ4 F4 H4 A4 R4 l4 => p σ4 F4 H4 (Aall.trans A4) R4 l4
      | ret d Γ2 => simp only [q2] at p; exact fun v σ4 F4 H4 A4 R4 r4 => p v σ4 F4 H4 (Aall.trans A4) R4 r4
      | exc e => simp only [q2] at p; exact PostXS.adv p Aall
      | bad => simp only [q2] at p; exact p
  · rintro σ' H' ⟨F', Γ', A, R', l, p⟩
    rw [List.drop_length] at p
    exact p σ' F' H' (Adv.refl G2 F') R' l
end
theorem pinned_ne {K : Frag} {G : Hp} {pn : List (Nat × Addr)} {Γ : Ga} {σ : St} {F H : Hp} {i : Nat} {ys : List D} (R : Rep K G pn Γ σ F H) (e : Γ[i]? = some (some (.ow ys))) : ∀ p ∈ pn, p.1 ≠ i := fun p hp z => by
  obtain ⟨_, t, q2, q3⟩ := R.pn p hp
  rw [z, e] at q2
  cases q2
  cases q3
section
variable {X : Cx} {E : WX} {tg iter : Expr} {body : List Stmt} {fi : FnI} {g : FnG} {b : FnS} {pos : Pos}
theorem fs_for (hp : PassesOwn (model X.prog X.w) X.A X.env X.xe) (hc : X.calm = true) (hi : FI X E tg iter fi) (hg : FG X tg g) (hb : FSs X E body b) (hs : ∀ x, foldedSetIterable iter X.env x = pure x := by intro _; rfl) :
    FS X E (.For tg iter body [] pos) (sFor fi g b) := ps_imp (ps_for hp hc hi hg hb hs) fun Dn σ H ⟨G, pn, F, Γ, R, h⟩ => by
  refine ⟨G, pn, F, Γ, R, ?_⟩
  unfold sFor at h
  cases q : fi Γ with
  | bad => rw [q] at h; exact h
  | exc x => rw [q] at h; exact h.at
  | ok p =>
    obtain ⟨xs, lk, Γ1⟩ := p
    rw [q] at h
    intro J F1 H1 G2 A1 R1 lkr wd
    simp only [Rs.toS_ok] at h
    cases lk with
    | none =>
      cases lkr
      exact loop_ok wd R1 (h.adv A1)
    | some i =>
      obtain ⟨a, vs, ys, rfl, e1, e2, e3, e4, e5, e6⟩ := lkr
      have es : shut i Γ1 = Γ1.set i (some (.lk ys)) := by
        unfold shut
        rw [e1]
      simp only at h
      rw [es] at h
      exact loop_ok wd (R1.lock e1 e2 e3 e4 e5 e6) (post_unl (pinned_ne R1 e1) e6 (h.adv A1))
end

end FL

/-! FW: while. -/
namespace FL
open PySem PySem.Spec L2

/-! ### while -/
def whileN (t : FnT) (b : FnS) : Nat → Ga → SR
  | 0, _ => .bad
  | n + 1, Γ => (t Γ).toS fun p => if p.1 then (match b p.2 with
      | .nx Γ2 => whileN t b n Γ2
      | .ct Γ2 => whileN t b n Γ2
      | .bk Γ2 => .nx Γ2
      | .ret d Γ2 => .ret d Γ2
      | .exc e => .exc e
      | .bad => .bad) else .nx p.2
def SR.isBad : SR → Bool
  | .bad => true
  | _ => false
/-- one turn of it, what follows told -/
def whileT (t : FnT) (b : FnS) (k : Ga → SR) (Γ : Ga) : SR := (t Γ).toS fun p => if p.1 then (match b p.2 with
      | .nx Γ2 => k Γ2
      | .ct Γ2 => k Γ2
      | .bk Γ2 => .nx Γ2
      | .ret d Γ2 => .ret d Γ2
      | .exc e => .exc e
      | .bad => .bad) else .nx p.2
theorem whileN_succ {t : FnT} {b : FnS} {n : Nat} {Γ : Ga} : whileN t b (n + 1) Γ = whileT t b (whileN t b n) Γ := rfl
theorem whileT_congr {t : FnT} {b : FnS} {k k' : Ga → SR} {Γ : Ga} (hk : ∀ Γ, (k Γ).isBad = false → k' Γ = k Γ) (h : (whileT t b k Γ).isBad = false) : whileT t b k' Γ = whileT t b k Γ := by
  unfold whileT at h ⊢
  cases q : t Γ with
  | bad => rfl
  | exc e => rfl
  | ok p =>
    obtain ⟨c, Γ1⟩ := p
    rw [q] at h
    cases c with
    | false => rfl
    | true =>
      simp only [Rs.toS_ok, if_true] at h ⊢
      cases q2 : b Γ1 with
      | nx Γ2 => simp only [q2] at h ⊢; exact hk _ h
      | ct Γ2 => simp only [q2] at h ⊢; exact hk _ h
      | _ => rfl
theorem whileN_up {t : FnT} {b : FnS} : ∀ {n : Nat} {Γ : Ga}, (whileN t b n Γ).isBad = false → whileN t b (n + 1) Γ = whileN t b n Γ
  | 0, Γ, h => by cases h
  | n + 1, Γ, h => by
    rw [whileN_succ] at h ⊢
    rw [whileN_succ (n := n)]
    exact whileT_congr (fun Γ' h' => whileN_up h') h
theorem whileN_le {t : FnT} {b : FnS} {n m : Nat} {Γ : Ga} (h : (whileN t b n Γ).isBad = false) (hm : n ≤ m) : whileN t b m Γ = whileN t b n Γ := by
  induction hm with
  | refl => rfl
  | step _ ih => rw [whileN_up (by rw [ih]; exact h), ih]
open Classical in
/-- while: what some number of turns comes to -/
noncomputable def sWhile (t : FnT) (b : FnS) : FnS := fun Γ => if h : ∃ n, (whileN t b n Γ).isBad = false then whileN t b (Classical.choose h) Γ else .bad
theorem sWhile_eq {t : FnT} {b : FnS} {n : Nat} {Γ : Ga} (h : (whileN t b n Γ).isBad = false) : sWhile t b Γ = whileN t b n Γ := by
  unfold sWhile
  have hx : ∃ n, (whileN t b n Γ).isBad = false := ⟨n, h⟩
  rw [dif_pos hx]
  have h2 := Classical.choose_spec hx
  rcases Nat.le_total n (Classical.choose hx) with l | l
  · exact whileN_le h l
  · exact (whileN_le h2 l).symm
theorem sWhile_some {t : FnT} {b : FnS} {Γ : Ga} (h : (sWhile t b Γ).isBad = false) : ∃ n, sWhile t b Γ = whileN t b n Γ := by
  unfold sWhile at h ⊢
  split
  · exact ⟨_, rfl⟩
  · rename_i hn
    rw [dif_neg hn] at h
    cases h
section
variable {X : Cx} {E : WX} {c : Expr} {body : List Stmt} {ft : FnT} {b : FnS} {pos : Pos}
theorem fs_while (hp : PassesOwn (model X.prog X.w) X.A X.env X.xe) (hc : FT X E c ft) (hb : FSs X E body b) : FS X E (.While c body [] pos) (sWhile ft b) := ps_imp (ps_while hp hc hb) fun Dn σ H ⟨G, pn, F, Γ, R, h⟩ => by
  have nb : (sWhile ft b Γ).isBad = false := by
    cases q : sWhile ft b Γ with
    | bad => rw [q] at h; exact h.elim
    | _ => rfl
  obtain ⟨n, e⟩ := sWhile_some nb
  rw [e] at h
  refine ⟨fun m σ' H' => ∃ F' Γ', Rep X.K G pn Γ' σ' F' H' ∧ σ'.length = σ.length ∧ PostS X.K X.mg E G pn σ.length F' Dn (whileN ft b m Γ'), ⟨n, F, Γ, R, rfl, h⟩, ?_⟩
  rintro m σ' H' ⟨F', Γ', R', l, p⟩
  refine ⟨G, pn, F', Γ', R', ?_⟩
  cases m with
  | zero => exact p.elim
  | succ m =>
    unfold whileN at p
    cases q : ft Γ' with
    | bad => rw [q] at p; exact p
    | exc e => rw [q] at p; exact (show PostXS X.K X.mg E G σ'.length F' e by rw [l]; exact p).at
    | ok p2 =>
      obtain ⟨k, Γ1⟩ := p2
      rw [q] at p
      intro F1 H1 A1 R1
      simp only [Rs.toS_ok] at p
      cases k with
      | false =>
        rw [if_neg Bool.false_ne_true] at p ⊢
        exact p σ' F1 H1 A1 R1 l
      | true =>
        rw [if_pos rfl] at p ⊢
        refine ⟨fun σ2 H2 => ∃ F2 Γ2, Rep X.K G pn Γ2 σ2 F2 H2 ∧ σ2.length = σ.length ∧ PostS X.K X.mg E G pn σ.length F2 Dn (whileN ft b m Γ2), fun σ2 H2 hN => ⟨m, Nat.lt_succ_self m, hN⟩, G, pn, F1, Γ1, R1, ?_⟩
        rw [l]
        cases q2 : b Γ1 with
        | nx Γ2 => simp only [q2] at p; exact fun σ4 F4 H4 A4 R4 l4 => ⟨F4, Γ2, R4, l4, p.adv (A1.trans A4)⟩
        | ct Γ2 => simp only [q2] at p; exact fun σ4 F4 H4 A4 R4 l4 => ⟨F4, Γ2, R4, l4, p.adv (A1.trans A4)⟩
        | bk Γ2 => simp only [q2] at p; exact fun σ4 F4 H4 A4 R4 l4 => p σ4 F4 H4 (A1.trans A4) R4 l4
        | ret d Γ2 => simp only [q2] at p; exact fun v σ4 F4 H4 A4 R4 r4 => p v σ4 F4 H4 (A1.trans A4) R4 r4
        | exc e => simp only [q2] at p; exact PostXS.adv p A1
        | bad => simp only [q2] at p; exact p
end
end FL

/-! FLc: list comprehensions. -/
namespace FL
open PySem PySem.Spec L2

abbrev EN : WX := fun _ _ _ _ => False
/-! ### slots wiped -/
def wipeG (Γ : Ga) : List Nat → Ga
  | [] => Γ
  | v :: vs => (wipeG Γ vs).set v none
theorem wipe_at {σ : St} {i : Nat} : ∀ {vs : List Nat}, (wipe σ vs)[i]? = if i ∈ vs ∧ i < σ.length then some none else σ[i]?
  | [] => by simp [wipe]
  | v :: vs => by
    unfold wipe
    rw [List.getElem?_set, wipe_length, wipe_at]
    by_cases e : v = i
    · subst e
      by_cases hl : v < σ.length
      · simp [hl]
      · simp [hl, List.getElem?_eq_none (Nat.le_of_not_lt hl)]
    · have e' : ¬ i = v := fun z => e z.symm
      simp [e, e']
theorem wipeG_length (Γ : Ga) : ∀ vs : List Nat, (wipeG Γ vs).length = Γ.length
  | [] => rfl
  | v :: vs => by unfold wipeG; rw [List.length_set, wipeG_length Γ vs]
theorem wipeG_at {Γ : Ga} {i : Nat} : ∀ {vs : List Nat}, (wipeG Γ vs)[i]? = if i ∈ vs ∧ i < Γ.length then some none else Γ[i]?
  | [] => by simp [wipeG]
  | v :: vs => by
    unfold wipeG
    rw [List.getElem?_set, wipeG_length, wipeG_at]
    by_cases e : v = i
    · subst e
      by_cases hl : v < Γ.length
      · simp [hl]
      · simp [hl, List.getElem?_eq_none (Nat.le_of_not_lt hl)]
    · have e' : ¬ i = v := fun z => e z.symm
      simp [e, e']
theorem wipe_set {σ : St} {i : Nat} {y : Option V} {vs : List Nat} (h : i ∈ vs) : wipe (σ.set i y) vs = wipe σ vs := by
  apply List.ext_getElem?
  intro j
  rw [wipe_at, wipe_at, List.length_set, List.getElem?_set]
  by_cases e : i = j
  · subst e
    by_cases hl : i < σ.length
    · simp [h, hl]
    · simp [hl, List.getElem?_eq_none (Nat.le_of_not_lt hl)]
  · simp [e]
theorem wipe_wipe {σ : St} {vs : List Nat} : wipe (wipe σ vs) vs = wipe σ vs := by
  apply List.ext_getElem?
  intro j
  rw [wipe_at, wipe_at, wipe_length]
  by_cases h : j ∈ vs ∧ j < σ.length
  · simp [h]
  · rw [if_neg h]
section
variable {K : Frag} {G : Hp} {pn : List (Nat × Addr)} {Γ Γ' : Ga} {σ σ' : St} {F F' H H' : Hp}
/-- may these slots be wiped: none owns a list -/
def plainAt (Γ : Ga) (i : Nat) : Bool := match Γ[i]? with
  | some (some s) => !s.owned
  | _ => true
theorem pinned_owned {s : Sl} (h : s.pinned = true) : s.owned = true := by cases s <;> first | rfl | cases h
theorem Rep.wipe {vs : List Nat} (R : Rep K G pn Γ σ F H) (h : ∀ p ∈ pn, p.1 ∉ vs) : Rep K G pn (wipeG Γ vs) (L2.wipe σ vs) F H where
  fh := R.fh
  gh := R.gh
  sl := fun i s e => by
    rw [wipeG_at] at e
    split at e
    · cases e
    · rename_i hn
      obtain ⟨v, e1, e2⟩ := R.sl i s e
      exact ⟨v, by rw [wipe_at, ← R.len, if_neg hn]; exact e1, e2⟩
  ap := fun i j si sj a e1 e2 o1 o2 q1 q2 => by
    rw [wipeG_at] at e1 e2
    rw [wipe_at] at q1 q2
    split at e1
    · cases e1
    · split at e2
      · cases e2
      · rename_i h1 h2
        rw [← R.len, if_neg h1] at q1
        rw [← R.len, if_neg h2] at q2
        exact R.ap i j si sj a e1 e2 o1 o2 q1 q2
  pn := fun p hp => by
    obtain ⟨q1, s, q2, q3⟩ := R.pn p hp
    have hn : ¬ (p.1 ∈ vs ∧ p.1 < σ.length) := fun z => h p hp z.1
    have hn2 : ¬ (p.1 ∈ vs ∧ p.1 < Γ.length) := fun z => h p hp z.1
    exact ⟨by rw [wipe_at, if_neg hn]; exact q1, s, by rw [wipeG_at, if_neg hn2]; exact q2, q3⟩
  len := by rw [wipe_length, wipeG_length]; exact R.len
  lkp := fun j zs e => by
    rw [wipeG_at] at e
    split at e
    · cases e
    · exact R.lkp j zs e
theorem Rep.cast {σ' : St} (R : Rep K G pn Γ σ F H) (e : σ = σ') : Rep K G pn Γ σ' F H := e ▸ R
/-- the slots that were wiped are as they were -/
def mend (Γ0 Γ : Ga) (vs : List Nat) : Ga := (List.range Γ.length).map fun i => if i ∈ vs then (Γ0[i]?).getD none else (Γ[i]?).getD none
theorem mend_at {Γ0 Γ : Ga} {vs : List Nat} {i : Nat} {s : Sl} (h : (mend Γ0 Γ vs)[i]? = some (some s)) : i < Γ.length ∧ ((i ∈ vs ∧ Γ0[i]? = some (some s)) ∨ (i ∉ vs ∧ Γ[i]? = some (some s))) := by
  unfold mend at h
  rw [List.getElem?_map] at h
  cases q : (List.range Γ.length)[i]? with
  | none => rw [q] at h; cases h
  | some j =>
    rw [List.getElem?_eq_some_iff] at q
    obtain ⟨hl, q⟩ := q
    rw [List.getElem_range] at q
    subst q
    rw [List.length_range] at hl
    rw [List.getElem?_eq_getElem (by simpa using hl)] at h
    simp only [List.getElem_range, Option.map_some] at h
    refine ⟨hl, ?_⟩
    split at h
    · rename_i hv
      refine .inl ⟨hv, ?_⟩
      cases q2 : Γ0[i]? with
      | none => rw [q2] at h; cases h
      | some o => rw [q2] at h; simpa using h
    · rename_i hv
      refine .inr ⟨hv, ?_⟩
      cases q2 : Γ[i]? with
      | none => rw [q2] at h; cases h
      | some o => rw [q2] at h; simpa using h
theorem Rep.mend {vs : List Nat} {G0 F0 H0 : Hp} {Γ0 : Ga} (R0 : Rep K G0 pn Γ0 σ F0 H0) (R : Rep K G pn Γ (L2.wipe σ vs) F H) (A : Same F0 F) (hp : ∀ v ∈ vs, plainAt Γ0 v = true) : Rep K G pn (mend Γ0 Γ vs) σ F H where
  fh := R.fh
  gh := R.gh
  sl := fun i s e => by
    rcases mend_at e with ⟨hl, ⟨h1, h2⟩ | ⟨h1, h2⟩⟩
    · obtain ⟨v, q1, q2⟩ := R0.sl i s h2
      refine ⟨v, q1, ?_⟩
      have np := hp i h1
      unfold plainAt at np
      rw [h2] at np
      cases s with
      | fz d => exact Rp.mono A q2
      | scr ns => obtain ⟨a, rfl, q3⟩ := q2; exact ⟨a, rfl, q3.mono A⟩
      | ex a c => exact q2
      | _ => cases np
    · obtain ⟨v, q1, q2⟩ := R.sl i s h2
      rw [wipe_at, if_neg (fun z => h1 z.1)] at q1
      exact ⟨v, q1, q2⟩
  ap := fun i j si sj a e1 e2 o1 o2 q1 q2 => by
    have f : ∀ (i : Nat) (s : Sl), (FL.mend Γ0 Γ vs)[i]? = some (some s) → s.owned = true → i ∉ vs ∧ Γ[i]? = some (some s) := fun i s e o => by
      rcases mend_at e with ⟨hl, ⟨h1, h2⟩ | ⟨h1, h2⟩⟩
      · have np := hp i h1
        unfold plainAt at np
        rw [h2] at np
        simp [o] at np
      · exact ⟨h1, h2⟩
    obtain ⟨n1, y1⟩ := f i si e1 o1
    obtain ⟨n2, y2⟩ := f j sj e2 o2
    exact R.ap i j si sj a y1 y2 o1 o2 (by rw [wipe_at, if_neg (fun z => n1 z.1)]; exact q1) (by rw [wipe_at, if_neg (fun z => n2 z.1)]; exact q2)
  pn := fun p hp' => by
    obtain ⟨q1, s, q2, q3⟩ := R.pn p hp'
    have hn : p.1 ∉ vs := fun hv => by
      obtain ⟨_, t, q4, q5⟩ := R0.pn p hp'
      have np := hp p.1 hv
      unfold plainAt at np
      rw [q4] at np
      simp [pinned_owned q5] at np
    rw [wipe_at, if_neg (fun z => hn z.1)] at q1
    refine ⟨q1, s, ?_, q3⟩
    have hl : p.1 < Γ.length := by
      rcases Nat.lt_or_ge p.1 Γ.length with h | h
      · exact h
      · rw [List.getElem?_eq_none h] at q2; cases q2
    unfold FL.mend
    rw [List.getElem?_map, List.getElem?_eq_getElem (by simpa using hl)]
    simp [hn, q2]
  len := by
    have := R.len
    rw [wipe_length] at this
    simp [FL.mend, this]
  lkp := fun j zs e => by
    rcases mend_at e with ⟨hl, ⟨h1, h2⟩ | ⟨h1, h2⟩⟩
    · exact R0.lkp j zs h2
    · exact R.lkp j zs h2
end

/-! ### targets within a block -/
def tGv (K : Frag) (vs : List Nat) (g : FnG) : TG := fun v σ H Qs => ∃ G pn F Γ rv, Rep K G pn Γ σ F H ∧ RvR K G F H Γ σ v rv ∧ match g rv Γ with
  | some Γ' => ∀ σ' F' H', Adv G F F' → Rep K G pn Γ' σ' F' H' → σ'.length = σ.length → L2.wipe σ' vs = L2.wipe σ vs → Qs σ' H'
  | none => False
def tGvs (K : Frag) (vs : List Nat) (g : FnGs) : TGs := fun us σ H Qs => ∃ G pn F Γ ds, Rep K G pn Γ σ F H ∧ RpAll K F us ds ∧ match g ds Γ with
  | some Γ' => ∀ σ' F' H', Adv G F F' → Rep K G pn Γ' σ' F' H' → σ'.length = σ.length → L2.wipe σ' vs = L2.wipe σ vs → Qs σ' H'
  | none => False
abbrev FGv (X : Cx) (vs : List Nat) (tg : Expr) (g : FnG) : Prop := PG X tg (tGv X.K vs g)
abbrev FGvs (X : Cx) (vs : List Nat) (tg : List Expr) (g : FnGs) : Prop := PGs X tg (tGvs X.K vs g)
section
variable {X : Cx} {vs : List Nat} {e : Expr} {es : List Expr} {g : FnG} {gs : FnGs} {pos : Pos}
theorem fgv_name {i : Nat} (h : PG X e (gName i)) (hi : i ∈ vs) : FGv X vs e (gN i) := pg_imp h fun v σ H Q ⟨G, pn, F, Γ, rv, R, rr, q⟩ => by
  cases e1 : gN i rv Γ with
  | none => simp only [e1] at q
  | some Γ' =>
    simp only [e1] at q
    obtain ⟨F', A, R'⟩ := gN_ok R rr e1
    exact q _ F' H A R' (by simp) (wipe_set hi)
theorem fgvs_nil : FGvs X vs [] gsNil := pgs_imp pgs_nil fun us σ H Q ⟨G, pn, F, Γ, ds, R, rr, q⟩ => by
  cases ds with
  | nil => cases rr; exact ⟨rfl, q σ F H (Adv.refl G F) R rfl rfl⟩
  | cons d r => exact q.elim
theorem fgvs_cons (h1 : FGv X vs e g) (h2 : FGvs X vs es gs) (hs : (assignEach (e :: es) X.env).map (·.2) = assign e X.env :: (assignEach es X.env).map (·.2) := by rfl) : FGvs X vs (e :: es) (gsCons g gs) :=
  pgs_imp (pgs_cons h1 h2 hs) fun us σ H Q ⟨G, pn, F, Γ, ds, R, rr, q⟩ => by
    cases ds with
    | nil => exact q.elim
    | cons d r =>
      cases rr with
      | cons r1 r2 =>
        unfold gsCons at q
        simp only at q
        refine ⟨_, _, rfl, G, pn, F, Γ, .d d, R, r1, ?_⟩
        cases e1 : g (.d d) Γ with
        | none => rw [e1] at q; exact q.elim
        | some Γ1 =>
          rw [e1] at q
          simp only [Option.bind_some] at q
          intro σ' F' H' A R' l w
          refine ⟨G, pn, F', Γ1, r, R', RpAll.mono A.same r2, ?_⟩
          cases e2 : gs r Γ1 with
          | none => simp only [e2] at q
          | some Γ2 =>
            simp only [e2] at q ⊢
            exact fun σ2 F2 H2 A2 R2 l2 w2 => q σ2 F2 H2 (A.trans A2) R2 (l2.trans l) (w2.trans w)
theorem fgv_tup {k n : Nat} (hc : X.calm = true) (h : FGvs X vs es gs) (hl : ∀ ds Γ Γ', gs ds Γ = some Γ' → ds.length = n) (hn : (assignEach es X.env).length = n := by rfl) (hst : (assignEach es X.env).findIdx? (·.1) = none := by rfl) :
    FGv X vs (.Tuple es k pos) (gT gs) := pg_imp (pg_tup hc h hn hst) fun v σ H Q ⟨G, pn, F, Γ, rv, R, rr, q⟩ => by
  unfold gT at q
  cases rv with
  | ow xs => exact q.elim
  | sl i => exact q.elim
  | d x =>
    cases x with
    | tuple ds =>
      simp only at q
      cases rr with
      | tup h1 h2 =>
        refine ⟨_, _, rfl, sqT_same R.fh h1, ?_, G, pn, F, Γ, ds, R, h2, q⟩
        cases e1 : gs ds Γ with
        | none => simp only [e1] at q
        | some Γ' => rw [h2.len]; exact hl _ _ _ e1
    | _ => exact q.elim
end

/-! ### tests of a comprehension -/
def tOk : FnT := fun Γ => .ok (true, Γ)
abbrev FTs (X : Cx) (E : WX) (ifs : List Expr) (f : FnT) : Prop := PTs X ifs (tT X.K X.mg E f)
theorem fts_nil {X : Cx} {E : WX} : FTs X E [] tOk := ⟨fun pins s σ H Q I ⟨G, pn, F, Γ, R, h⟩ => pts_nil.run pins s σ H Q I (h F H (Adv.refl G F) R)⟩
theorem fts_one {X : Cx} {E : WX} {c : Expr} {f : FnT} (h : FT X E c f) : FTs X E [c] f := pts_one h

/-! ### the comprehension -/
def lcF (vs : List Nat) (g : FnG) (t : FnT) (f : FnE) : List D → List D → Ga → Rs (List D × Ga)
  | [], acc, Γ => .ok (acc, Γ)
  | x :: xs, acc, Γ => match g (.d x) Γ with
    | none => .bad
    | some Γ1 => (t Γ1).bind fun p => if p.1 then (f p.2).bind fun q => (match rvFz q.2 q.1 with
        | some (y, Γ3) => if acc.length < lim then lcF vs g t f xs (acc ++ [y]) (wipeG Γ3 vs) else .bad
        | none => .bad) else lcF vs g t f xs acc (wipeG p.2 vs)
def eLc (fi : FnI) (vs : List Nat) (g : FnG) (t : FnT) (f : FnE) : FnE := fun Γ => (fi Γ).bind fun p =>
  let Γ1 := match p.2.1 with
    | none => p.2.2
    | some i => shut i p.2.2
  if vs.all (plainAt Γ1) then (match lcF vs g t f p.1 [] (wipeG Γ1 vs) with
    | .ok (ys, Γ2) => (match p.2.1 with
      | none => .ok (.ow ys, mend Γ1 Γ2 vs)
      | some i => (match unlk i (mend Γ1 Γ2 vs) with
        | some Γ3 => .ok (.ow ys, Γ3)
        | none => .bad))
    | _ => .bad) else .bad
section
variable {K : Frag} {mg : Str → Option Value} {G G1 : Hp} {pn : List (Nat × Addr)} {Γ : Ga} {σ : St} {F F' H H' : Hp}
theorem Rep.shield {a : Addr} {vs : List V} (R : Rep K G pn Γ σ F H) (ha : H a = some (.lst vs)) (hG : G a = none) (hap : ∀ (j : Nat) (sj : Sl), Γ[j]? = some (some sj) → sj.owned = true → σ[j]? ≠ some (some (.ref a))) :
    Rep K (upd G a (.lst vs)) pn Γ σ F H where
  fh := R.fh
  gh := fun b o q => by
    by_cases hb : b = a
    · subst hb; rw [upd_same] at q; cases q; exact ha
    · rw [upd_ne hb] at q; exact R.gh _ _ q
  sl := fun j t e2 => by
    obtain ⟨u, q1, q2⟩ := R.sl j t e2
    refine ⟨u, q1, ?_⟩
    have other : ∀ b, u = .ref b → t.owned = true → b ≠ a := fun b eb ot z => by
      subst eb; subst z
      exact hap j t e2 ot q1
    cases t with
    | fz d => exact q2
    | ow xs =>
      obtain ⟨b, rfl, ws, h1, h2, h3, h4⟩ := q2
      exact ⟨b, rfl, ws, h1, h2, h3, by rw [upd_ne (other b rfl rfl)]; exact h4⟩
    | io xs =>
      obtain ⟨b, rfl, ws, h1, h2, h3, h4⟩ := q2
      exact ⟨b, rfl, ws, h1, h2, h3, by rw [upd_ne (other b rfl rfl)]; exact h4⟩
    | lk xs =>
      obtain ⟨b, ws, rfl, h1, h2, h3⟩ := q2
      exact ⟨b, ws, rfl, by rw [upd_ne (other b rfl rfl)]; exact h1, h2, h3⟩
    | scr ns => exact q2
    | ex a c => exact q2
  ap := R.ap
  pn := R.pn
  len := R.len
  lkp := R.lkp
theorem lk_ne {a b : Addr} {j : Nat} {zs : List D} (R : Rep K G pn Γ σ F H) (hap : ∀ p ∈ pn, p.2 ≠ a) (e : Γ[j]? = some (some (.lk zs))) (q : σ[j]? = some (some (.ref b))) : b ≠ a := by
  obtain ⟨c, hc⟩ := R.lkp j zs e
  obtain ⟨q1, _⟩ := R.pn _ hc
  rw [q] at q1
  cases q1
  exact hap _ hc
/-- the shielded object is written by its keeper -/
theorem Rep.reshield {a : Addr} {vs vs' : List V} (R : Rep K (upd G a (.lst vs)) pn Γ σ F H) (hG : G a = none) (hF : F a = none) (hap : ∀ p ∈ pn, p.2 ≠ a) :
    Rep K (upd G a (.lst vs')) pn Γ σ F (upd H a (.lst vs')) where
  fh := same_upd1 R.fh hF
  gh := fun b o q => by
    by_cases hb : b = a
    · subst hb; rw [upd_same] at q ⊢; exact q
    · rw [upd_ne hb] at q ⊢; exact R.gh _ _ (by rw [upd_ne hb]; exact q)
  sl := fun j t e2 => by
    obtain ⟨u, q1, q2⟩ := R.sl j t e2
    refine ⟨u, q1, ?_⟩
    cases t with
    | fz d => exact q2
    | ow xs =>
      obtain ⟨b, rfl, ws, h1, h2, h3, h4⟩ := q2
      have hb : b ≠ a := fun z => by subst z; rw [upd_same] at h4; cases h4
      exact ⟨b, rfl, ws, by rw [upd_ne hb]; exact h1, h2, h3, by rw [upd_ne hb] at h4 ⊢; exact h4⟩
    | io xs =>
      obtain ⟨b, rfl, ws, h1, h2, h3, h4⟩ := q2
      have hb : b ≠ a := fun z => by subst z; rw [upd_same] at h4; cases h4
      exact ⟨b, rfl, ws, by rw [upd_ne hb]; exact h1, h2, h3, by rw [upd_ne hb] at h4 ⊢; exact h4⟩
    | lk xs =>
      obtain ⟨b, ws, rfl, h1, h2, h3⟩ := q2
      have hb : b ≠ a := fun z => by subst z; exact lk_ne R hap e2 q1 rfl
      exact ⟨b, ws, rfl, by rw [upd_ne hb] at h1 ⊢; exact h1, h2, h3⟩
    | scr ns => exact q2
    | ex a c => exact q2
  ap := R.ap
  pn := R.pn
  len := R.len
  lkp := R.lkp
theorem Rep.unshield {a : Addr} {vs : List V} (R : Rep K (upd G a (.lst vs)) pn Γ σ F H) (hG : G a = none) (hap : ∀ p ∈ pn, p.2 ≠ a) : Rep K G pn Γ σ F H where
  fh := R.fh
  gh := same_sub R.gh hG
  sl := fun j t e2 => by
    obtain ⟨u, q1, q2⟩ := R.sl j t e2
    refine ⟨u, q1, ?_⟩
    cases t with
    | fz d => exact q2
    | ow xs =>
      obtain ⟨b, rfl, ws, h1, h2, h3, h4⟩ := q2
      have hb : b ≠ a := fun z => by subst z; rw [upd_same] at h4; cases h4
      exact ⟨b, rfl, ws, h1, h2, h3, by rw [upd_ne hb] at h4; exact h4⟩
    | io xs =>
      obtain ⟨b, rfl, ws, h1, h2, h3, h4⟩ := q2
      have hb : b ≠ a := fun z => by subst z; rw [upd_same] at h4; cases h4
      exact ⟨b, rfl, ws, h1, h2, h3, by rw [upd_ne hb] at h4; exact h4⟩
    | lk xs =>
      obtain ⟨b, ws, rfl, h1, h2, h3⟩ := q2
      have hb : b ≠ a := fun z => by subst z; exact lk_ne R hap e2 q1 rfl
      exact ⟨b, ws, rfl, by rw [upd_ne hb] at h1; exact h1, h2, h3⟩
    | scr ns => exact q2
    | ex a c => exact q2
  ap := R.ap
  pn := R.pn
  len := R.len
  lkp := R.lkp
end
section
variable {X : Cx} {E : WX} {fi : FnI} {vs : List Nat} {g : FnG} {t : FnT} {f : FnE}
theorem Adv.weaken' {G F F' : Hp} {a : Addr} {us : List V} (h : Adv (upd G a (.lst us)) F F') (hG : G a = none) : Adv G F F' := h.weaken hG
/-- a turn of the loop, once the items are known -/
theorem lc_loop {K : Frag} {mg : Str → Option Value} {J : It} {xs : List D} {G2 F H : Hp} {pn : List (Nat × Addr)} {Γ : Ga} {σ : St} {D0 : Addr} {Qd : Hp → Prop} {out : List D × Ga}
    (w : WalkD K J xs G2 F) (R : Rep K G2 pn Γ (L2.wipe σ vs) F H) (hD : H D0 = none) (hpn : ∀ p ∈ pn, p.2 ≠ D0)
    (hpv : ∀ p ∈ pn, p.1 ∉ vs) (h : lcF vs g t f xs [] Γ = .ok out)
    (fin : ∀ us F' H', Adv G2 F F' → Rep K (upd G2 D0 (.lst us)) pn out.2 (L2.wipe σ vs) F' H' → H' D0 = some (.lst us) → RpAll K F' us out.1 → F' D0 = none → Qd H') :
    ∃ W : Nat → Nat → Hp → Prop, (∃ m, W 0 m (upd H D0 (.lst []))) ∧ ∀ i m H, W i m H →
      (J.stop i H ∧ Qd H) ∨ (J.go i H ∧ ∃ Nx : Hp → Prop, (∀ H', Nx H' → ∃ m', m' < m ∧ W (i + 1) m' H') ∧ ∀ x H', J.yld i H x H' → tGv K vs g x (L2.wipe σ vs) H' fun σ2 H2 => L2.wipe σ2 vs = L2.wipe σ vs ∧ tT K mg EN t σ2 H2 fun b H3 =>
        if b = true then tE K mg EN f σ2 H3 fun y H4 => ∃ acc, H4 D0 = some (.lst acc) ∧ acc.length < sizeLine ∧ Nx (upd H4 D0 (.lst (acc ++ [y]))) else Nx H3) := by
  obtain ⟨Y, wk, yl⟩ := w
  have hG : G2 D0 = none := R.gh.free hD
  refine lc_it wk (fun i H' => ∃ F' Γ' us acc, Adv G2 F F' ∧ Rep K (upd G2 D0 (.lst us)) pn Γ' (L2.wipe σ vs) F' H' ∧ H' D0 = some (.lst us) ∧ RpAll K F' us acc ∧ F' D0 = none ∧ lcF vs g t f (xs.drop i) acc Γ' = .ok out)
    ⟨F, Γ, [], [], Adv.refl G2 F, (R.new hD).shield upd_same hG (fun j sj e o q => ?_), upd_same, .nil, R.fh.free hD, h⟩ ?_ ?_ ?_
  · obtain ⟨v, q1, q2⟩ := R.sl j sj e
    obtain ⟨a, ws, rfl, q3, _⟩ := q2.there R.gh o
    rw [q] at q1
    cases q1
    rw [hD] at q3; cases q3
  · rintro i H' _ ⟨F', Γ', us, acc, A, R', h1, h2, h3, _⟩
    exact ⟨same_sub R'.gh hG, fun x o e => R'.fh x o (A.same x o e)⟩
  · rintro i v H1 H2 hi ⟨F', Γ', us, acc, A, R', h1, h2, h3, p⟩ y
    have e : xs[i]? = some xs[i] := List.getElem?_eq_getElem hi
    obtain ⟨F2, A2, rp, nw⟩ := yl i H1 v H2 F' (upd G2 D0 (.lst us)) xs[i] A.same R'.fh R'.gh (same_sub R'.gh hG) y e
    have R2 : Rep K (upd G2 D0 (.lst us)) pn Γ' (L2.wipe σ vs) F2 H2 ∧ H2 D0 = some (.lst us) := by
      rcases nw with ⟨e1, e2⟩ | ⟨p, o, hp, e1, e2⟩
      · rw [e1, e2]; exact ⟨R', h1⟩
      · rw [e1, e2]; exact ⟨R'.newF hp, by rw [upd_ne (ne_of_none h1 hp)]; exact h1⟩
    obtain ⟨R2, h12⟩ := R2
    have out' : ∀ {F3 : Hp}, Adv (upd G2 D0 (.lst us)) F' F3 → F3 D0 = none := fun {F3} a => by
      rw [a.out D0 (by rw [upd_same]; intro z; cases z)]; exact h3
    rw [List.drop_eq_getElem_cons hi] at p
    unfold lcF at p
    refine ⟨upd G2 D0 (.lst us), pn, F2, Γ', .d xs[i], R2, rp, ?_⟩
    cases q : g (.d xs[i]) Γ' with
    | none => simp only [q] at p; cases p
    | some Γ1 =>
      simp only [q] at p
      intro σ3 F3 H3 A3 R3 l3 w3
      have w3' : L2.wipe σ3 vs = L2.wipe σ vs := w3.trans wipe_wipe
      refine ⟨w3', upd G2 D0 (.lst us), pn, F3, Γ1, R3, ?_⟩
      have A13 : Adv (upd G2 D0 (.lst us)) F' F3 := A2.trans A3
      have vo : ∀ {Γx : Ga} {Fx Hx : Hp}, Rep K (upd G2 D0 (.lst us)) pn Γx σ3 Fx Hx → Rep K (upd G2 D0 (.lst us)) pn (wipeG Γx vs) (L2.wipe σ vs) Fx Hx := fun {Γx Fx Hx} Rx => (Rx.wipe hpv).cast w3'
      cases q2 : t Γ1 with
      | bad => rw [q2] at p; cases p
      | exc x => rw [q2] at p; cases p
      | ok p2 =>
        obtain ⟨c, Γ2⟩ := p2
        rw [q2] at p
        simp only [Rs.bind_ok] at p
        intro F4 H4 A4 R4
        have h14 : H4 D0 = some (.lst us) := R4.gh _ _ upd_same
        cases c with
        | false =>
          rw [if_neg Bool.false_ne_true] at p ⊢
          exact ⟨F4, wipeG Γ2 vs, us, acc, A.trans ((A13.trans A4).weaken hG), vo R4, h14, RpAll.mono (A13.trans A4).same h2, out' (A13.trans A4), p⟩
        | true =>
          rw [if_pos rfl] at p ⊢
          refine ⟨upd G2 D0 (.lst us), pn, F4, Γ2, R4, ?_⟩
          cases q3 : f Γ2 with
          | bad => rw [q3] at p; cases p
          | exc x => rw [q3] at p; cases p
          | ok p3 =>
            obtain ⟨rv, Γ3⟩ := p3
            rw [q3] at p
            simp only [Rs.bind_ok] at p
            intro y F5 H5 A5 R5 r5
            cases q4 : rvFz Γ3 rv with
            | none => simp only [q4] at p; cases p
            | some p4 =>
              obtain ⟨d, Γ4⟩ := p4
              simp only [q4] at p
              split at p
              · rename_i hz
                obtain ⟨F6, A6, R6, rp6⟩ := rvFz_any R5 r5 q4
                have A16 := ((A13.trans A4).trans A5).trans A6
                have h16 : H5 D0 = some (.lst us) := R6.gh _ _ upd_same
                have R7 : Rep K (upd G2 D0 (.lst (us ++ [y]))) pn (wipeG Γ4 vs) (L2.wipe σ vs) F6 (upd H5 D0 (.lst (us ++ [y]))) := (vo R6).reshield hG (out' A16) hpn
                refine ⟨us, h16, by rw [lim_eq, h2.len]; exact hz, F6, wipeG Γ4 vs, us ++ [y], acc ++ [d], A.trans (A16.weaken hG), R7, upd_same, ?_, out' A16, p⟩
                exact (RpAll.mono A16.same h2).app (.one rp6)
              · cases p
  · rintro H' ⟨F', Γ', us, acc, A, R', h1, h2, h3, p⟩
    rw [List.drop_length] at p
    unfold lcF at p
    cases p
    exact fin us F' H' A R' h1 h2 h3
theorem shut_eq {Γ : Ga} {i : Nat} {ys : List D} (e : Γ[i]? = some (some (.ow ys))) : shut i Γ = Γ.set i (some (.lk ys)) := by
  unfold shut
  rw [e]
theorem key_lc {K : Frag} {mg : Str → Option Value} : ∀ σ H Q, tE K mg E (eLc fi vs g t f) σ H Q → tLc (tI K mg E fi) (tGv K vs g) (tT K mg EN t) (tE K mg EN f) vs σ H Q := fun σ H Q ⟨G, pn, F, Γ, R, h⟩ => by
  refine ⟨G, pn, F, Γ, R, ?_⟩
  unfold eLc at h
  cases q : fi Γ with
  | bad => rw [q] at h; exact h
  | exc x => rw [q] at h; exact h
  | ok p =>
    obtain ⟨xs, lk, Γ1⟩ := p
    rw [q] at h
    intro J F1 H1 G2 A1 R1 lkr wd D0 hD
    simp only [Rs.bind_ok] at h
    have pinsD : ∀ p ∈ pn, p.2 ≠ D0 := fun p hp z => by
      obtain ⟨q1, s, q2, q3⟩ := R1.pn p hp
      obtain ⟨v, q4, q5⟩ := R1.sl _ _ q2
      obtain ⟨a, ws, rfl, q6, _⟩ := q5.there R1.gh (pinned_owned q3)
      rw [q1] at q4
      cases q4
      rw [z, hD] at q6; cases q6
    have plain : ∀ {Γx : Ga} {Gx Fx Hx : Hp} {pnx : List (Nat × Addr)}, Rep K Gx pnx Γx σ Fx Hx → vs.all (plainAt Γx) = true → ∀ p ∈ pnx, p.1 ∉ vs := fun {Γx Gx Fx Hx pnx} Rx hx p hp hv => by
      obtain ⟨_, s, q2, q3⟩ := Rx.pn p hp
      have np := List.all_eq_true.mp hx p.1 hv
      unfold plainAt at np
      rw [q2] at np
      simp [pinned_owned q3] at np
    cases lk with
    | none =>
      cases lkr
      simp only at h
      split at h
      · rename_i hx
        cases q2 : lcF vs g t f xs [] (wipeG Γ1 vs) with
        | bad => simp only [q2] at h; exact h.elim
        | exc x => simp only [q2] at h; exact h.elim
        | ok out =>
          obtain ⟨ys, Γ2⟩ := out
          simp only [q2] at h
          have hv := plain R1 hx
          refine lc_loop wd (R1.wipe hv) hD pinsD hv q2 fun us F' H' A R' h1 h2 h3 => ?_
          have hG : G D0 = none := R1.gh.free hD
          have R3 := R1.mend (R'.unshield hG pinsD) A.same fun v hv => List.all_eq_true.mp hx v hv
          refine h (.ref D0) F' H' (A1.trans A) R3 ⟨D0, rfl, ⟨us, h1, h2, h3, hG⟩, fun j sj e o z => ?_⟩
          have R4 := R1.mend R' A.same fun v hv => List.all_eq_true.mp hx v hv
          obtain ⟨v, q4, q5⟩ := R4.sl j sj e
          rw [z] at q4
          cases q4
          cases sj with
          | fz d => cases o
          | scr ns => cases o
          | ex a c => cases o
          | ow zs => obtain ⟨b, eb, ws, k1, k2, k3, k4⟩ := q5; cases eb; rw [upd_same] at k4; cases k4
          | io zs => obtain ⟨b, eb, ws, k1, k2, k3, k4⟩ := q5; cases eb; rw [upd_same] at k4; cases k4
          | lk zs => exact lk_ne R4 pinsD e z rfl
      · exact h.elim
    | some i =>
      obtain ⟨a, us0, ys0, rfl, e1, e2, e3, e4, e5, e6⟩ := lkr
      simp only at h
      rw [shut_eq e1] at h
      split at h
      · rename_i hx
        have RL := R1.lock e1 e2 e3 e4 e5 e6
        cases q2 : lcF vs g t f xs [] (wipeG (Γ1.set i (some (.lk ys0))) vs) with
        | bad => simp only [q2] at h; exact h.elim
        | exc x => simp only [q2] at h; exact h.elim
        | ok out =>
          obtain ⟨ys, Γ2⟩ := out
          simp only [q2] at h
          cases q3 : unlk i (mend (Γ1.set i (some (.lk ys0))) Γ2 vs) with
          | none => simp only [q3] at h; exact h.elim
          | some Γ3 =>
            simp only [q3] at h
            have hv := plain RL hx
            have pinsD' : ∀ p ∈ ((i, a) :: pn), p.2 ≠ D0 := fun p hp => by
              rcases List.mem_cons.mp hp with z | z
              · rw [z]; exact ne_of_none e3 hD
              · exact pinsD p z
            refine lc_loop wd (RL.wipe hv) hD pinsD' hv q2 fun us F' H' A R' h1 h2 h3 => ?_
            have hG : (upd G a (.lst us0)) D0 = none := RL.gh.free hD
            have hG0 : G D0 = none := R1.gh.free hD
            have R3 := RL.mend (R'.unshield hG pinsD') A.same fun v hv => List.all_eq_true.mp hx v hv
            have R5 := R3.unlock (pinned_ne R1 e1) e6 q3
            refine h (.ref D0) F' H' (A1.trans (A.weaken e6)) R5 ⟨D0, rfl, ⟨us, h1, h2, h3, hG0⟩, fun j sj e o z => ?_⟩
            have R4 := RL.mend R' A.same fun v hv => List.all_eq_true.mp hx v hv
            -- the slot as it was ahead of the unlocking
            have pre : ∃ sj', (mend (Γ1.set i (some (.lk ys0))) Γ2 vs)[j]? = some (some sj') ∧ sj'.owned = true := by
              unfold unlk at q3
              split at q3
              · rename_i zs qz
                cases q3
                rcases get_set e with ⟨z1, z2, hl⟩ | ⟨z1, z2⟩
                · subst z1; exact ⟨_, qz, rfl⟩
                · exact ⟨sj, z2, o⟩
              · cases q3
            obtain ⟨sj', e', o'⟩ := pre
            obtain ⟨v, q4, q5⟩ := R4.sl j sj' e'
            rw [z] at q4
            cases q4
            cases sj' with
            | fz d => cases o'
            | scr ns => cases o'
            | ex a c => cases o'
            | ow zs => obtain ⟨b, eb, ws, k1, k2, k3, k4⟩ := q5; cases eb; rw [upd_same] at k4; cases k4
            | io zs => obtain ⟨b, eb, ws, k1, k2, k3, k4⟩ := q5; cases eb; rw [upd_same] at k4; cases k4
            | lk zs => exact lk_ne R4 pinsD' e' z rfl
      · exact h.elim
variable {elt tg iter : Expr} {ifs : List Expr} {scope : Scope} {own : List (Str × Nat)} {pos : Pos}
theorem fe_lc (hc : X.calm = true) (hN : X.N.Nodup) (hi : FI X E tg iter fi) (ok : BlkOk X.N X.env.scope scope own) (ev : own.map (·.2) = vs)
    (hg : ∀ (s : Shared) (H : Hp) (C : Addr) (cl : List (Str × Addr)) (fp : List Addr), FGv (X.blk s H scope (compEnvC scope cl C X.env) fp) vs tg g)
    (ht : ∀ (s : Shared) (H : Hp) (C : Addr) (cl : List (Str × Addr)) (fp : List Addr), FTs (X.blk s H scope (compEnvC scope cl C X.env) fp) EN ifs t)
    (he : ∀ (s : Shared) (H : Hp) (C : Addr) (cl : List (Str × Addr)) (fp : List Addr), FE (X.blk s H scope (compEnvC scope cl C X.env) fp) EN elt f) (hs : ∀ x, foldedSetIterable iter X.env x = pure x := by intro _; rfl) :
    FE X E (.ListComp elt [⟨tg, iter, ifs, 0⟩] scope pos) (eLc fi vs g t f) := by
  subst ev
  exact pe_imp (pe_lc hc hN hi ok hg ht he hs) key_lc
theorem tLc_mono {wi : TI} {gg : TG} {tt : TT} {te : TE} {vs : List Nat} (hw : ∀ σ H R R', (∀ J H', R J H' → R' J H') → wi σ H R → wi σ H R') : ∀ σ H Q Q', (∀ v H', Q v H' → Q' v H') → tLc wi gg tt te vs σ H Q → tLc wi gg tt te vs σ H Q' := fun σ H Q Q' k h =>
  hw σ H _ _ (fun J H' q D0 hD => by
    obtain ⟨W, h0, step⟩ := q D0 hD
    refine ⟨W, h0, fun i m H1 hW => ?_⟩
    rcases step i m H1 hW with ⟨h1, h2⟩ | h1
    · exact .inl ⟨h1, k _ _ h2⟩
    · exact .inr h1) h
theorem tI_mono {K : Frag} {mg : Str → Option Value} : ∀ σ H Rk Rk', (∀ J H', Rk J H' → Rk' J H') → tI K mg E fi σ H Rk → tI K mg E fi σ H Rk' := fun σ H Rk Rk' k ⟨G, pn, F, Γ, R, h⟩ => by
  refine ⟨G, pn, F, Γ, R, ?_⟩
  cases q : fi Γ with
  | bad => rw [q] at h; exact h
  | exc x => rw [q] at h; exact h
  | ok p => rw [q] at h; exact fun J F' H' G2 A R' l w => k _ _ (h J F' H' G2 A R' l w)
theorem fs_setLc {i : Nat} {y : Str} {py spos : Pos} (hc : X.calm = true) (hN : X.N.Nodup) (hy : X.N[i]? = some y) (hyl : X.env.scope.names.lookup y = some .local)
    (hsw : swapsWith (.ListComp elt [⟨tg, iter, ifs, 0⟩] scope pos) (some (.Name y py)) spos.line X.env = pure true) (hi : FI X E tg iter fi) (ok : BlkOk X.N X.env.scope scope own) (ev : own.map (·.2) = vs)
    (hg : ∀ (s : Shared) (H : Hp) (C : Addr) (cl : List (Str × Addr)) (fp : List Addr), FGv (X.blk s H scope (compEnvC scope cl C X.env) fp) vs tg g)
    (ht : ∀ (s : Shared) (H : Hp) (C : Addr) (cl : List (Str × Addr)) (fp : List Addr), FTs (X.blk s H scope (compEnvC scope cl C X.env) fp) EN ifs t)
    (he : ∀ (s : Shared) (H : Hp) (C : Addr) (cl : List (Str × Addr)) (fp : List Addr), FE (X.blk s H scope (compEnvC scope cl C X.env) fp) EN elt f) (hs : ∀ x, foldedSetIterable iter X.env x = pure x := by intro _; rfl) :
    FS X E (.Assign [.Name y py] (.ListComp elt [⟨tg, iter, ifs, 0⟩] scope pos) spos) (sAsg (eLc fi vs g t f) (gN i)) := by
  subst ev
  refine ps_imp (ps_setLc hc hN hy hyl hsw hi ok hg ht he hs) (key_asg key_lc (fun v σ H Q ⟨G, pn, F, Γ, rv, R, rr, q⟩ => ?_) (tLc_mono tI_mono))
  cases e1 : gN i rv Γ with
  | none => simp only [e1] at q
  | some Γ' =>
    simp only [e1] at q
    obtain ⟨F', A, R'⟩ := gN_ok R rr e1
    exact q _ F' H A R' (by simp)
end
end FL

/-! FK: what a def is worth as a function on data; its call. -/
namespace FL
open PySem PySem.Spec L2
open PyProof.Rows (envOfC)

inductive FR where
  | ok (d : D) (outs : Ga) | exc (e : Exc) | bad
abbrev FnR := List Sl → FR
def runBody (n : Nat) (f : FnS) : FnR := fun args => match f (args.map some ++ List.replicate (n - args.length) none) with
  | .ret d Γ => .ok d Γ
  | .nx Γ => .ok .none Γ
  | .exc e => .exc e
  | _ => .bad
def PostC (K : Frag) (mg : Str → Option Value) (Ex : XK) (G : Hp) (pn : List (Nat × Addr)) (F : Hp) (Q : VK) : FR → Prop
  | .ok d outs => ∀ v F' H', Adv G F F' → Same F' H' → Same G H' → Rp K F' v d → (∀ p ∈ pn, ∃ xs, outs[p.1]? = some (some (.io xs)) ∧ Own K G F' H' p.2 xs) → Q v H'
  | .exc e => ∀ c d F' H', Adv G F F' → Same F' H' → Same G H' → ExR mg K F' H' e c d → Ex c d H'
  | .bad => False
def spF (K : Frag) (mg : Str → Option Value) (run : FnR) (np : Nat) : Sp := fun vs H Q Ex => vs.length = np ∧ ∃ G pn F args, Rep K G pn (args.map some) (vs.map some) F H ∧ (∀ p ∈ pn, G p.2 = none) ∧ PostC K mg Ex G pn F Q (run args)
/-- the def at f is worth run -/
structure Kp (P : Program) (w : World) (K : Frag) (mg : Str → Option Value) (base : Heap) (k : Nat) (f : Addr) (fd : FuncData) (ps : List Str) (run : FnR) : Prop where
  go : ∀ (A : Around) (outer : List Env) (s : Shared) (H : Hp) (args : Args) (us : List Value) (vs : List V) (Q : VK) (Ex : XK), Room k A → A.guards = some [] → Env0 P w K mg base A outer s H → BindsTo s fd args (ps.zip us) → Vals vs us →
    spF K mg run ps.length vs H Q Ex → codeAny (model P w) A (.call (.ref f) args) (CR (L2N.CX P w) outer P w H s Q Ex) s
theorem Kp.up {P : Program} {w : World} {K : Frag} {mg : Str → Option Value} {base : Heap} {j k : Nat} {f : Addr} {fd : FuncData} {ps : List Str} {run : FnR} (h : Kp P w K mg base j f fd ps run) (l : j ≤ k) : Kp P w K mg base k f fd ps run :=
  ⟨fun A outer s H args us vs Q Ex hr => h.go A outer s H args us vs Q Ex (hr.mono l)⟩

theorem rep_more {K : Frag} {G : Hp} {pn : List (Nat × Addr)} {as : List Sl} {vs : List V} {F H : Hp} (m : Nat) (R : Rep K G pn (as.map some) (vs.map some) F H) :
    Rep K G pn (as.map some ++ List.replicate m none) (vs.map some ++ List.replicate m none) F H := by
  have hl : as.length = vs.length := by simpa using R.len
  have left : ∀ {i : Nat} {s : Sl}, (as.map some ++ List.replicate m none)[i]? = some (some s) → i < as.length ∧ (as.map some)[i]? = some (some s) := fun {i s} e => by
    by_cases h : i < as.length
    · exact ⟨h, by rw [List.getElem?_append_left (by simpa using h)] at e; exact e⟩
    · rw [List.getElem?_append_right (by simpa using h), List.getElem?_replicate] at e
      split at e <;> cases e
  have right : ∀ {i : Nat}, i < as.length → (vs.map some ++ List.replicate m none)[i]? = (vs.map some)[i]? := fun {i} h => List.getElem?_append_left (by rw [List.length_map, ← hl]; exact h)
  exact {
    fh := R.fh
    gh := R.gh
    sl := fun i s e => by
      obtain ⟨h, e⟩ := left e
      obtain ⟨v, e1, e2⟩ := R.sl i s e
      exact ⟨v, by rw [right h]; exact e1, e2⟩
    ap := fun i j si sj a e1 e2 o1 o2 q1 q2 => by
      obtain ⟨h1, e1⟩ := left e1
      obtain ⟨h2, e2⟩ := left e2
      rw [right h1] at q1
      rw [right h2] at q2
      exact R.ap i j si sj a e1 e2 o1 o2 q1 q2
    lkp := fun i zs e => by
      obtain ⟨h, e⟩ := left e
      exact R.lkp i zs e
    pn := fun p hp => by
      obtain ⟨q1, s, q2, q3⟩ := R.pn p hp
      have h : p.1 < as.length := by
        rcases Nat.lt_or_ge p.1 as.length with h | h
        · exact h
        · rw [List.getElem?_eq_none (by simpa using h)] at q2; cases q2
      exact ⟨by rw [right h]; exact q1, s, by rw [List.getElem?_append_left (by simpa using h)]; exact q2, q3⟩
    len := by simp [hl] }

/-- a def of the text is worth what its body reads as -/
theorem kp_of {P : Program} {w : World} {K : Frag} {mg : Str → Option Value} {base : Heap} {x qual : Str} {st : Stmt} {f : Addr} {fd : FuncData} {N ps : List Str} {k : Nat} {fb : FnS} (D0 : Fun K x qual st f fd) (S : FnScope N ps (defScope st))
    (body : ∀ (cdv : Value) (A : Around) (outer : List Env) (s : Shared) (H : Hp) (Ex : XK), Room k (A.deeper (envOfC qual (defScope st) s.heap.objs.size f cdv)) → A.guards = some [] →
      FSs (cxOf (L2N.CX P w) P w K mg base N qual (defScope st) f cdv A outer s H Ex) (fun c d _ H => Ex c d H) (defBody st) fb) : Kp P w K mg base (k + 1) f fd ps (runBody N.length fb) := by
  obtain ⟨_, _, kV, doc, pm, an, cdv, ct, _, rfl, found, code⟩ := D0.ex
  refine ⟨fun A outer s H args us vs Q Ex room gd env0 bound rel want => ?_⟩
  obtain ⟨np, G, pn, F, as, R, free, post⟩ := want
  have inK : K.In s.heap := env0.mod.kin.keeps fun b o e => (env0.bs b o e).1
  have nolim : s.heap.NoLimit := env0.mod.nolimit.keeps fun b o e => (env0.bs b o e).1
  have names : ∀ y ∈ ps.zip us, (defScope st).names.lookup y.1 = some .local ∨ ((defScope st).names.lookup y.1 = some .cell ∧ ((cellsFrom (s.heap.objs.size + 1) (defScope st).names []).lookup y.1).isSome = true) := by
    rintro ⟨n, v⟩ hy
    rcases S.par n (List.of_mem_zip hy).1 with q | q
    · exact .inl q
    · exact .inr ⟨q, PySem.W.cellsFrom_some _ _ _ (.inl q)⟩
  refine codeAny_call_function room.depth (inK _ _ found) rfl S.co S.gen rfl (PySem.W.codeRec_of inK code) (bound _ _ _ _ ?_)
  refine wpAny_newFunctionEnv_cells S.kind names fun env eenv s1 inCall => ?_
  subst eenv
  refine ⟨nolim.keeps inCall.toInCall.keep, codeAny_func ?_⟩
  have hl : as.length = vs.length := by simpa using R.len
  have inv := inv_start (CX := L2N.CX P w) (E := Ex) S room.hd env0 np rel inCall
  have start_eq : L2.start N vs = vs.map some ++ List.replicate (N.length - as.length) none := by unfold L2.start; rw [hl]
  have ready : tS K mg (fun c d _ H => Ex c d H) fb { nx := fun _ H' => Q .non H', rt := Q } (L2.start N vs) H := by
    rw [start_eq]
    refine ⟨G, pn, F, as.map some ++ List.replicate (N.length - as.length) none, rep_more _ R, ?_⟩
    unfold runBody at post
    have out : ∀ {Γ' : Ga} {σ' : St} {F' H' : Hp}, Rep K G pn Γ' σ' F' H' → ∀ p ∈ pn, ∃ xs, Γ'[p.1]? = some (some (.io xs)) ∧ Own K G F' H' p.2 xs := fun {Γ' σ' F' H'} R' p hp => by
      obtain ⟨q1, t, q2, q3⟩ := R'.pn p hp
      obtain ⟨v, q4, q5⟩ := R'.sl _ _ q2
      rw [q1] at q4
      cases q4
      cases t with
      | io xs => obtain ⟨a, ea, o⟩ := q5; cases ea; exact ⟨xs, q2, o⟩
      | lk xs =>
        obtain ⟨a, ws, ea, o, _⟩ := q5
        cases ea
        rw [free p hp] at o; cases o
      | _ => cases q3
    cases q : fb (as.map some ++ List.replicate (N.length - as.length) none) with
    | nx Γ' => simp only [q] at post; exact fun σ' F' H' A' R' _ => post .non F' H' A' R'.fh R'.gh .non (out R')
    | ret d Γ' => simp only [q] at post; exact fun v σ' F' H' A' R' rp => post v F' H' A' R'.fh R'.gh rp (out R')
    | exc e => simp only [q] at post; exact fun c d σ' F' H' _ A' s1 s2 xr => post c d F' H' A' s1 s2 xr
    | bk Γ' => simp only [q] at post; exact post.elim
    | ct Γ' => simp only [q] at post; exact post.elim
    | bad => simp only [q] at post; exact post.elim
  refine wpAny_mono ((body cdv A outer s H Ex (room.deeper _) gd).run [] s1 (L2.start N vs) H _ inv ready) (fun flow s2 ends => ?_) fun e s2 ends => ends
  have over : ∀ {σ' : St} {H' : Hp} {v : V} {u : Value}, Inv (cxOf (L2N.CX P w) P w K mg base N qual (defScope st) f cdv A outer s H Ex) [] σ' H' s2 → RelV v u → Q v H' → CE outer P w H s Q u s2 :=
    fun {σ' H' v u} J r q => ⟨v, H', J.os, J.bare, J.base, J.hok, r, q⟩
  cases flow with
  | next => obtain ⟨_, _, J, q⟩ := ends; exact over (v := V.non) (u := Value.none) J rfl q
  | ret u => obtain ⟨_, _, _, J, r, q⟩ := ends; exact over J r q
  | brk => obtain ⟨_, _, _, z⟩ := ends; exact z.elim
  | cont => obtain ⟨_, _, _, z⟩ := ends; exact z.elim

/-! ### the call -/
/-- the context of code that calls: room, nothing handled, nothing being shown -/
structure Cok (X : Cx) (E : WX) (k : Nat) : Prop where
  calm : X.calm = true
  room : Room k X.A
  gd : X.A.guards = some []
  pass : ∀ σ, PassesAt (L2N.CX X.prog X.w) X σ (fun c d H => E c d σ H)
section
variable {X : Cx} {E : WX} {k : Nat} {f : Addr} {fd : FuncData} {ps : List Str} {run : FnR}
theorem kp_run {pins : List (Addr × Obj)} {σ : St} {H : Hp} {s : Shared} {Q : VK} {us : List Value} {vs : List V} (F : Kp X.prog X.w X.K X.mg X.base k f fd ps run) (c : Cok X E k) (hb : Binds X.K fd ps [])
    (I : Inv X pins σ H s) (r : Vals vs us) (h : spF X.K X.mg run ps.length vs H Q (fun c d H => E c d σ H)) : wpAny (model X.prog X.w) X.A (call (.ref f) us) (EP X pins σ Q) X.xe s := by
  have bound := hb s us I.kIn (by rw [List.append_nil, ← r.length]; exact h.1)
  rw [List.append_nil] at bound
  refine wpAny_call (codeAny_mono (F.go X.A X.stack s H ⟨us, []⟩ us vs Q _ c.room c.gd I.env0 bound r h) fun res s2 out => ?_)
  rcases res with e | fl
  · exact c.pass σ pins H s _ s2 I out
  · cases fl <;> first | exact I.after out | exact False.elim out
def tCallK (K : Frag) (mg : Str → Option Value) (E : WX) (run : FnR) (np : Nat) (t : TA) : TE := fun σ H Q => t σ H fun vs H1 => spF K mg run np vs H1 Q (fun c d H => E c d σ H)
theorem pe_callF {x : Str} {p pos : Pos} {e : Expr} {es : List Expr} {t : TA} (F : Kp X.prog X.w X.K X.mg X.base k f fd ps run) (c : Cok X E k) (hg : Gl X x) (hm : X.mg x = some (.ref f)) (hk : PySem.W.keepIn X.K (.ref f) = true) (hb : Binds X.K fd ps [])
    (ha : PA X (e :: es) t) (hdb : (x == ("__debug__" : Str)) = false := by decide) (he : starEach (e :: es) X.env = (false, eval e X.env) :: starEach es X.env := by rfl) (hpl : (backTo pos (starEach es X.env)).any (·.1) = false := by rfl) :
    PE X (.Call (.Name x p) (e :: es) [] pos) (tCallK X.K X.mg E run ps.length t) := by
  refine ⟨fun pins s σ H Q I want => wpAny_Call_Name_kw (ld_glob I hg hm ?_ hdb)⟩
  refine PySem.W.callWith_K (h₀ := X.base) I.ok.mod.kin hk (thn (ha.run pos pins s σ H _ I want) ?_) he hpl
  rintro us s2 ⟨vs, H2, I2, r, q⟩
  exact ⟨I2.kIn, kp_run F c hb I2 r q⟩
end

/-! ### what is handed over -/
mutual
/-- no list, no dict within -/
def noL : D → Bool
  | .list _ => false
  | .dict _ => false
  | .tuple xs => noLs xs
  | _ => true
def noLs : List D → Bool
  | [] => true
  | x :: xs => noL x && noLs xs
end
section
variable {K : Frag} {F F' : Hp}
mutual
theorem Rp.flat (e : ∀ a vs, SqT K F a vs → SqT K F' a vs) : ∀ {d : D} {v : V}, Rp K F v d → noL d = true → Rp K F' v d
  | .none, _, h, _ => by cases h; exact .non
  | .bool b, _, h, _ => by cases h; exact .bl b
  | .int i, _, h, _ => by cases h; exact .int i
  | .str x, _, h, _ => by cases h; exact .str x
  | .list ds, _, h, n => by unfold noL at n; cases n
  | .tuple ds, _, h, n => by
    cases h with
    | tup h1 h2 =>
      unfold noL at n
      exact .tup (e _ _ h1) (RpAll.flat e h2 n)
  | .dict _, _, h, n => by unfold noL at n; cases n
theorem RpAll.flat (e : ∀ a vs, SqT K F a vs → SqT K F' a vs) : ∀ {ds : List D} {vs : List V}, RpAll K F vs ds → noLs ds = true → RpAll K F' vs ds
  | [], _, h, _ => by cases h; exact .nil
  | d :: ds, _, h, n => by
    cases h with
    | cons h1 h2 =>
      unfold noLs at n
      rw [Bool.and_eq_true] at n
      exact .cons (Rp.flat e h1 n.1) (RpAll.flat e h2 n.2)
end
end
def argSl (Γ : Ga) : RV → Option Sl
  | .d x => some (.fz x)
  | .ow _ => none
  | .sl i => match Γ[i]? with
    | some (some (.ow xs)) => some (.fz (.list xs))
    | some (some (.io xs)) => some (.fz (.list xs))
    | some (some (.lk xs)) => some (.fz (.list xs))
    | some (some (.scr ns)) => some (.scr ns)
    | some (some (.ex a c)) => some (.ex a c)
    | some (some (.fz d)) => some (.fz d)
    | _ => none
def argIo (Γ : Ga) : RV → Option Sl
  | .sl i => match Γ[i]? with
    | some (some (.ow xs)) => some (.io xs)
    | some (some (.io xs)) => some (.io xs)
    | _ => none
  | _ => none
def mkArgs (Γ : Ga) : List RV → Option Nat → Option (List Sl)
  | [], _ => some []
  | r :: rs, some 0 => (argIo Γ r).bind fun s => (mkArgs Γ rs none).map (s :: ·)
  | r :: rs, some (n + 1) => (argSl Γ r).bind fun s => (mkArgs Γ rs (some n)).map (s :: ·)
  | r :: rs, none => (argSl Γ r).bind fun s => (mkArgs Γ rs none).map (s :: ·)
inductive AR (K : Frag) (G F H : Hp) (Γ : Ga) (σ : St) : Bool → RV → V → Sl → Prop
  | d {x : D} {v : V} : Rp K F v x → AR K G F H Γ σ false (.d x) v (.fz x)
  | fz {i : Nat} {x : D} {v : V} : Γ[i]? = some (some (.fz x)) → Rp K F v x → AR K G F H Γ σ false (.sl i) v (.fz x)
  | ex {i : Nat} {a : Addr} {c : Str} : Γ[i]? = some (some (.ex a c)) → AR K G F H Γ σ false (.sl i) (.ref a) (.ex a c)
  | bor {i : Nat} {s : Sl} {a : Addr} {ws : List V} {xs : List D} : Γ[i]? = some (some s) → s.owned = true → σ[i]? = some (some (.ref a)) → H a = some (.lst ws) → RpAll K F ws xs → F a = none → s.data = .list xs → AR K G F H Γ σ false (.sl i) (.ref a) (.fz (.list xs))
  | scr {i : Nat} {a : Addr} {ns : List Int} : Γ[i]? = some (some (.scr ns)) → SqS K F a (ns.map V.int) → AR K G F H Γ σ false (.sl i) (.ref a) (.scr ns)
  | io {i : Nat} {s : Sl} {a : Addr} {ws : List V} {xs : List D} : Γ[i]? = some (some s) → (s = .ow xs ∨ s = .io xs) → σ[i]? = some (some (.ref a)) → H a = some (.lst ws) → RpAll K F ws xs → F a = none → G a = none → AR K G F H Γ σ true (.sl i) (.ref a) (.io xs)
section
variable {K : Frag} {G : Hp} {pn : List (Nat × Addr)} {Γ : Ga} {σ : St} {F H : Hp}
theorem argSl_ok {v : V} {r : RV} {s : Sl} (R : Rep K G pn Γ σ F H) (h : (∃ d, r = .d d ∧ Rp K F v d) ∨ ∃ i, r = .sl i ∧ σ[i]? = some (some v)) (e : argSl Γ r = some s) : AR K G F H Γ σ false r v s := by
  rcases h with ⟨d, rfl, h⟩ | ⟨i, rfl, h⟩
  · cases e; exact .d h
  · unfold argSl at e
    cases q : Γ[i]? with
    | none => simp [q] at e
    | some o =>
      cases o with
      | none => simp [q] at e
      | some t =>
        obtain ⟨u, e1, e2⟩ := R.sl i t q
        obtain rfl : u = v := Option.some.inj (Option.some.inj (e1.symm.trans h))
        cases t with
        | fz d => simp only [q] at e; cases e; exact .fz q e2
        | scr ns => simp only [q] at e; cases e; obtain ⟨a, rfl, e3⟩ := e2; exact .scr q e3
        | ex a c => simp only [q] at e; cases e; have e2 : u = .ref a := e2; subst e2; exact .ex q
        | ow xs => simp only [q] at e; cases e; obtain ⟨a, rfl, ws, h1, h2, h3, h4⟩ := e2; exact .bor q rfl h h1 h2 h3 rfl
        | io xs => simp only [q] at e; cases e; obtain ⟨a, rfl, ws, h1, h2, h3, h4⟩ := e2; exact .bor q rfl h h1 h2 h3 rfl
        | lk xs => simp only [q] at e; cases e; obtain ⟨a, ws, rfl, h1, h2, h3⟩ := e2; exact .bor q rfl h (R.gh _ _ h1) h2 h3 rfl
theorem argIo_ok {v : V} {r : RV} {s : Sl} (R : Rep K G pn Γ σ F H) (h : (∃ d, r = .d d ∧ Rp K F v d) ∨ ∃ i, r = .sl i ∧ σ[i]? = some (some v)) (e : argIo Γ r = some s) : AR K G F H Γ σ true r v s := by
  rcases h with ⟨d, rfl, h⟩ | ⟨i, rfl, h⟩
  · cases e
  · unfold argIo at e
    cases q : Γ[i]? with
    | none => simp [q] at e
    | some o =>
      cases o with
      | none => simp [q] at e
      | some t =>
        obtain ⟨u, e1, e2⟩ := R.sl i t q
        obtain rfl : u = v := Option.some.inj (Option.some.inj (e1.symm.trans h))
        cases t with
        | ow xs => simp only [q] at e; cases e; obtain ⟨a, rfl, ws, h1, h2, h3, h4⟩ := e2; exact .io q (.inl rfl) h h1 h2 h3 h4
        | io xs => simp only [q] at e; cases e; obtain ⟨a, rfl, ws, h1, h2, h3, h4⟩ := e2; exact .io q (.inr rfl) h h1 h2 h3 h4
        | _ => simp [q] at e
theorem RvAll.uncons {vs : List V} {r : RV} {rs : List RV} (h : RvAll K F σ vs (r :: rs)) : ∃ v us, vs = v :: us ∧ ((∃ d, r = .d d ∧ Rp K F v d) ∨ ∃ i, r = .sl i ∧ σ[i]? = some (some v)) ∧ RvAll K F σ us rs := by
  cases h with
  | d h1 h2 => exact ⟨_, _, rfl, .inl ⟨_, rfl, h1⟩, h2⟩
  | sl h1 h2 => exact ⟨_, _, rfl, .inr ⟨_, rfl, h1⟩, h2⟩
theorem mkArgs_ok {rs : List RV} : ∀ {vs : List V} {io : Option Nat} {as : List Sl}, Rep K G pn Γ σ F H → RvAll K F σ vs rs → mkArgs Γ rs io = some as →
    as.length = vs.length ∧ ∀ (j : Nat) (s : Sl), as[j]? = some s → ∃ r v, rs[j]? = some r ∧ vs[j]? = some v ∧ AR K G F H Γ σ (decide (io = some j)) r v s := by
  induction rs with
  | nil =>
    intro vs io as R h e
    cases h
    have e' : as = [] := by
      cases io with
      | none => unfold mkArgs at e; exact (Option.some.inj e).symm
      | some n => unfold mkArgs at e; exact (Option.some.inj e).symm
    subst e'
    exact ⟨rfl, fun j s z => by simp at z⟩
  | cons r rs ih =>
    intro vs io as R h e
    obtain ⟨v, us, rfl, h1, h2⟩ := h.uncons
    have done : ∀ {io' : Option Nat} {b : Bool} {s : Sl} {as' : List Sl}, AR K G F H Γ σ b r v s → mkArgs Γ rs io' = some as' → as = s :: as' → b = decide (io = some 0) → (∀ j, decide (io' = some j) = decide (io = some (j + 1))) →
        as.length = (v :: us).length ∧ ∀ (j : Nat) (s : Sl), as[j]? = some s → ∃ r' v', (r :: rs)[j]? = some r' ∧ (v :: us)[j]? = some v' ∧ AR K G F H Γ σ (decide (io = some j)) r' v' s := by
      intro io' b s as' ar m ea eb ej
      subst ea
      obtain ⟨l, f⟩ := ih R h2 m
      refine ⟨by simp [l], fun j t z => ?_⟩
      cases j with
      | zero =>
        obtain rfl : s = t := by simpa using z
        exact ⟨r, v, rfl, rfl, eb ▸ ar⟩
      | succ j =>
        obtain ⟨r', v', q1, q2, q3⟩ := f j t (by simpa using z)
        exact ⟨r', v', by simpa using q1, by simpa using q2, by rw [← ej]; exact q3⟩
    cases io with
    | none =>
      unfold mkArgs at e
      cases q : argSl Γ r with
      | none => simp [q] at e
      | some s =>
        cases q2 : mkArgs Γ rs none with
        | none => simp [q, q2] at e
        | some as' =>
          simp [q, q2] at e
          exact done (argSl_ok R h1 q) q2 e.symm rfl fun j => rfl
    | some n =>
      cases n with
      | zero =>
        unfold mkArgs at e
        cases q : argIo Γ r with
        | none => simp [q] at e
        | some s =>
          cases q2 : mkArgs Γ rs none with
          | none => simp [q, q2] at e
          | some as' =>
            simp [q, q2] at e
            exact done (argIo_ok R h1 q) q2 e.symm rfl fun j => by simp
      | succ n =>
        unfold mkArgs at e
        cases q : argSl Γ r with
        | none => simp [q] at e
        | some s =>
          cases q2 : mkArgs Γ rs (some n) with
          | none => simp [q, q2] at e
          | some as' =>
            simp [q, q2] at e
            exact done (argSl_ok R h1 q) q2 e.symm (by simp) fun j => by simp
end
end FL

/-! FM: a call's value. -/
namespace FL
open PySem PySem.Spec L2

def slPut (Γ : Ga) (i : Nat) (ys : List D) : Option Ga := match Γ[i]? with
  | some (some (.ow _)) => some (Γ.set i (some (.ow ys)))
  | some (some (.io _)) => some (Γ.set i (some (.io ys)))
  | _ => none
def isSl (i : Nat) : RV → Bool
  | .sl j => i == j
  | _ => false
/-- what the callee made of the list that it may write -/
def ioBack (rvs : List RV) (io : Option Nat) (outs Γ : Ga) : Option Ga := match io with
  | none => some Γ
  | some j => match rvs[j]? with
    | some (.sl i) => if (rvs.eraseIdx j).all (fun r => !isSl i r) then (match outs[j]? with
      | some (some (.io ys)) => if noLs ys then slPut Γ i ys else none
      | _ => none) else none
    | _ => none
def Sl.flat : Sl → Bool
  | .fz d => noL d
  | .io xs => noLs xs
  | .scr _ => true
  | .ex _ _ => true
  | _ => false
/-- every argument is data, the script, or the list that may be written -/
def plainRv (Γ : Ga) : RV → Bool
  | .d _ => true
  | .ow _ => false
  | .sl i => match Γ[i]? with
    | some (some (.scr _)) => true
    | some (some (.fz _)) => true
    | _ => false
/-- the list that is to be written is handed over once -/
def ioFine (rvs : List RV) (io : Option Nat) : Bool := match io with
  | none => true
  | some j => match rvs[j]? with
    | some (.sl i) => (rvs.eraseIdx j).all fun r => !isSl i r
    | _ => false
def eCall (run : FnR) (np : Nat) (io : Option Nat) (fa : FnA) : FnE := fun Γ => (fa Γ).bind fun p => if p.1.length = np ∧ ioFine p.1 io = true then (match mkArgs p.2 p.1 io with
  | none => .bad
  | some args => match run args with
    | .bad => .bad
    | .exc e => .exc e
    | .ok d outs => match ioBack p.1 io outs p.2 with
      | none => .bad
      | some Γ2 => if noL d then .ok (.d d, Γ2) else match d with
        | .list ds => if args.all Sl.flat && noLs ds then .ok (.ow ds, Γ2) else if ((List.range p.1.length).all fun j => decide (io = some j) || ((p.1[j]?).map (plainRv p.2)).getD true) then .ok (.d (.list ds), Γ2) else .bad
        | d => if ((List.range p.1.length).all fun j => decide (io = some j) || ((p.1[j]?).map (plainRv p.2)).getD true) then .ok (.d d, Γ2) else .bad) else .bad
/-- fz: a list that comes back is told as data -/
def eCallB (fz : Bool) (run : FnR) (np : Nat) (io : Option Nat) (fa : FnA) : FnE := fun Γ => (fa Γ).bind fun p => if p.1.length = np ∧ ioFine p.1 io = true then (match mkArgs p.2 p.1 io with
  | none => .bad
  | some args => match run args with
    | .bad => .bad
    | .exc e => .exc e
    | .ok d outs => match ioBack p.1 io outs p.2 with
      | none => .bad
      | some Γ2 => if noL d then .ok (.d d, Γ2) else match d with
        | .list ds => if !fz && (args.all Sl.flat && noLs ds) then .ok (.ow ds, Γ2) else if ((List.range p.1.length).all fun j => decide (io = some j) || ((p.1[j]?).map (plainRv p.2)).getD true) then .ok (.d (.list ds), Γ2) else .bad
        | d => if ((List.range p.1.length).all fun j => decide (io = some j) || ((p.1[j]?).map (plainRv p.2)).getD true) then .ok (.d d, Γ2) else .bad) else .bad
abbrev eCallF : FnR → Nat → Option Nat → FnA → FnE := eCallB true
theorem eCall_eq : eCall = eCallB false := by
  funext run np io fa Γ
  unfold eCall eCallB
  simp only [Bool.not_false, Bool.true_and]
section
variable {K : Frag} {mg : Str → Option Value} {E : WX} {G : Hp} {pn : List (Nat × Addr)} {Γ Γ2 : Ga} {σ : St} {F F2 H H' : Hp}
theorem rep_after {io : Option Nat} (R : Rep K G pn Γ σ F H) (sF : Same F F2) (fh : Same F2 H') (gh : Same G H') (l : Γ2.length = Γ.length)
    (keep : ∀ (i : Nat) (s : Sl) (a : Addr), Γ[i]? = some (some s) → s.owned = true → σ[i]? = some (some (.ref a)) → io ≠ some i → (∀ vs, H a = some (.lst vs) → H' a = some (.lst vs)) ∧ F2 a = none)
    (hΓ : ∀ (j : Nat) (s : Sl), Γ2[j]? = some (some s) → (Γ[j]? = some (some s) ∧ io ≠ some j) ∨ (io = some j ∧ ∃ s0 a ys, Γ[j]? = some (some s0) ∧ s0.owned = true ∧ σ[j]? = some (some (.ref a)) ∧ (s = .ow ys ∨ s = .io ys) ∧ Own K G F2 H' a ys))
    (hp : ∀ (j : Nat) (s : Sl), Γ[j]? = some (some s) → s.pinned = true → ∃ s', Γ2[j]? = some (some s') ∧ s'.pinned = true) : Rep K G pn Γ2 σ F2 H' where
  fh := fh
  gh := gh
  sl := fun j s e => by
    rcases hΓ j s e with ⟨e1, hn⟩ | ⟨_, s0, a, ys, e0, o0, hv, hs, own⟩
    · obtain ⟨v, q1, q2⟩ := R.sl j s e1
      refine ⟨v, q1, ?_⟩
      cases s with
      | fz d => exact Rp.mono sF q2
      | scr ns => obtain ⟨a, rfl, h1⟩ := q2; exact ⟨a, rfl, h1.mono sF⟩
      | ex a c => exact q2
      | ow xs =>
        obtain ⟨a, rfl, vs, h1, h2, h3, h4⟩ := q2
        obtain ⟨k1, k2⟩ := keep j _ a e1 rfl q1 hn
        exact ⟨a, rfl, vs, k1 _ h1, RpAll.mono sF h2, k2, h4⟩
      | io xs =>
        obtain ⟨a, rfl, vs, h1, h2, h3, h4⟩ := q2
        obtain ⟨k1, k2⟩ := keep j _ a e1 rfl q1 hn
        exact ⟨a, rfl, vs, k1 _ h1, RpAll.mono sF h2, k2, h4⟩
      | lk xs =>
        obtain ⟨a, vs, rfl, h1, h2, h3⟩ := q2
        obtain ⟨k1, k2⟩ := keep j _ a e1 rfl q1 hn
        exact ⟨a, vs, rfl, h1, RpAll.mono sF h2, k2⟩
    · refine ⟨_, hv, ?_⟩
      rcases hs with rfl | rfl
      · exact ⟨a, rfl, own⟩
      · exact ⟨a, rfl, own⟩
  ap := fun j k sj sk a e1 e2 o1 o2 q1 q2 => by
    have f : ∀ (j : Nat) (s : Sl), Γ2[j]? = some (some s) → s.owned = true → ∃ t, Γ[j]? = some (some t) ∧ t.owned = true := fun j s e o => by
      rcases hΓ j s e with ⟨e1, _⟩ | ⟨_, s0, a, ys, e0, o0, _⟩
      · exact ⟨s, e1, o⟩
      · exact ⟨s0, e0, o0⟩
    obtain ⟨t1, y1, y2⟩ := f j sj e1 o1
    obtain ⟨t2, y3, y4⟩ := f k sk e2 o2
    exact R.ap j k t1 t2 a y1 y3 y2 y4 q1 q2
  lkp := fun j zs e => by
    rcases hΓ j _ e with ⟨e1, _⟩ | ⟨_, s0, a, ys, e0, o0, _, hs, _⟩
    · exact R.lkp j zs e1
    · rcases hs with z | z <;> cases z
  pn := fun p hpp => by
    obtain ⟨q1, s, q2, q3⟩ := R.pn p hpp
    obtain ⟨s', q4, q5⟩ := hp p.1 s q2 q3
    exact ⟨q1, s', q4, q5⟩
  len := l.trans R.len

/-- the addresses that the callee may write -/
def ioAt (as : List Sl) (vs : List V) : List (Nat × Addr) := (List.range as.length).filterMap fun (j : Nat) => match (as[j]? : Option Sl), (vs[j]? : Option V) with
  | some (Sl.io _), some (V.ref a) => some (j, a)
  | _, _ => none
theorem mem_ioAt {as : List Sl} {vs : List V} {p : Nat × Addr} : p ∈ ioAt as vs ↔ (∃ xs, as[p.1]? = some (.io xs)) ∧ vs[p.1]? = some (.ref p.2) := by
  unfold ioAt
  rw [List.mem_filterMap]
  constructor
  · rintro ⟨j, _, e⟩
    split at e
    · rename_i xs a e1 e2
      cases e
      exact ⟨⟨xs, e1⟩, e2⟩
    · cases e
  · rintro ⟨⟨xs, e1⟩, e2⟩
    have hl : p.1 < as.length := by
      rcases Nat.lt_or_ge p.1 as.length with h | h
      · exact h
      · rw [List.getElem?_eq_none h] at e1; cases e1
    exact ⟨p.1, List.mem_range.mpr hl, by rw [e1, e2]⟩
/-- what is to be kept by the callee -/
def keptBy (H : Hp) (ios : List (Nat × Addr)) : Hp := fun b => if ios.any (fun p => p.2 == b) then none else H b
theorem keptBy_out {H : Hp} {ios : List (Nat × Addr)} {b : Addr} (h : ∀ p ∈ ios, p.2 ≠ b) : keptBy H ios b = H b := by
  unfold keptBy
  rw [if_neg]
  intro z
  rw [List.any_eq_true] at z
  obtain ⟨p, hp, e⟩ := z
  exact h p hp (by simpa using e)
theorem keptBy_in {H : Hp} {ios : List (Nat × Addr)} {p : Nat × Addr} (h : p ∈ ios) : keptBy H ios p.2 = none := by
  unfold keptBy
  rw [if_pos]
  rw [List.any_eq_true]
  exact ⟨p, h, by simp⟩
theorem keptBy_same {H : Hp} {ios : List (Nat × Addr)} : Same (keptBy H ios) H := fun b o e => by
  unfold keptBy at e
  split at e
  · cases e
  · exact e

/-- the callee's frame, given how each argument is told in Fc -/
theorem callee_rep {as : List Sl} {vs : List V} {rs : List RV} {io : Option Nat} {Fc : Hp} (l : as.length = vs.length)
    (f : ∀ (j : Nat) (s : Sl), as[j]? = some s → ∃ r v, rs[j]? = some r ∧ vs[j]? = some v ∧ AR K G F H Γ σ (decide (io = some j)) r v s) (fh : Same Fc H)
    (tell : ∀ (j : Nat) (s : Sl) (r : RV) (v : V), as[j]? = some s → rs[j]? = some r → AR K G F H Γ σ (decide (io = some j)) r v s → match s with
      | .fz d => Rp K Fc v d
      | .scr ns => ∃ a, v = .ref a ∧ SqS K Fc a (ns.map V.int)
      | .ex a _ => v = .ref a
      | .io xs => ∃ a ws, v = .ref a ∧ H a = some (.lst ws) ∧ RpAll K Fc ws xs ∧ Fc a = none
      | _ => False) : Rep K (keptBy H (ioAt as vs)) (ioAt as vs) (as.map some) (vs.map some) Fc H := by
  have at1 : ∀ {j : Nat} {s : Sl}, (as.map some)[j]? = some (some s) → as[j]? = some s := fun {j s} e => by
    rw [List.getElem?_map] at e
    cases q : as[j]? with
    | none => rw [q] at e; cases e
    | some t => rw [q] at e; cases e; rfl
  have at2 : ∀ {j : Nat} {v : V}, vs[j]? = some v → (vs.map some)[j]? = some (some v) := fun {j v} e => by rw [List.getElem?_map, e]; rfl
  have isIo : ∀ {j : Nat} {s : Sl} {r : RV} {v : V}, AR K G F H Γ σ (decide (io = some j)) r v s → s.owned = true → io = some j ∧ ∃ xs, s = .io xs := fun {j s r v} ar o => by
    by_cases h : io = some j
    · refine ⟨h, ?_⟩
      rw [decide_eq_true h] at ar
      cases ar
      exact ⟨_, rfl⟩
    · rw [decide_eq_false h] at ar
      cases ar <;> cases o
  exact {
    fh := fh
    gh := keptBy_same
    sl := fun j s e => by
      have e := at1 e
      obtain ⟨r, v, e1, e2, ar⟩ := f j s e
      refine ⟨v, at2 e2, ?_⟩
      have t := tell j s r v e e1 ar
      cases s with
      | fz d => exact t
      | scr ns => exact t
      | ex a c => exact t
      | io xs =>
        obtain ⟨a, ws, rfl, h1, h2, h3⟩ := t
        exact ⟨a, rfl, ws, h1, h2, h3, keptBy_in (p := (j, a)) (mem_ioAt.mpr ⟨⟨xs, e⟩, e2⟩)⟩
      | ow xs => exact t.elim
      | lk xs => exact t.elim
    ap := fun i j si sj a e1 e2 o1 o2 q1 q2 => by
      obtain ⟨r1, v1, _, _, ar1⟩ := f i si (at1 e1)
      obtain ⟨r2, v2, _, _, ar2⟩ := f j sj (at1 e2)
      have h1 := (isIo ar1 o1).1
      have h2 := (isIo ar2 o2).1
      rw [h1] at h2
      exact Option.some.inj h2
    lkp := fun j zs e => by
      obtain ⟨r, v, _, _, ar⟩ := f j _ (at1 e)
      obtain ⟨_, xs, z⟩ := isIo ar rfl
      cases z
    pn := fun p hp => by
      obtain ⟨⟨xs, e1⟩, e2⟩ := mem_ioAt.mp hp
      exact ⟨at2 e2, .io xs, by rw [List.getElem?_map, e1]; rfl, rfl⟩
    len := by simp [l] }
end

theorem slPut_ok {Γ Γ2 : Ga} {i : Nat} {ys : List D} (e : slPut Γ i ys = some Γ2) : ∃ s0 s, Γ[i]? = some (some s0) ∧ s0.owned = true ∧ s0.pinned = s.pinned ∧ (s = .ow ys ∨ s = .io ys) ∧ Γ2 = Γ.set i (some s) := by
  unfold slPut at e
  split at e
  · rename_i xs q; cases e; exact ⟨_, .ow ys, q, rfl, rfl, .inl rfl, rfl⟩
  · rename_i xs q; cases e; exact ⟨_, .io ys, q, rfl, rfl, .inr rfl, rfl⟩
  · cases e
/-- what of F a callee is shown: not the lists -/
def noLst (F : Hp) : Hp := fun b => match F b with
  | some (.lst _) => none
  | o => o
theorem noLst_some {F : Hp} {b : Addr} {o : HO} (h : noLst F b = some o) : F b = some o ∧ ∀ vs, o ≠ .lst vs := by
  unfold noLst at h
  split at h
  · cases h
  · rename_i hn
    exact ⟨h, fun vs z => hn vs (by rw [h, z])⟩
theorem noLst_same {F : Hp} : Same (noLst F) F := fun b o h => (noLst_some h).1
theorem noLst_keep {F : Hp} {b : Addr} {o : HO} (h : F b = some o) (n : ∀ vs, o ≠ .lst vs) : noLst F b = some o := by
  unfold noLst
  split
  · rename_i vs e
    rw [h] at e
    cases e
    exact absurd rfl (n vs)
  · exact h
theorem noLst_sqT {K : Frag} {F : Hp} {a : Addr} {vs : List V} (h : SqT K F a vs) : SqT K (noLst F) a vs := by
  rcases h with (h | ⟨o, h⟩) | h
  · exact .inl (.inl (noLst_keep h fun _ z => by cases z))
  · exact .inl (.inr ⟨o, noLst_keep h fun _ z => by cases z⟩)
  · exact .inr h
theorem noLst_sqS {K : Frag} {F : Hp} {a : Addr} {vs : List V} (h : SqS K F a vs) : SqS K (noLst F) a vs := by
  rcases h with ⟨o, h⟩ | h
  · exact .inl ⟨o, noLst_keep h fun _ z => by cases z⟩
  · exact .inr h
section
variable {K : Frag} {mg : Str → Option Value} {E : WX} {G : Hp} {pn : List (Nat × Addr)} {Γ Γ2 : Ga} {σ : St} {F F2 H H' : Hp}
/-- the caller's side of the list that was handed over to be written -/
theorem ioBack_ok {rvs : List RV} {io : Option Nat} {outs : Ga} {as : List Sl} {vs : List V} (f : ∀ (j : Nat) (s : Sl), as[j]? = some s → ∃ r v, rvs[j]? = some r ∧ vs[j]? = some v ∧ AR K G F H Γ σ (decide (io = some j)) r v s)
    (la : as.length = rvs.length) (e : ioBack rvs io outs Γ = some Γ2) : (io = none ∧ Γ2 = Γ) ∨ ∃ j i a xs ys ws s0 s, io = some j ∧ rvs[j]? = some (.sl i) ∧ as[j]? = some (.io xs) ∧ vs[j]? = some (.ref a) ∧ σ[i]? = some (some (.ref a)) ∧ H a = some (.lst ws) ∧ RpAll K F ws xs ∧ F a = none ∧ G a = none ∧
      outs[j]? = some (some (.io ys)) ∧ noLs ys = true ∧ Γ[i]? = some (some s0) ∧ s0.owned = true ∧ s0.pinned = s.pinned ∧ (s = .ow ys ∨ s = .io ys) ∧ Γ2 = Γ.set i (some s) ∧ ∀ (j' : Nat), j' ≠ j → rvs[j']? ≠ some (.sl i) := by
  unfold ioBack at e
  cases io with
  | none => cases e; exact .inl ⟨rfl, rfl⟩
  | some j =>
    simp only at e
    cases q : rvs[j]? with
    | none => simp [q] at e
    | some r =>
      cases r with
      | d x => simp [q] at e
      | ow x => simp [q] at e
      | sl i =>
        simp only [q] at e
        split at e
        · rename_i once
          cases q2 : outs[j]? with
          | none => simp [q2] at e
          | some o =>
            cases o with
            | none => simp [q2] at e
            | some t =>
              cases t with
              | io ys =>
                simp only [q2] at e
                split at e
                · rename_i hn
                  obtain ⟨s0, s, e1, e2, e3, e4, e5⟩ := slPut_ok e
                  have hl : j < as.length := by
                    rw [la]
                    rcases Nat.lt_or_ge j rvs.length with h | h
                    · exact h
                    · rw [List.getElem?_eq_none h] at q; cases q
                  obtain ⟨r, v, k1, k2, ar⟩ := f j as[j] (List.getElem?_eq_getElem hl)
                  have er : r = .sl i := Option.some.inj (k1.symm.trans q)
                  subst er
                  rw [decide_eq_true rfl] at ar
                  have hj : as[j]? = some as[j] := List.getElem?_eq_getElem hl
                  generalize as[j] = t at ar hj
                  cases ar with
                  | io g1 g2 g3 g4 g5 g6 g7 =>
                    refine .inr ⟨j, i, _, _, ys, _, s0, s, rfl, q, hj, k2, g3, g4, g5, g6, g7, q2, hn, e1, e2, e3, e4, e5, fun j' hj' z => ?_⟩
                    rw [List.all_eq_true] at once
                    have := once (.sl i) (List.mem_eraseIdx_iff_getElem?.mpr ⟨j', hj', z⟩)
                    simp [isSl] at this
                · cases e
              | _ => simp [q2] at e
        · cases e
end

theorem RvAll.len {K : Frag} {F : Hp} {σ : St} {vs : List V} {rs : List RV} (h : RvAll K F σ vs rs) : vs.length = rs.length := by
  induction h with
  | nil => rfl
  | d _ _ ih => simp [ih]
  | sl _ _ ih => simp [ih]
section
variable {K : Frag} {mg : Str → Option Value} {E : WX} {G : Hp} {pn : List (Nat × Addr)} {Γ Γ2 : Ga} {σ : St} {F H : Hp}
/-- the slots behind the call, but for the heaps -/
theorem back_slots {rvs : List RV} {io : Option Nat} {outs : Ga} {as : List Sl} {vs : List V} {F2 H' F' : Hp} {Gc : Hp} (R : Rep K G pn Γ σ F H)
    (f : ∀ (j : Nat) (s : Sl), as[j]? = some s → ∃ r v, rvs[j]? = some r ∧ vs[j]? = some v ∧ AR K G F H Γ σ (decide (io = some j)) r v s)
    (la : as.length = rvs.length) (lv : as.length = vs.length) (e : ioBack rvs io outs Γ = some Γ2) (sF : Same F F2) (fh : Same F2 H') (gh : Same (keptBy H (ioAt as vs)) H')
    (own : ∀ p ∈ ioAt as vs, ∃ xs, outs[p.1]? = some (some (.io xs)) ∧ Own K Gc F' H' p.2 xs) (tup : ∀ a us, SqT K F' a us → SqT K F2 a us)
    (none2 : ∀ (i : Nat) (s : Sl) (a : Addr), Γ[i]? = some (some s) → s.owned = true → σ[i]? = some (some (.ref a)) → F' a = none → F2 a = none)
    (none1 : ∀ (i : Nat) (s : Sl) (a : Addr), Γ[i]? = some (some s) → s.owned = true → σ[i]? = some (some (.ref a)) → (∀ p ∈ ioAt as vs, p.2 ≠ a) → F2 a = none) : Rep K G pn Γ2 σ F2 H' := by
  have ioAddr : ∀ {i : Nat} {s : Sl} {a : Addr}, Γ[i]? = some (some s) → s.owned = true → σ[i]? = some (some (.ref a)) → (∃ p ∈ ioAt as vs, p.2 = a) → ∃ j, io = some j ∧ rvs[j]? = some (.sl i) := fun {i s a} e1 o1 hv ⟨p, hp, ep⟩ => by
    obtain ⟨⟨xs, p1⟩, p2⟩ := mem_ioAt.mp hp
    obtain ⟨r, v, k1, k2, ar⟩ := f p.1 _ p1
    by_cases hi : io = some p.1
    · refine ⟨p.1, hi, ?_⟩
      rw [decide_eq_true hi] at ar
      rw [p2] at k2
      cases k2
      generalize hz : V.ref p.2 = z at ar
      cases ar with
      | @io i' s' a' ws' xs' g1 g2 g3 g4 g5 g6 g7 =>
        cases hz
        rw [ep] at g3
        have ow : s'.owned = true := by rcases g2 with rfl | rfl <;> rfl
        have := R.ap i i' s s' a e1 g1 o1 ow hv g3
        rw [this]
        exact k1
    · rw [decide_eq_false hi] at ar
      cases ar
  have gG : Same G H' := fun b o q => by
    by_cases hb : ∃ p ∈ ioAt as vs, p.2 = b
    · exfalso
      obtain ⟨p, hp, ep⟩ := hb
      obtain ⟨⟨xs, p1⟩, p2⟩ := mem_ioAt.mp hp
      obtain ⟨r, v, k1, k2, ar⟩ := f p.1 _ p1
      rw [p2] at k2
      cases k2
      by_cases hi : io = some p.1
      · rw [decide_eq_true hi] at ar
        generalize hz : V.ref p.2 = z at ar
        cases ar with
        | io g1 g2 g3 g4 g5 g6 g7 =>
          cases hz
          rw [ep, q] at g7; cases g7
      · rw [decide_eq_false hi] at ar
        cases ar
    · exact gh b o (by rw [keptBy_out fun p hp z => hb ⟨p, hp, z⟩]; exact R.gh _ _ q)
  rcases ioBack_ok f la e with ⟨rfl, rfl⟩ | ⟨j, i, a, xs, ys, ws, s0, s, rfl, h1, h2, h3, h4, h5, h6, h7, h8, h9, h10, h11, h12, h13, h14, rfl, h16⟩
  · refine rep_after (io := none) R sF fh gG rfl (fun i s a e1 o1 hv _ => ?_) (fun j s e1 => .inl ⟨e1, by simp⟩) fun j s e1 p => ⟨s, e1, p⟩
    have nio : ∀ p ∈ ioAt as vs, p.2 ≠ a := fun p hp z => by
      obtain ⟨j, hj, _⟩ := ioAddr e1 o1 hv ⟨p, hp, z⟩
      cases hj
    exact ⟨fun us q => gh _ _ (by rw [keptBy_out nio]; exact q), none1 i s a e1 o1 hv nio⟩
  · have hl : i < Γ.length := by
      rcases Nat.lt_or_ge i Γ.length with h | h
      · exact h
      · rw [List.getElem?_eq_none h] at h11; cases h11
    obtain ⟨zs, o1, o2⟩ := own (j, a) (mem_ioAt.mpr ⟨⟨xs, h2⟩, h3⟩)
    rw [h9] at o1
    cases o1
    obtain ⟨us, o3, o4, o5, _⟩ := o2
    refine rep_after (io := some i) R sF fh gG (by simp) (fun i' s' a' e1 ow hv hn => ?_) (fun j' s' e1 => ?_) fun j' s' e1 p => ?_
    · have nio : ∀ p ∈ ioAt as vs, p.2 ≠ a' := fun p hp z => by
        obtain ⟨j', hj, hr⟩ := ioAddr e1 ow hv ⟨p, hp, z⟩
        cases hj
        rw [h1] at hr
        cases hr
        exact hn rfl
      exact ⟨fun us q => gh _ _ (by rw [keptBy_out nio]; exact q), none1 i' s' a' e1 ow hv nio⟩
    · rcases get_set e1 with ⟨z1, z2, _⟩ | ⟨z1, z2⟩
      · subst z1
        obtain rfl : s' = s := Option.some.inj z2
        exact .inr ⟨rfl, s0, a, ys, h11, h12, h4, h14, us, o3, RpAll.flat tup o4 h10, none2 _ _ _ h11 h12 h4 o5, h8⟩
      · exact .inl ⟨z2, fun z => z1 (Option.some.inj z).symm⟩
    · by_cases hj : j' = i
      · subst hj
        rw [h11] at e1
        cases e1
        exact ⟨s, by rw [List.getElem?_set_self hl], by rw [← h13]; exact p⟩
      · exact ⟨s', by rw [List.getElem?_set_ne (Ne.symm hj)]; exact e1, p⟩
end
end FL

/-! FN: a call's value, the rule. -/
namespace FL
open PySem PySem.Spec L2

section
variable {K : Frag} {mg : Str → Option Value} {E : WX} {G : Hp} {pn : List (Nat × Addr)} {Γ Γ2 : Ga} {σ : St} {F H : Hp}
/-- a list is lent to the callee -/
def Lent (Γ : Ga) (σ : St) (rvs : List RV) (io : Option Nat) (b : Addr) : Prop := ∃ (j i : Nat) (s : Sl), rvs[j]? = some (.sl i) ∧ io ≠ some j ∧ Γ[i]? = some (some s) ∧ s.owned = true ∧ σ[i]? = some (some (.ref b))
theorem lent_there {rvs : List RV} {io : Option Nat} {b : Addr} (R : Rep K G pn Γ σ F H) (h : Lent Γ σ rvs io b) : ∃ ws, H b = some (.lst ws) ∧ F b = none := by
  obtain ⟨j, i, s, _, _, e, o, hv⟩ := h
  obtain ⟨v, q1, q2⟩ := R.sl i s e
  rw [hv] at q1
  cases q1
  obtain ⟨a, ws, ea, h1, h2⟩ := q2.there R.gh o
  cases ea
  exact ⟨ws, h1, h2⟩
theorem lent_fine {rvs : List RV} {io : Option Nat} {j i : Nat} {s : Sl} {a : Addr} (R : Rep K G pn Γ σ F H) (fine : ioFine rvs io = true) (hi : io = some j) (hr : rvs[j]? = some (.sl i)) (e : Γ[i]? = some (some s)) (o : s.owned = true) (hv : σ[i]? = some (some (.ref a))) : ¬ Lent Γ σ rvs io a := by
  rintro ⟨j', i', s', r1, r2, r3, r4, r5⟩
  have ei : i' = i := R.ap i' i s' s a r3 e r4 o r5 hv
  subst ei
  subst hi
  unfold ioFine at fine
  simp only [hr] at fine
  rw [List.all_eq_true] at fine
  have hj : j' ≠ j := fun z => r2 (by rw [z])
  have := fine (.sl i') (List.mem_eraseIdx_iff_getElem?.mpr ⟨j', hj, r1⟩)
  simp [isSl] at this
theorem plain_all {rvs : List RV} {io : Option Nat} (h : ((List.range rvs.length).all fun j => decide (io = some j) || ((rvs[j]?).map (plainRv Γ)).getD true) = true) {j : Nat} {r : RV} (e : rvs[j]? = some r) (hn : io ≠ some j) : plainRv Γ r = true := by
  rw [List.all_eq_true] at h
  have hl : j < rvs.length := by
    rcases Nat.lt_or_ge j rvs.length with h | h
    · exact h
    · rw [List.getElem?_eq_none h] at e; cases e
  have := h j (List.mem_range.mpr hl)
  rw [decide_eq_false hn, e] at this
  simpa using this
open Classical in
theorem key_callB {fz : Bool} {run : FnR} {io : Option Nat} {fa : FnA} {np : Nat} : ∀ σ H Q, tE K mg E (eCallB fz run np io fa) σ H Q → tCallK K mg E run np (tA K mg E fa) σ H Q := fun σ H Q ⟨G, pn, F, Γ, R, h⟩ => by
  refine ⟨G, pn, F, Γ, R, ?_⟩
  unfold eCallB at h
  cases q : fa Γ with
  | bad => rw [q] at h; exact h
  | exc x => rw [q] at h; exact h
  | ok p =>
    obtain ⟨rvs, Γ1⟩ := p
    rw [q] at h
    simp only [Rs.bind_ok] at h
    intro vs F1 H1 A1 R1 rv
    split at h
    · rename_i hz
      obtain ⟨hnp, fine⟩ := hz
      cases m : mkArgs Γ1 rvs io with
      | none => simp only [m] at h; exact h.elim
      | some as =>
        simp only [m] at h
        obtain ⟨lv, f⟩ := mkArgs_ok R1 rv m
        have la : as.length = rvs.length := lv.trans rv.len
        refine ⟨by rw [rv.len]; exact hnp, keptBy H1 (ioAt as vs), ioAt as vs, ?_⟩
        have free : ∀ p ∈ ioAt as vs, keptBy H1 (ioAt as vs) p.2 = none := fun p hp => keptBy_in hp
        have ioInfo : ∀ p ∈ ioAt as vs, F1 p.2 = none ∧ G p.2 = none ∧ ∃ j i s, io = some j ∧ rvs[j]? = some (.sl i) ∧ Γ1[i]? = some (some s) ∧ s.owned = true ∧ σ[i]? = some (some (.ref p.2)) := fun p hp => by
          obtain ⟨⟨xs, p1⟩, p2⟩ := mem_ioAt.mp hp
          obtain ⟨r, v, k1, k2, ar⟩ := f p.1 _ p1
          rw [p2] at k2
          cases k2
          by_cases hi : io = some p.1
          · rw [decide_eq_true hi] at ar
            generalize hz : V.ref p.2 = z at ar
            cases ar with
            | @io i' s' a' ws' xs' g1 g2 g3 g4 g5 g6 g7 =>
              cases hz
              exact ⟨g6, g7, p.1, i', s', hi, k1, g1, by rcases g2 with rfl | rfl <;> rfl, g3⟩
          · rw [decide_eq_false hi] at ar
            cases ar
        have once : ∀ p ∈ ioAt as vs, ¬ Lent Γ1 σ rvs io p.2 := fun p hp => by
          obtain ⟨_, _, j, i, s, h1, h2, h3, h4, h5⟩ := ioInfo p hp
          exact lent_fine R1 fine h1 h2 h3 h4 h5
        have gOut : ∀ {b : Addr}, H1 b ≠ none → (∀ p ∈ ioAt as vs, p.2 ≠ b) → keptBy H1 (ioAt as vs) b = H1 b ∧ keptBy H1 (ioAt as vs) b ≠ none := fun {b} hb hp => by
          have e := keptBy_out (H := H1) hp
          exact ⟨e, by rw [e]; exact hb⟩
        have gNot : ∀ {b : Addr}, G b ≠ none → H1 b ≠ none ∧ ∀ p ∈ ioAt as vs, p.2 ≠ b := fun {b} hb => ⟨fun z => hb (R1.gh.free z), fun p hp z => hb (by rw [← z]; exact (ioInfo p hp).2.1)⟩
        have fNot : ∀ {b : Addr}, F1 b ≠ none → H1 b ≠ none ∧ ∀ p ∈ ioAt as vs, p.2 ≠ b := fun {b} hb => ⟨fun z => hb (R1.fh.free z), fun p hp z => hb (by rw [← z]; exact (ioInfo p hp).1)⟩
        -- the heap that is shown, lists lent in it
        obtain ⟨FA, hFA⟩ : ∃ FA : Hp, FA = fun b => if Lent Γ1 σ rvs io b then H1 b else F1 b := ⟨_, rfl⟩
        have FA_in : ∀ {b : Addr}, Lent Γ1 σ rvs io b → FA b = H1 b := fun {b} hb => by rw [hFA]; exact if_pos hb
        have FA_out : ∀ {b : Addr}, ¬ Lent Γ1 σ rvs io b → FA b = F1 b := fun {b} hb => by rw [hFA]; exact if_neg hb
        have sFA : Same F1 FA := fun b o e => by
          rw [FA_out fun z => by obtain ⟨ws, _, z2⟩ := lent_there R1 z; rw [e] at z2; cases z2]
          exact e
        have sAH : Same FA H1 := fun b o e => by
          by_cases hb : Lent Γ1 σ rvs io b
          · rw [FA_in hb] at e; exact e
          · rw [FA_out hb] at e; exact R1.fh _ _ e
        have repA : Rep K (keptBy H1 (ioAt as vs)) (ioAt as vs) (as.map some) (vs.map some) FA H1 := callee_rep lv f sAH fun j s r v e1 e2 ar => by
          cases hb : decide (io = some j) with
          | false =>
            rw [hb] at ar
            cases ar with
            | d h => exact Rp.mono sFA h
            | fz _ h => exact Rp.mono sFA h
            | bor g1 g2 g3 g4 g5 g6 g7 => exact .lst (by rw [FA_in ⟨j, _, _, e2, of_decide_eq_false hb, g1, g2, g3⟩]; exact g4) (RpAll.mono sFA g5)
            | scr _ h => exact ⟨_, rfl, h.mono sFA⟩
            | ex _ => rfl
          | true =>
            rw [hb] at ar
            cases ar with
            | @io i' s' a' ws' xs' g1 g2 g3 g4 g5 g6 g7 =>
              refine ⟨_, _, rfl, g4, RpAll.mono sFA g5, ?_⟩
              have ow : s'.owned = true := by rcases g2 with rfl | rfl <;> rfl
              rw [FA_out (lent_fine R1 fine (of_decide_eq_true hb) e2 g1 ow g3)]
              exact g6
        cases er : run as with
        | bad => simp only [er] at h; exact h.elim
        | exc ex =>
          simp only [er] at h
          refine ⟨FA, as, repA, free, ?_⟩
          rw [er]
          intro c d F' H' A' s1 s2 x
          refine PostX.adv h A1 c d F1 H' (Adv.refl G F1) (fun b o e => s1 _ _ (A'.same _ _ (sFA _ _ e))) (fun b o e => ?_) x
          obtain ⟨n1, n2⟩ := gNot (b := b) (by rw [e]; intro z; cases z)
          exact s2 b o (by rw [(gOut n1 n2).1]; exact R1.gh _ _ e)
        | ok d outs =>
          simp only [er] at h
          cases eb : ioBack rvs io outs Γ1 with
          | none => simp only [eb] at h; exact h.elim
          | some Γ2 =>
            simp only [eb] at h
            -- what is shown where nothing is lent
            have plain : ((List.range rvs.length).all fun j => decide (io = some j) || ((rvs[j]?).map (plainRv Γ1)).getD true) = true → PostE K mg E G pn σ F Q (.ok (.d d, Γ2)) → ∃ F args, Rep K (keptBy H1 (ioAt as vs)) (ioAt as vs) (args.map some) (vs.map some) F H1 ∧ (∀ p ∈ ioAt as vs, keptBy H1 (ioAt as vs) p.2 = none) ∧ PostC K mg (fun c d H => E c d σ H) (keptBy H1 (ioAt as vs)) (ioAt as vs) F Q (run args) := fun pl h => by
              have noLent : ∀ {b : Addr}, ¬ Lent Γ1 σ rvs io b := fun {b} ⟨j, i, s, z1, z2, z3, z4, _⟩ => by
                have := plain_all pl z1 z2
                simp only [plainRv, z3] at this
                cases s <;> simp [Sl.owned] at z4 this
              have eFA : FA = F1 := funext fun b => FA_out noLent
              refine ⟨FA, as, repA, free, ?_⟩
              rw [er]
              intro v F' H' A' s1 s2 rp own
              rw [eFA] at A'
              have R2 : Rep K G pn Γ2 σ F' H' := back_slots R1 f la lv eb A'.same s1 s2 own (fun _ _ z => z) (fun _ _ _ _ _ _ z => z) fun i s a e1 o1 hv nio => by
                obtain ⟨u, q1, q2⟩ := R1.sl i s e1
                rw [hv] at q1
                cases q1
                obtain ⟨a', ws, ea, k1, k2⟩ := q2.there R1.gh o1
                cases ea
                rw [A'.out a (gOut (by rw [k1]; intro z; cases z) nio).2]
                exact k2
              refine h v F' H' (A1.trans ⟨A'.same, fun b hb => ?_⟩) R2 rp
              obtain ⟨n1, n2⟩ := gNot hb
              exact A'.out b (gOut n1 n2).2
            by_cases hn : noL d = true
            · -- the lists that were lent are the caller's again
              rw [if_pos hn] at h
              refine ⟨FA, as, repA, free, ?_⟩
              rw [er]
              intro v F' H' A' s1 s2 rp own
              obtain ⟨FZ, hFZ⟩ : ∃ FZ : Hp, FZ = fun b => if Lent Γ1 σ rvs io b then none else F' b := ⟨_, rfl⟩
              have FZ_in : ∀ {b : Addr}, Lent Γ1 σ rvs io b → FZ b = none := fun {b} hb => by rw [hFZ]; exact if_pos hb
              have FZ_out : ∀ {b : Addr}, ¬ Lent Γ1 σ rvs io b → FZ b = F' b := fun {b} hb => by rw [hFZ]; exact if_neg hb
              have lentF' : ∀ {b : Addr}, Lent Γ1 σ rvs io b → ∃ ws, F' b = some (.lst ws) := fun {b} hb => by
                obtain ⟨ws, k1, k2⟩ := lent_there R1 hb
                exact ⟨ws, A'.same _ _ (by rw [FA_in hb]; exact k1)⟩
              have sFZ : Same F1 FZ := fun b o e => by
                have nl : ¬ Lent Γ1 σ rvs io b := fun z => by obtain ⟨ws, _, z2⟩ := lent_there R1 z; rw [e] at z2; cases z2
                rw [FZ_out nl]
                exact A'.same _ _ (sFA _ _ e)
              have sZH : Same FZ H' := fun b o e => by
                by_cases hb : Lent Γ1 σ rvs io b
                · rw [FZ_in hb] at e; cases e
                · rw [FZ_out hb] at e; exact s1 _ _ e
              have tup : ∀ a us, SqT K F' a us → SqT K FZ a us := fun a us z => by
                rcases z with (z | ⟨o, z⟩) | z
                · exact .inl (.inl (by rw [FZ_out fun y => by obtain ⟨ws, y2⟩ := lentF' y; rw [z] at y2; cases y2]; exact z))
                · exact .inl (.inr ⟨o, by rw [FZ_out fun y => by obtain ⟨ws, y2⟩ := lentF' y; rw [z] at y2; cases y2]; exact z⟩)
                · exact .inr z
              have R2 : Rep K G pn Γ2 σ FZ H' := back_slots R1 f la lv eb sFZ sZH s2 own tup (fun i s a e1 o1 hv z => by
                  by_cases hb : Lent Γ1 σ rvs io a
                  · exact FZ_in hb
                  · rw [FZ_out hb]; exact z) fun i s a e1 o1 hv nio => by
                by_cases hb : Lent Γ1 σ rvs io a
                · exact FZ_in hb
                · obtain ⟨u, q1, q2⟩ := R1.sl i s e1
                  rw [hv] at q1
                  cases q1
                  obtain ⟨a', ws, ea, k1, k2⟩ := q2.there R1.gh o1
                  cases ea
                  rw [FZ_out hb, A'.out a (gOut (by rw [k1]; intro z; cases z) nio).2, FA_out hb]
                  exact k2
              refine h v FZ H' (A1.trans ⟨sFZ, fun b hb => ?_⟩) R2 (Rp.flat tup rp hn)
              obtain ⟨n1, n2⟩ := gNot hb
              by_cases hL : Lent Γ1 σ rvs io b
              · obtain ⟨ws, _, k2⟩ := lent_there R1 hL
                rw [FZ_in hL, k2]
              · rw [FZ_out hL, A'.out b (gOut n1 n2).2, FA_out hL]
            · rw [if_neg hn] at h
              have other : (((List.range rvs.length).all fun j => decide (io = some j) || ((rvs[j]?).map (plainRv Γ1)).getD true) = true ∧ PostE K mg E G pn σ F Q (.ok (.d d, Γ2))) ∨ ∃ ds, d = .list ds ∧ as.all Sl.flat = true ∧ noLs ds = true ∧ PostE K mg E G pn σ F Q (.ok (.ow ds, Γ2)) := by
                cases d with
                | list ds =>
                  simp only at h
                  split at h
                  · rename_i hf
                    rw [Bool.and_eq_true, Bool.and_eq_true] at hf
                    exact .inr ⟨ds, rfl, hf.2.1, hf.2.2, h⟩
                  · split at h
                    · rename_i hp; exact .inl ⟨hp, h⟩
                    · exact h.elim
                | _ =>
                  simp only at h
                  split at h
                  · rename_i hp; exact .inl ⟨hp, h⟩
                  · exact h.elim
              rcases other with ⟨pl, h⟩ | ⟨ds, rfl, fl, nds, h⟩
              · exact plain pl h
              · -- nothing but flat data is shown: a list that comes back is new
                have flatArg : ∀ {j : Nat} {s : Sl}, as[j]? = some s → s.flat = true := fun {j s} e => by
                  rw [List.all_eq_true] at fl
                  exact fl s (List.mem_of_getElem? e)
                have repN : Rep K (keptBy H1 (ioAt as vs)) (ioAt as vs) (as.map some) (vs.map some) (noLst F1) H1 := callee_rep lv f (noLst_same.trans R1.fh) fun j s r v e1 e2 ar => by
                  have fs := flatArg e1
                  have nt : ∀ a us, SqT K F1 a us → SqT K (noLst F1) a us := fun _ _ z => noLst_sqT z
                  cases hb : decide (io = some j) with
                  | false =>
                    rw [hb] at ar
                    cases ar with
                    | d h => exact Rp.flat nt h fs
                    | fz _ h => exact Rp.flat nt h fs
                    | bor g1 g2 g3 g4 g5 g6 g7 => unfold Sl.flat noL at fs; cases fs
                    | scr _ h => exact ⟨_, rfl, noLst_sqS h⟩
                    | ex _ => rfl
                  | true =>
                    rw [hb] at ar
                    cases ar with
                    | @io i' s' a' ws' xs' g1 g2 g3 g4 g5 g6 g7 =>
                      refine ⟨_, _, rfl, g4, RpAll.flat nt g5 fs, ?_⟩
                      cases z : noLst F1 a' with
                      | none => rfl
                      | some o => rw [(noLst_some z).1] at g6; cases g6
                refine ⟨noLst F1, as, repN, free, ?_⟩
                rw [er]
                intro v F' H' A' s1 s2 rp own
                cases rp with
                | @lst a ws _ g1 g2 =>
                  -- the list's address is new
                  have newA : H1 a = none ∧ ∀ p ∈ ioAt as vs, p.2 ≠ a := by
                    have nio : ∀ p ∈ ioAt as vs, p.2 ≠ a := fun p hp z => by
                      obtain ⟨xs, _, us, _, _, k3, _⟩ := own p hp
                      rw [z, g1] at k3; cases k3
                    refine ⟨?_, nio⟩
                    cases z : H1 a with
                    | none => rfl
                    | some o =>
                      exfalso
                      have e1 := A'.out a (gOut (by rw [z]; intro y; cases y) nio).2
                      rw [g1] at e1
                      exact (noLst_some e1.symm).2 ws rfl
                  obtain ⟨FZ, hFZ⟩ : ∃ FZ : Hp, FZ = fun b => if b = a then none else match F1 b with | some o => some o | none => F' b := ⟨_, rfl⟩
                  have FZa : FZ a = none := by rw [hFZ]; exact if_pos rfl
                  have FZ1 : ∀ {b : Addr} {o : HO}, F1 b = some o → FZ b = some o := fun {b o} e => by
                    have ne : b ≠ a := fun z => by rw [z] at e; have := R1.fh _ _ e; rw [newA.1] at this; cases this
                    rw [hFZ]
                    show (if b = a then none else _) = _
                    rw [if_neg ne, e]
                  have FZ2 : ∀ {b : Addr}, b ≠ a → F1 b = none → FZ b = F' b := fun {b} ne e => by
                    rw [hFZ]
                    show (if b = a then none else _) = _
                    rw [if_neg ne, e]
                  have keepF : ∀ {b : Addr} {o : HO}, F1 b = some o → H' b = some o := fun {b o} e => by
                    obtain ⟨n1, n2⟩ := fNot (b := b) (by rw [e]; intro z; cases z)
                    exact s2 _ _ (by rw [(gOut n1 n2).1]; exact R1.fh _ _ e)
                  have sFZ : Same F1 FZ := fun b o e => FZ1 e
                  have sZH : Same FZ H' := fun b o e => by
                    by_cases ne : b = a
                    · rw [ne, FZa] at e; cases e
                    · cases k : F1 b with
                      | some o' => rw [FZ1 k] at e; cases e; exact keepF k
                      | none => rw [FZ2 ne k] at e; exact s1 _ _ e
                  have rd : ∀ {b : Addr} {o : HO}, F' b = some o → (∀ us, o ≠ .lst us) → FZ b = some o := fun {b o} e no => by
                    have ne : b ≠ a := fun z => by rw [z, g1] at e; cases e; exact no _ rfl
                    cases k : F1 b with
                    | some o' =>
                      rw [FZ1 k]
                      have e1 := keepF k
                      have e2 := s1 _ _ e
                      rw [e1] at e2
                      exact e2
                    | none => rw [FZ2 ne k]; exact e
                  have tup : ∀ c us, SqT K F' c us → SqT K FZ c us := fun c us z => by
                    rcases z with (z | ⟨o, z⟩) | z
                    · exact .inl (.inl (rd z fun _ y => by cases y))
                    · exact .inl (.inr ⟨o, rd z fun _ y => by cases y⟩)
                    · exact .inr z
                  have ownNone : ∀ {i : Nat} {s : Sl} {c : Addr}, Γ1[i]? = some (some s) → s.owned = true → σ[i]? = some (some (.ref c)) → F1 c = none ∧ H1 c ≠ none ∧ c ≠ a := fun {i s c} e1 o1 hv => by
                    obtain ⟨u, q1, q2⟩ := R1.sl i s e1
                    rw [hv] at q1
                    cases q1
                    obtain ⟨a', ws', ea, k1, k2⟩ := q2.there R1.gh o1
                    cases ea
                    exact ⟨k2, (fun z => by rw [k1] at z; cases z), (fun z => by rw [z, newA.1] at k1; cases k1)⟩
                  have nl : ∀ {c : Addr}, F1 c = none → noLst F1 c = none := fun {c} e => by
                    cases z : noLst F1 c with
                    | none => rfl
                    | some o => rw [(noLst_some z).1] at e; cases e
                  have R2 : Rep K G pn Γ2 σ FZ H' := back_slots R1 f la lv eb sFZ sZH s2 own tup (fun i s c e1 o1 hv z => by
                      obtain ⟨k1, k2, k3⟩ := ownNone e1 o1 hv
                      rw [FZ2 k3 k1]; exact z) fun i s c e1 o1 hv nio => by
                    obtain ⟨k1, k2, k3⟩ := ownNone e1 o1 hv
                    rw [FZ2 k3 k1, A'.out c (gOut k2 nio).2]
                    exact nl k1
                  have Ga0 : G a = none := R1.gh.free newA.1
                  refine h (.ref a) FZ H' (A1.trans ⟨sFZ, fun b hb => ?_⟩) R2 ⟨a, rfl, ⟨ws, s1 _ _ g1, RpAll.flat tup g2 nds, FZa, Ga0⟩, fun j sj e o z => ?_⟩
                  · obtain ⟨n1, n2⟩ := gNot hb
                    cases k : F1 b with
                    | some o => exact FZ1 k
                    | none =>
                      have ne : b ≠ a := fun z => by rw [z] at hb; exact hb Ga0
                      rw [FZ2 ne k, A'.out b (gOut n1 n2).2]
                      exact nl k
                  · -- no slot owns the new list
                    have pre : ∃ s', Γ1[j]? = some (some s') ∧ s'.owned = true := by
                      rcases ioBack_ok f la eb with ⟨_, rfl⟩ | ⟨_, i, _, _, _, _, s0, s, _, _, _, _, _, _, _, _, _, _, _, h11, h12, _, _, rfl, _⟩
                      · exact ⟨sj, e, o⟩
                      · rcases get_set e with ⟨z1, z2, _⟩ | ⟨z1, z2⟩
                        · subst z1; exact ⟨s0, h11, h12⟩
                        · exact ⟨sj, z2, o⟩
                    obtain ⟨s', e', o'⟩ := pre
                    exact (ownNone e' o' z).2.2 rfl
    · exact h.elim
theorem key_call {run : FnR} {io : Option Nat} {fa : FnA} {np : Nat} : ∀ σ H Q, tE K mg E (eCall run np io fa) σ H Q → tCallK K mg E run np (tA K mg E fa) σ H Q := by
  rw [eCall_eq]
  exact key_callB
end
section
variable {X : Cx} {E : WX} {k : Nat} {f : Addr} {fd : FuncData} {ps : List Str} {run : FnR} {x : Str} {p pos : Pos} {e : Expr} {es : List Expr} {fa : FnA}
/-- a call of a def whose worth is known -/
theorem fe_call (F : Kp X.prog X.w X.K X.mg X.base k f fd ps run) (c : Cok X E k) (hg : Gl X x) (hm : X.mg x = some (.ref f)) (hk : PySem.W.keepIn X.K (.ref f) = true) (hb : Binds X.K fd ps []) (io : Option Nat) (ha : FA X E (e :: es) fa)
    (hdb : (x == ("__debug__" : Str)) = false := by decide) (he : starEach (e :: es) X.env = (false, eval e X.env) :: starEach es X.env := by rfl) (hpl : (backTo pos (starEach es X.env)).any (·.1) = false := by rfl) :
    FE X E (.Call (.Name x p) (e :: es) [] pos) (eCall run ps.length io fa) := pe_imp (pe_callF F c hg hm hk hb ha hdb he hpl) key_call
theorem fe_callFz (F : Kp X.prog X.w X.K X.mg X.base k f fd ps run) (c : Cok X E k) (hg : Gl X x) (hm : X.mg x = some (.ref f)) (hk : PySem.W.keepIn X.K (.ref f) = true) (hb : Binds X.K fd ps []) (io : Option Nat) (ha : FA X E (e :: es) fa)
    (hdb : (x == ("__debug__" : Str)) = false := by decide) (he : starEach (e :: es) X.env = (false, eval e X.env) :: starEach es X.env := by rfl) (hpl : (backTo pos (starEach es X.env)).any (·.1) = false := by rfl) :
    FE X E (.Call (.Name x p) (e :: es) [] pos) (eCallF run ps.length io fa) := pe_imp (pe_callF F c hg hm hk hb ha hdb he hpl) key_callB
end
end FL

/-! FO: built-ins by name. -/
namespace FL
open PySem PySem.Spec L2

/-! ### the ways to a built-in of one, of two arguments -/
section
variable {X : Cx} {E : WX} {f f2 : FnE} {x : Str} {id T : String} {p pos : Pos} {e e2 : Expr} {r : List V → Hp → VK → Prop}
theorem fe_b1 {g : RV → Ga → Rs (RV × Ga)} (hc : CallR X (.builtin id) r) (hg : Gl X x) (hm : X.mg x = none) (hv : bootBuiltins x = some (.builtin id)) (he : FE X E e f)
    (key : ∀ (G : Hp) (pn : List (Nat × Addr)) (F : Hp) (Γ : Ga) (σ : St) (H : Hp) (v : V) (ra : RV) (Q : VK), Rep X.K G pn Γ σ F H → RvR X.K G F H Γ σ v ra → PostE X.K X.mg E G pn σ F Q (g ra Γ) → r [v] H Q)
    (hn : x ≠ "__name__" := by decide) (hdb : (x == ("__debug__" : Str)) = false := by decide) (hs : starEach [e] X.env = [(false, eval e X.env)] := by rfl) : FE X E (.Call (.Name x p) [e] [] pos) (eUn g f) :=
  pe_imp (pe_callB hc hg hm hv (pa_cons he pa_nil hs) hn hdb hs rfl) (tE_un (r := fun v H Q => r [v] H Q) key)
theorem fe_t1 {g : RV → Ga → Rs (RV × Ga)} (hc : CallR X (.type T) r) (hg : Gl X x) (hm : X.mg x = none) (hv : bootBuiltins x = some (.type T)) (he : FE X E e f)
    (key : ∀ (G : Hp) (pn : List (Nat × Addr)) (F : Hp) (Γ : Ga) (σ : St) (H : Hp) (v : V) (ra : RV) (Q : VK), Rep X.K G pn Γ σ F H → RvR X.K G F H Γ σ v ra → PostE X.K X.mg E G pn σ F Q (g ra Γ) → r [v] H Q)
    (hn : x ≠ "__name__" := by decide) (hdb : (x == ("__debug__" : Str)) = false := by decide) (hs : starEach [e] X.env = [(false, eval e X.env)] := by rfl) : FE X E (.Call (.Name x p) [e] [] pos) (eUn g f) :=
  pe_imp (pe_callTy hc hg hm hv (pa_cons he pa_nil hs) hn hdb hs rfl) (tE_un (r := fun v H Q => r [v] H Q) key)
theorem fe_b2 {g : RV → RV → Ga → Rs (RV × Ga)} (hc : CallR X (.builtin id) r) (hg : Gl X x) (hm : X.mg x = none) (hv : bootBuiltins x = some (.builtin id)) (he : FE X E e f) (he2 : FE X E e2 f2)
    (key : ∀ (G : Hp) (pn : List (Nat × Addr)) (F : Hp) (Γ : Ga) (σ : St) (H : Hp) (v u : V) (ra rb : RV) (Q : VK), Rep X.K G pn Γ σ F H → RvR X.K G F H Γ σ v ra → RvR X.K G F H Γ σ u rb → PostE X.K X.mg E G pn σ F Q (g ra rb Γ) → r [v, u] H Q)
    (hn : x ≠ "__name__" := by decide) (hdb : (x == ("__debug__" : Str)) = false := by decide) (hs : starEach [e, e2] X.env = (false, eval e X.env) :: starEach [e2] X.env := by rfl) (hs2 : starEach [e2] X.env = [(false, eval e2 X.env)] := by rfl)
    (hpl : (backTo pos (starEach [e2] X.env)).any (·.1) = false := by rfl) : FE X E (.Call (.Name x p) [e, e2] [] pos) (eBin g f f2) :=
  pe_imp (pe_callB hc hg hm hv (pa_cons he (pa_cons he2 pa_nil hs2) hs) hn hdb hs hpl) (tE_bin (r := fun v u H Q => r [v, u] H Q) key)
end

/-! ### len -/
def lenD : D → Option D
  | .list xs => some (.int xs.length)
  | .tuple xs => some (.int xs.length)
  | .str z => if z.length ≤ lim then some (.int z.length) else none
  | _ => none
section
variable {X : Cx} {E : WX} {f f2 : FnE} {p pos : Pos} {e e2 : Expr}
theorem fe_len (hg : Gl X "len") (hm : X.mg "len" = none) (he : FE X E e f) (hs : starEach [e] X.env = [(false, eval e X.env)] := by rfl) : FE X E (.Call (.Name "len" p) [e] [] pos) (eUn (g1 lenD) f) :=
  fe_b1 (call_len_seq.or call_len_str) hg hm PySem.boot_len he (fun G pn F Γ σ H v ra Q R r h => by
    obtain ⟨d, z, q1, q3, h⟩ := post_g1 h
    unfold lenD at q3
    split at q3
    · cases q3
      obtain ⟨a, vs, rfl, h1, h2⟩ := rv_list R r q1
      exact .inl ⟨a, vs, rfl, .inl h1, by rw [h2.len]; exact post_d R h (.int _)⟩
    · cases q3
      obtain ⟨a, vs, rfl, h1, h2, _⟩ := rv_tup R r q1
      exact .inl ⟨a, vs, rfl, .inr h1, by rw [h2.len]; exact post_d R h (.int _)⟩
    · split at q3
      · rename_i hz
        cases q3
        exact .inr ⟨_, by rw [dp_str (rv_get R r q1)], by rw [lim_eq]; exact hz, post_d R h (.int _)⟩
      · cases q3
    · cases q3) (hs := hs)

/-! ### abs, max, min, divmod -/
def absD : D → Option D
  | .int i => some (.int (if i < 0 then -i else i))
  | _ => none
def max2D : D → D → Option D
  | .int i, .int j => some (.int (max i j))
  | _, _ => none
def min2D : D → D → Option D
  | .int i, .int j => some (.int (min i j))
  | _, _ => none
def divmodD : D → D → Option D
  | .int i, .int j => if fdivOk j then some (.tuple [.int (i / j), .int (i % j)]) else none
  | _, _ => none
theorem fe_abs (hg : Gl X "abs") (hm : X.mg "abs" = none) (he : FE X E e f) (hs : starEach [e] X.env = [(false, eval e X.env)] := by rfl) : FE X E (.Call (.Name "abs" p) [e] [] pos) (eUn (g1 absD) f) :=
  fe_b1 call_abs hg hm (by decide +kernel) he (fun G pn F Γ σ H v ra Q R r h => by
    obtain ⟨d, z, q1, q3, h⟩ := post_g1 h
    unfold absD at q3
    split at q3
    · cases q3
      exact ⟨_, by rw [dp_int (rv_get R r q1)], post_d R h (.int _)⟩
    · cases q3) (hs := hs)
theorem fe_max2 (hc : X.calm = true) (hg : Gl X "max") (hm : X.mg "max" = none) (he : FE X E e f) (he2 : FE X E e2 f2) (hs : starEach [e, e2] X.env = (false, eval e X.env) :: starEach [e2] X.env := by rfl) (hs2 : starEach [e2] X.env = [(false, eval e2 X.env)] := by rfl)
    (hpl : (backTo pos (starEach [e2] X.env)).any (·.1) = false := by rfl) : FE X E (.Call (.Name "max" p) [e, e2] [] pos) (eBin (g2 max2D) f f2) :=
  fe_b2 (call_max2 hc) hg hm PyProof.Rows.boot_max he he2 (fun G pn F Γ σ H v u ra rb Q R r1 r2 h => by
    obtain ⟨d, e, z, q1, q2, q3, h⟩ := post_g2 h
    unfold max2D at q3
    split at q3
    · rename_i i j
      cases q3
      refine ⟨i, j, by rw [dp_int (rv_get R r1 q1), dp_int (rv_get R r2 q2)], ?_⟩
      have e : (if j > i then j else i) = max i j := by
        split <;> omega
      rw [e]
      exact post_d R h (.int _)
    · cases q3) (hs := hs) (hs2 := hs2) (hpl := hpl)
theorem fe_min2 (hc : X.calm = true) (hg : Gl X "min") (hm : X.mg "min" = none) (he : FE X E e f) (he2 : FE X E e2 f2) (hs : starEach [e, e2] X.env = (false, eval e X.env) :: starEach [e2] X.env := by rfl) (hs2 : starEach [e2] X.env = [(false, eval e2 X.env)] := by rfl)
    (hpl : (backTo pos (starEach [e2] X.env)).any (·.1) = false := by rfl) : FE X E (.Call (.Name "min" p) [e, e2] [] pos) (eBin (g2 min2D) f f2) :=
  fe_b2 (call_min2 hc) hg hm PyProof.Rows.boot_min he he2 (fun G pn F Γ σ H v u ra rb Q R r1 r2 h => by
    obtain ⟨d, e, z, q1, q2, q3, h⟩ := post_g2 h
    unfold min2D at q3
    split at q3
    · rename_i i j
      cases q3
      refine ⟨i, j, by rw [dp_int (rv_get R r1 q1), dp_int (rv_get R r2 q2)], ?_⟩
      have e : (if j < i then j else i) = min i j := by
        split <;> omega
      rw [e]
      exact post_d R h (.int _)
    · cases q3) (hs := hs) (hs2 := hs2) (hpl := hpl)
theorem fe_divmod (hg : Gl X "divmod") (hm : X.mg "divmod" = none) (he : FE X E e f) (he2 : FE X E e2 f2) (hs : starEach [e, e2] X.env = (false, eval e X.env) :: starEach [e2] X.env := by rfl) (hs2 : starEach [e2] X.env = [(false, eval e2 X.env)] := by rfl)
    (hpl : (backTo pos (starEach [e2] X.env)).any (·.1) = false := by rfl) : FE X E (.Call (.Name "divmod" p) [e, e2] [] pos) (eBin (g2 divmodD) f f2) :=
  fe_b2 call_divmodW hg hm (by decide +kernel) he he2 (fun G pn F Γ σ H v u ra rb Q R r1 r2 h => by
    obtain ⟨d, e, z, q1, q2, q3, h⟩ := post_g2 h
    unfold divmodD at q3
    split at q3
    · rename_i i j
      split at q3
      · rename_i hz
        simp only [fdivOk, Bool.and_eq_true, decide_eq_true_eq] at hz
        cases q3
        exact ⟨i, j, by rw [dp_int (rv_get R r1 q1), dp_int (rv_get R r2 q2)], ⟨hz.1, PyProof.noPylong_of_log2 hz.2⟩, fun p hp => post_tup R h (.cons (.int _) (.cons (.int _) .nil)) hp⟩
      · cases q3
    · cases q3) (hs := hs) (hs2 := hs2) (hpl := hpl)

/-! ### of a list: all, any, sum, max, min, tuple, list -/
def boolsOf : List D → Option (List Bool)
  | [] => some []
  | .bool b :: r => (boolsOf r).map (b :: ·)
  | _ => none
theorem boolsOf_ok : ∀ {ds : List D} {ns : List Bool}, boolsOf ds = some ns → ds = ns.map .bool
  | [], ns, h => by cases h; rfl
  | .bool i :: r, ns, h => by
    unfold boolsOf at h
    cases q : boolsOf r with
    | none => rw [q] at h; cases h
    | some m =>
      rw [q] at h
      cases h
      rw [boolsOf_ok q]
      rfl
  | .none :: _, _, h => by cases h
  | .int _ :: _, _, h => by cases h
  | .str _ :: _, _, h => by cases h
  | .list _ :: _, _, h => by cases h
  | .tuple _ :: _, _, h => by cases h
  | .dict _ :: _, _, h => by cases h
@[simp] theorem boolsOf_map : ∀ ns : List Bool, boolsOf (ns.map .bool) = some ns
  | [] => rfl
  | n :: ns => by
    show (boolsOf (ns.map .bool)).map (n :: ·) = _
    rw [boolsOf_map ns]
    rfl
def allD : D → Option D
  | .list xs => (boolsOf xs).map fun bs => .bool (bs.all id)
  | _ => none
def anyD : D → Option D
  | .list xs => (boolsOf xs).map fun bs => .bool (bs.any id)
  | _ => none
def sumD : D → Option D
  | .list xs => (intsOf xs).map fun ns => .int ns.sum
  | _ => none
def mxI : List Int → Option Int
  | [] => none
  | x :: r => some (r.foldl max x)
def mnI : List Int → Option Int
  | [] => none
  | x :: r => some (r.foldl min x)
theorem foldl_max (r : List Int) : ∀ x : Int, (r.foldl max x = x ∨ r.foldl max x ∈ r) ∧ x ≤ r.foldl max x ∧ ∀ y ∈ r, y ≤ r.foldl max x := by
  induction r with
  | nil => intro x; exact ⟨.inl rfl, Int.le_refl _, fun y h => by cases h⟩
  | cons a r ih =>
    intro x
    obtain ⟨h1, h2, h3⟩ := ih (max x a)
    simp only [List.foldl_cons]
    refine ⟨?_, by omega, fun y hy => ?_⟩
    · rcases h1 with h1 | h1
      · rcases Int.le_total x a with l | l
        · right; rw [h1, Int.max_eq_right l]; exact List.mem_cons_self
        · left; rw [h1, Int.max_eq_left l]
      · right; exact List.mem_cons_of_mem _ h1
    · rcases List.mem_cons.mp hy with rfl | hy
      · omega
      · exact h3 y hy
theorem foldl_min (r : List Int) : ∀ x : Int, (r.foldl min x = x ∨ r.foldl min x ∈ r) ∧ r.foldl min x ≤ x ∧ ∀ y ∈ r, r.foldl min x ≤ y := by
  induction r with
  | nil => intro x; exact ⟨.inl rfl, Int.le_refl _, fun y h => by cases h⟩
  | cons a r ih =>
    intro x
    obtain ⟨h1, h2, h3⟩ := ih (min x a)
    simp only [List.foldl_cons]
    refine ⟨?_, by omega, fun y hy => ?_⟩
    · rcases h1 with h1 | h1
      · rcases Int.le_total x a with l | l
        · left; rw [h1, Int.min_eq_left l]
        · right; rw [h1, Int.min_eq_right l]; exact List.mem_cons_self
      · right; exact List.mem_cons_of_mem _ h1
    · rcases List.mem_cons.mp hy with rfl | hy
      · omega
      · exact h3 y hy
theorem mxI_iff {ns : List Int} {m : Int} : mxI ns = some m ↔ m ∈ ns ∧ ∀ y ∈ ns, y ≤ m := by
  cases ns with
  | nil => simp [mxI]
  | cons x r =>
    obtain ⟨h1, h2, h3⟩ := foldl_max r x
    constructor
    · intro h
      cases h
      refine ⟨?_, fun y hy => ?_⟩
      · rcases h1 with h1 | h1
        · rw [h1]; exact List.mem_cons_self
        · exact List.mem_cons_of_mem _ h1
      · rcases List.mem_cons.mp hy with rfl | hy
        · exact h2
        · exact h3 y hy
    · rintro ⟨k1, k2⟩
      have a1 : m ≤ r.foldl max x := by
        rcases List.mem_cons.mp k1 with rfl | k
        · exact h2
        · exact h3 m k
      have a2 : r.foldl max x ≤ m := by
        rcases h1 with h1 | h1
        · rw [h1]; exact k2 x List.mem_cons_self
        · exact k2 _ (List.mem_cons_of_mem _ h1)
      show some _ = some m
      rw [Int.le_antisymm a2 a1]
theorem mnI_iff {ns : List Int} {m : Int} : mnI ns = some m ↔ m ∈ ns ∧ ∀ y ∈ ns, m ≤ y := by
  cases ns with
  | nil => simp [mnI]
  | cons x r =>
    obtain ⟨h1, h2, h3⟩ := foldl_min r x
    constructor
    · intro h
      cases h
      refine ⟨?_, fun y hy => ?_⟩
      · rcases h1 with h1 | h1
        · rw [h1]; exact List.mem_cons_self
        · exact List.mem_cons_of_mem _ h1
      · rcases List.mem_cons.mp hy with rfl | hy
        · exact h2
        · exact h3 y hy
    · rintro ⟨k1, k2⟩
      have a1 : r.foldl min x ≤ m := by
        rcases List.mem_cons.mp k1 with rfl | k
        · exact h2
        · exact h3 m k
      have a2 : m ≤ r.foldl min x := by
        rcases h1 with h1 | h1
        · rw [h1]; exact k2 x List.mem_cons_self
        · exact k2 _ (List.mem_cons_of_mem _ h1)
      show some _ = some m
      rw [Int.le_antisymm a1 a2]
def maxD : D → Option D
  | .list xs => ((intsOf xs).bind mxI).map .int
  | _ => none
def minD : D → Option D
  | .list xs => ((intsOf xs).bind mnI).map .int
  | _ => none
theorem listB {X : Cx} {G : Hp} {pn : List (Nat × Addr)} {F : Hp} {Γ : Ga} {σ : St} {H : Hp} {v : V} {ra : RV} {xs : List D} {bs : List Bool} (R : Rep X.K G pn Γ σ F H) (r : RvR X.K G F H Γ σ v ra) (q : ra.get Γ = some (.list xs)) (e : boolsOf xs = some bs) :
    ∃ a, v = .ref a ∧ SqL X.K H a (bs.map V.bl) := by
  obtain ⟨a, vs, rfl, h1, h2⟩ := rv_list R r q
  have ex := boolsOf_ok e
  subst ex
  rw [RpAll.bools h2] at h1
  exact ⟨a, rfl, h1⟩
theorem listI {X : Cx} {G : Hp} {pn : List (Nat × Addr)} {F : Hp} {Γ : Ga} {σ : St} {H : Hp} {v : V} {ra : RV} {xs : List D} {ns : List Int} (R : Rep X.K G pn Γ σ F H) (r : RvR X.K G F H Γ σ v ra) (q : ra.get Γ = some (.list xs)) (e : intsOf xs = some ns) :
    ∃ a, v = .ref a ∧ SqL X.K H a (ns.map V.int) := by
  obtain ⟨a, vs, rfl, h1, h2⟩ := rv_list R r q
  have ex := intsOf_ok e
  subst ex
  rw [RpAll.ints h2] at h1
  exact ⟨a, rfl, h1⟩
theorem fe_all (hc : X.calm = true) (hg : Gl X "all") (hm : X.mg "all" = none) (he : FE X E e f) (hs : starEach [e] X.env = [(false, eval e X.env)] := by rfl) : FE X E (.Call (.Name "all" p) [e] [] pos) (eUn (g1 allD) f) :=
  fe_b1 (cr_all hc) hg hm PyProof.Rows.boot_all he (fun G pn F Γ σ H v ra Q R r h => by
    obtain ⟨d, z, q1, q3, h⟩ := post_g1 h
    unfold allD at q3
    split at q3
    · rename_i xs
      cases q : boolsOf xs with
      | none => rw [q] at q3; cases q3
      | some bs =>
        rw [q] at q3
        cases q3
        obtain ⟨a, rfl, hs⟩ := listB R r q1 q
        exact ⟨a, bs, rfl, hs, post_d R h (.bl _)⟩
    · cases q3) (hs := hs)
theorem fe_any (hc : X.calm = true) (hg : Gl X "any") (hm : X.mg "any" = none) (he : FE X E e f) (hs : starEach [e] X.env = [(false, eval e X.env)] := by rfl) : FE X E (.Call (.Name "any" p) [e] [] pos) (eUn (g1 anyD) f) :=
  fe_b1 (cr_any hc) hg hm PyProof.Rows.boot_any he (fun G pn F Γ σ H v ra Q R r h => by
    obtain ⟨d, z, q1, q3, h⟩ := post_g1 h
    unfold anyD at q3
    split at q3
    · rename_i xs
      cases q : boolsOf xs with
      | none => rw [q] at q3; cases q3
      | some bs =>
        rw [q] at q3
        cases q3
        obtain ⟨a, rfl, hs⟩ := listB R r q1 q
        exact ⟨a, bs, rfl, hs, post_d R h (.bl _)⟩
    · cases q3) (hs := hs)
theorem fe_sum (hc : X.calm = true) (hg : Gl X "sum") (hm : X.mg "sum" = none) (he : FE X E e f) (hs : starEach [e] X.env = [(false, eval e X.env)] := by rfl) : FE X E (.Call (.Name "sum" p) [e] [] pos) (eUn (g1 sumD) f) :=
  fe_b1 (cr_sum hc) hg hm PyProof.Rows.boot_sum he (fun G pn F Γ σ H v ra Q R r h => by
    obtain ⟨d, z, q1, q3, h⟩ := post_g1 h
    unfold sumD at q3
    split at q3
    · rename_i xs
      cases q : intsOf xs with
      | none => rw [q] at q3; cases q3
      | some bs =>
        rw [q] at q3
        cases q3
        obtain ⟨a, rfl, hs⟩ := listI R r q1 q
        exact ⟨a, bs, rfl, hs, post_d R h (.int _)⟩
    · cases q3) (hs := hs)
theorem fe_max (hc : X.calm = true) (hg : Gl X "max") (hm : X.mg "max" = none) (he : FE X E e f) (hs : starEach [e] X.env = [(false, eval e X.env)] := by rfl) : FE X E (.Call (.Name "max" p) [e] [] pos) (eUn (g1 maxD) f) :=
  fe_b1 (cr_max hc) hg hm PyProof.Rows.boot_max he (fun G pn F Γ σ H v ra Q R r h => by
    obtain ⟨d, z, q1, q3, h⟩ := post_g1 h
    unfold maxD at q3
    split at q3
    · rename_i xs
      cases q : intsOf xs with
      | none => rw [q] at q3; cases q3
      | some ns =>
        cases q2 : mxI ns with
        | none => rw [q, Option.bind_some, q2] at q3; cases q3
        | some m =>
          rw [q, Option.bind_some, q2] at q3
          cases q3
          obtain ⟨a, rfl, hs⟩ := listI R r q1 q
          obtain ⟨k1, k2⟩ := mxI_iff.mp q2
          refine ⟨a, ns, rfl, hs, List.length_pos_of_mem k1, fun m' h1 h2 => ?_⟩
          rw [Int.le_antisymm (k2 m' h1) (h2 m k1)]
          exact post_d R h (.int _)
    · cases q3) (hs := hs)
theorem fe_min (hc : X.calm = true) (hg : Gl X "min") (hm : X.mg "min" = none) (he : FE X E e f) (hs : starEach [e] X.env = [(false, eval e X.env)] := by rfl) : FE X E (.Call (.Name "min" p) [e] [] pos) (eUn (g1 minD) f) :=
  fe_b1 (cr_min hc) hg hm PyProof.Rows.boot_min he (fun G pn F Γ σ H v ra Q R r h => by
    obtain ⟨d, z, q1, q3, h⟩ := post_g1 h
    unfold minD at q3
    split at q3
    · rename_i xs
      cases q : intsOf xs with
      | none => rw [q] at q3; cases q3
      | some ns =>
        cases q2 : mnI ns with
        | none => rw [q, Option.bind_some, q2] at q3; cases q3
        | some m =>
          rw [q, Option.bind_some, q2] at q3
          cases q3
          obtain ⟨a, rfl, hs⟩ := listI R r q1 q
          obtain ⟨k1, k2⟩ := mnI_iff.mp q2
          refine ⟨a, ns, rfl, hs, List.length_pos_of_mem k1, fun m' h1 h2 => ?_⟩
          rw [Int.le_antisymm (h2 m k1) (k2 m' h1)]
          exact post_d R h (.int _)
    · cases q3) (hs := hs)
def tupleD : D → Option D
  | .list xs => some (.tuple xs)
  | .tuple xs => some (.tuple xs)
  | _ => none
theorem fe_tuple (hg : Gl X "tuple") (hm : X.mg "tuple" = none) (he : FE X E e f) (hs : starEach [e] X.env = [(false, eval e X.env)] := by rfl) : FE X E (.Call (.Name "tuple" p) [e] [] pos) (eUn (g1 tupleD) f) :=
  fe_t1 call_tuple_of hg hm PyProof.Rows.boot_tuple he (fun G pn F Γ σ H v ra Q R r h => by
    obtain ⟨d, z, q1, q3, h⟩ := post_g1 h
    unfold tupleD at q3
    split at q3
    · cases q3
      obtain ⟨a, vs, rfl, h1, h2⟩ := rv_list R r q1
      exact ⟨a, vs, rfl, .inl ⟨h1, fun l hl => post_tup R h h2 hl⟩⟩
    · cases q3
      obtain ⟨a, vs, rfl, h1, h2, h3⟩ := rv_tup R r q1
      exact ⟨a, vs, rfl, .inr ⟨h1, post_d R h (.tup h3 h2)⟩⟩
    · cases q3) (hs := hs)
def gList (a : RV) : Ga → Rs (RV × Ga) := fun Γ => match a.get Γ with
  | some (.list xs) => .ok (.ow xs, Γ)
  | some (.tuple xs) => .ok (.ow xs, Γ)
  | _ => .bad
theorem fe_list (hg : Gl X "list") (hm : X.mg "list" = none) (he : FE X E e f) (hs : starEach [e] X.env = [(false, eval e X.env)] := by rfl) : FE X E (.Call (.Name "list" p) [e] [] pos) (eUn gList f) :=
  fe_t1 call_list_of hg hm (by decide +kernel) he (fun G pn F Γ σ H v ra Q R r h => by
    unfold gList at h
    split at h
    · rename_i xs q1
      obtain ⟨a, vs, rfl, h1, h2⟩ := rv_list R r q1
      exact ⟨a, vs, rfl, .inl h1, fun l hl => post_ow R h h2 hl⟩
    · rename_i xs q1
      obtain ⟨a, vs, rfl, h1, h2, h3⟩ := rv_tup R r q1
      exact ⟨a, vs, rfl, .inr h1, fun l hl => post_ow R h h2 hl⟩
    · exact h.elim) (hs := hs)
def intD : D → Option D
  | .int i => some (.int i)
  | .bool b => some (.int (if b then 1 else 0))
  | _ => none
theorem fe_intOf (hg : Gl X "int") (hm : X.mg "int" = none) (he : FE X E e f) (hs : starEach [e] X.env = [(false, eval e X.env)] := by rfl) : FE X E (.Call (.Name "int" p) [e] [] pos) (eUn (g1 intD) f) :=
  fe_t1 call_int1 hg hm (by decide +kernel) he (fun G pn F Γ σ H v ra Q R r h => by
    obtain ⟨d, z, q1, q3, h⟩ := post_g1 h
    unfold intD at q3
    split at q3
    · cases q3
      exact .inl ⟨_, by rw [dp_int (rv_get R r q1)], post_d R h (.int _)⟩
    · cases q3
      exact .inr ⟨_, by rw [dp_bl (rv_get R r q1)], post_d R h (.int _)⟩
    · cases q3) (hs := hs)
end

/-! ### isinstance of a built-in class -/
inductive Ty where
  | int | bool | str | tuple | list | dict
def Ty.name : Ty → String
  | .int => "int"
  | .bool => "bool"
  | .str => "str"
  | .tuple => "tuple"
  | .list => "list"
  | .dict => "dict"
def isiB : Ty → D → Bool
  | .int, .int _ => true
  | .int, .bool _ => true
  | .bool, .bool _ => true
  | .str, .str _ => true
  | .tuple, .tuple _ => true
  | .list, .list _ => true
  | .dict, .dict _ => true
  | _, _ => false
def tyD : D → String
  | .none => "NoneType"
  | .bool _ => "bool"
  | .int _ => "int"
  | .str _ => "str"
  | .list _ => "list"
  | .tuple _ => "tuple"
  | .dict _ => "dict"
theorem kit_isi (t : Ty) (d : D) : kitB (tyD d) t.name = some (isiB t d) := by
  have key : ∀ (t : Ty) (s : String) (b : Bool), (s, t.name, b) ∈ [("NoneType", "int", false), ("NoneType", "bool", false), ("NoneType", "str", false), ("NoneType", "tuple", false), ("NoneType", "list", false), ("NoneType", "dict", false),
      ("bool", "int", true), ("bool", "bool", true), ("bool", "str", false), ("bool", "tuple", false), ("bool", "list", false), ("bool", "dict", false),
      ("int", "int", true), ("int", "bool", false), ("int", "str", false), ("int", "tuple", false), ("int", "list", false), ("int", "dict", false),
      ("str", "int", false), ("str", "bool", false), ("str", "str", true), ("str", "tuple", false), ("str", "list", false), ("str", "dict", false),
      ("list", "int", false), ("list", "bool", false), ("list", "str", false), ("list", "tuple", false), ("list", "list", true), ("list", "dict", false),
      ("tuple", "int", false), ("tuple", "bool", false), ("tuple", "str", false), ("tuple", "tuple", true), ("tuple", "list", false), ("tuple", "dict", false),
      ("dict", "int", false), ("dict", "bool", false), ("dict", "str", false), ("dict", "tuple", false), ("dict", "list", false), ("dict", "dict", true)] → kitB s t.name = some b := by
    intro t s b h
    have all : ∀ p ∈ [("NoneType", "int", false), ("NoneType", "bool", false), ("NoneType", "str", false), ("NoneType", "tuple", false), ("NoneType", "list", false), ("NoneType", "dict", false),
      ("bool", "int", true), ("bool", "bool", true), ("bool", "str", false), ("bool", "tuple", false), ("bool", "list", false), ("bool", "dict", false),
      ("int", "int", true), ("int", "bool", false), ("int", "str", false), ("int", "tuple", false), ("int", "list", false), ("int", "dict", false),
      ("str", "int", false), ("str", "bool", false), ("str", "str", true), ("str", "tuple", false), ("str", "list", false), ("str", "dict", false),
      ("list", "int", false), ("list", "bool", false), ("list", "str", false), ("list", "tuple", false), ("list", "list", true), ("list", "dict", false),
      ("tuple", "int", false), ("tuple", "bool", false), ("tuple", "str", false), ("tuple", "tuple", true), ("tuple", "list", false), ("tuple", "dict", false),
      ("dict", "int", false), ("dict", "bool", false), ("dict", "str", false), ("dict", "tuple", false), ("dict", "list", false), ("dict", "dict", true)], kitB p.1 p.2.1 = some p.2.2 := by decide +kernel
    exact all _ h
  refine key t _ _ ?_
  cases t <;> cases d <;> simp [tyD, Ty.name, isiB]
def isiD (t : Ty) (d : D) : Option D := some (.bool (isiB t d))
theorem tyx_list {K : Frag} {H : Hp} {a : Addr} {vs : List V} (h : SqL K H a vs) : TyX K H (.ref a) (.type "list") := by
  rcases h with (h | ⟨o, h⟩) | ⟨o, its, n, h, hc, _⟩
  · exact .base (.lst h)
  · exact .base (.frz h)
  · exact .kList h hc
theorem tyx_tup {K : Frag} {H : Hp} {a : Addr} {vs : List V} (h : SqT K H a vs) : TyX K H (.ref a) (.type "tuple") := by
  rcases h with (h | ⟨o, h⟩) | ⟨o, its, n, h, hc, _⟩
  · exact .base (.tup h)
  · exact .fTuple h
  · exact .kTuple h hc
theorem tyx_dp {K : Frag} {H : Hp} {v : V} {d : D} (h : Dq K H v d) : TyX K H v (.type (tyD d)) := by
  cases h with
  | non => exact .base .non
  | bl b => exact .base (.bl b)
  | int i => exact .base (.int i)
  | str x => exact .base (.str x)
  | lst h _ => exact tyx_list h
  | tup h _ => exact tyx_tup h
  | dic h _ => exact .base (.dK h)
section
variable {X : Cx} {E : WX} {f : FnE} {p p2 pos : Pos} {e : Expr}
theorem boot_ty (t : Ty) : bootBuiltins (Str.ofString t.name) = some (.type t.name) := by cases t <;> decide +kernel
theorem fe_isi (t : Ty) (hg : Gl X "isinstance") (hm : X.mg "isinstance" = none) (hg2 : Gl X (Str.ofString t.name)) (hm2 : X.mg (Str.ofString t.name) = none) (he : FE X E e f)
    (hs : starEach [e, .Name (Str.ofString t.name) p2] X.env = (false, eval e X.env) :: starEach [.Name (Str.ofString t.name) p2] X.env := by rfl) (hs2 : starEach [.Name (Str.ofString t.name) p2] X.env = [(false, eval (.Name (Str.ofString t.name) p2) X.env)] := by rfl)
    (hpl : (backTo pos (starEach [.Name (Str.ofString t.name) p2] X.env)).any (·.1) = false := by rfl) : FE X E (.Call (.Name "isinstance" p) [e, .Name (Str.ofString t.name) p2] [] pos) (eUn (g1 (isiD t)) f) := by
  have cls : PE X (.Name (Str.ofString t.name) p2) (tC (.ty t.name)) := pe_bltn hg2 hm2 (boot_ty t) rfl (by cases t <;> decide) (by cases t <;> decide)
  refine pe_imp (pe_callB call_isi hg hm PyProof.Rows.boot_isinstance (pa_cons he (pa_cons cls pa_nil hs2) hs) (he := hs) (hpl := hpl)) (tE_un (r := fun v H Q => rIsi X.K [v, .ty t.name] H Q) fun G pn F Γ σ H v ra Q R r h => ?_)
  obtain ⟨d, z, q1, q3, h⟩ := post_g1 h
  cases q3
  exact ⟨v, .ty t.name, _, _, _, rfl, .ty _, tyx_dp (rv_get R r q1), kit_ty (kit_isi t d), post_d R h (.bl _)⟩
end
end FL

/-! FP: enumerate, zip. -/
namespace PySem
open Sem (wp)
open AutoSeq1 (wpAny_loadPart')
theorem fp_enum_new (l : Addr) (items : Array Value) :
    Meets (Builtin.«enumerate.__new__» ⟨[.type "enumerate", .ref l], []⟩) (fun _ R s => s.heap.IsTuple l items ∧
      R (.ok (.ret (.ref (s.heap.push { cls := .type "tuple_iterator", data := .fields #[.ref l, .int 0 0] }).objs.size)))
        { s with heap := (s.heap.push { cls := .type "tuple_iterator", data := .fields #[.ref l, .int 0 0] }).push { cls := .type "enumerate", data := .fields #[.none, .bool false, .ref s.heap.objs.size, rawInt 0, .none, .none] } }) :=
  .of_wp fun prog w A R s h => by
    obtain ⟨hp, g, dr, tk, os⟩ := s
    obtain ⟨hl, h⟩ := h
    have hsub := sub_enumerate
    have hL : Heap.IsTuple (Shared.heap ⟨hp, g, dr, tk, os⟩) l items := hl
    obtain ⟨o, ho, hc, hd⟩ := hl
    wp_walk using wpAny_loadPart' ho
    refine wpAny_stack_any fun st => wpAny_pure ?_
    split
    · rename_i c _ _ _ _ _
      cases (c == Value.type "enumerate")
      · wp_walk using wpAny_loadPart' ho, wpAny_pyIter_tuple hL
        exact ⟨_, rfl, h⟩
      · wp_walk using wpAny_loadPart' ho, wpAny_pyIter_tuple hL
        exact ⟨_, rfl, h⟩
    · wp_walk using wpAny_loadPart' ho, wpAny_pyIter_tuple hL
      exact ⟨_, rfl, h⟩
section
variable {prog : Program} {w : World} {A : Around} {E : Value → Shared → Prop} {s : Shared}
theorem fp_enum_call {l : Addr} {items : Array Value} {Q : Value → Shared → Prop} (hL : s.heap.IsTuple l items)
    (h : ∀ h', IsEnum h' (s.heap.objs.size + 1) s.heap.objs.size 0 .none → h'.IsTupleIter s.heap.objs.size l 0 →
      (∀ b o, s.heap.get? b = some o → h'.get? b = some o) → Q (.ref (s.heap.objs.size + 1)) { s with heap := h' }) :
    wpAny (model prog w) A (call (.type "enumerate") [.ref l]) Q E s := by
  refine callType_new F.called_enumerate (by decide) (F.typeCall_enumerate_1 _) (F.newCall_enumerate_1 _) (fun obj => F.args_object_init_2 obj _) F.entry_enumerate_new (fp_enum_new l items) ⟨hL, ?_⟩
  generalize hT : (s.heap.push { cls := .type "tuple_iterator", data := .fields #[.ref l, .int 0 0] }) = hp1
  have z1 : hp1.objs.size = s.heap.objs.size + 1 := by rw [← hT]; exact Heap.size_push ..
  have g1 : hp1.get? s.heap.objs.size = some { cls := .type "tuple_iterator", data := .fields #[.ref l, .int 0 0] } := by rw [← hT]; exact Heap.get?_push_size _ rfl
  have k1 : ∀ b o, s.heap.get? b = some o → hp1.get? b = some o := fun b o x => by rw [← hT]; exact Heap.get?_push_of_some _ x
  have he := Heap.get?_push_size hp1 (o := { cls := .type "enumerate", data := .fields #[.none, .bool false, .ref s.heap.objs.size, rawInt 0, .none, .none] }) rfl
  show _ ∧ _
  rw [z1] at he ⊢
  exact ⟨⟨_, he, rfl⟩, h _ he ⟨_, Heap.get?_push_of_some _ g1, rfl, rfl⟩ fun b o x => Heap.get?_push_of_some _ (k1 b o x)⟩
end
end PySem
namespace FL
open PySem PySem.Spec L2
open PyProof.Rows (boot_enumerate boot_zip)

/-- the tuple at a, each item in a new pair -/
def Iet (K : Frag) (a : Addr) : It :=
  ⟨fun i H => ∃ (xs : List V) (x : V), SqT K H a xs ∧ xs[i]? = some x, fun i H v H' => ∃ T x, v = .ref T ∧ H T = none ∧ H' = upd H T (.tup [.int (i : Nat), x]) ∧ ∀ xs, SqT K H a xs → xs[i]? = some x, fun i H => ∃ xs : List V, SqT K H a xs ∧ xs.length ≤ i⟩
theorem walk_iet {K : Frag} {a : Addr} {xs : List V} : Walk (Iet K a) xs.length (fun H => SqT K H a xs) (YPair (fun i => some (.int (i : Nat))) (fun i => xs[i]?)) :=
  ⟨fun i _ hi q => ⟨xs, xs[i], q, by simp [hi]⟩, fun _ q => ⟨xs, q, Nat.le_refl _⟩, fun i H v H' _ q ⟨T, x, h1, h2, h3, h4⟩ => ⟨T, .int (i : Nat), x, h1, h2, h3, rfl, h4 xs q⟩⟩
theorem turn_iet {P : Program} {w : World} {K : Frag} {elts : List Expr} {kk : Nat} {tpos : Pos} (a e it : Addr) :
    Turn P w K (.Tuple elts kk tpos) (Iet K a) [e, it] e (fun i h => (∃ old, IsEnum h e it ((i : Nat) : Int) old) ∧ h.IsTupleIter it a i ∧ e ≠ it ∧ a ≠ it ∧ e ≠ a) where
  mem := by simp
  obj := fun i h ⟨⟨old, he⟩, ⟨o, ho, hc, hd⟩, _⟩ b hb => by
    rcases (show b = e ∨ b = it by simpa using hb) with rfl | rfl
    · exact ⟨_, he, fun v q => nomatch q⟩
    · exact ⟨o, ho, fun v q => by rw [hd] at q; cases q⟩
  keep := fun i h h' ⟨⟨old, he⟩, hi, hne⟩ k => ⟨⟨old, k e (by simp) _ he⟩, hi.at fun o q => k it (by simp) o q, hne⟩
  item := by
    intro X hP hw hK hc i pins s σ H E I hf ⟨⟨old, he⟩, hit, n1, n2, n3⟩ ⟨xs, x, hq, hx⟩
    subst hP hw hK
    obtain ⟨its, rv, p, hz⟩ := I.tuple hq
    obtain ⟨u, hu, ru⟩ := rv.get hx
    have hel : e < s.heap.objs.size := Heap.lt_size he
    have hil : it < s.heap.objs.size := by obtain ⟨_, q, _⟩ := hit; exact Heap.lt_size q
    have hi : i < its.toArray.size := by
      have : i < its.length := by
        rcases Nat.lt_or_ge i its.length with h | h
        · exact h
        · rw [List.getElem?_eq_none h] at hu; cases hu
      simpa using this
    refine wpAny_pyNext_enum_itemC (Draws.tuple (A := X.A.in1) (I.ok.hd hc) it a n2 its.toArray) he ⟨hit, p⟩ hi n1 (by simp [n1, n3]) fun y h' tk hy ho hst hT hsz hk => ?_
    obtain ⟨hit', _⟩ := hst
    have yu : y = u := by
      have e1 : its.toArray[i]? = some u := by simpa using hu
      rw [e1] at hy
      exact (Option.some.inj hy).symm
    subst yu
    refine ⟨_, rfl, wpAny_letOwnedTupleGo_enum (s := { s with heap := h', toks := tk + 1 }) ho fun h'' he' sb => ?_⟩
    have hT2 : h''.get? s.heap.objs.size = some { cls := .type "tuple", data := .seq #[.int i tk, y] } := (sb.2 _ (Nat.ne_of_gt hel)).trans hT
    have new : ObjOk X.prog X.w (upd H s.heap.objs.size (.tup [.int (i : Nat), x])) h'' s.heap.objs.size (.tup [.int (i : Nat), x]) :=
      ⟨by show 2 ≤ sizeLine; decide, [.int i tk, y], .cons ⟨_, rfl⟩ (.cons ru .nil), ⟨_, hT2, rfl, _, rfl⟩⟩
    have I1 : Inv X pins σ (upd H s.heap.objs.size (.tup [.int (i : Nat), x])) { s with heap := h'', toks := tk + 1 } :=
      I.turnedNew (ch := [e, it]) (fun b ob hb q => (sb.2 b (fun z => hb (by simp [z]))).trans (hk b ob (fun z => hb (by simp [z])) (fun z => hb (by simp [z])) q)) hf (Nat.le_refl _) new
    refine ⟨.ref s.heap.objs.size, _, I1, rfl, ⟨_, x, rfl, I.hok.fresh (Nat.le_refl _), rfl, fun ys hy => by rw [I.tuple_inj hy hq]; exact hx⟩, ⟨⟨y, ?_⟩, hit'.at fun o q => (sb.2 it (Ne.symm n1)).trans q, n1, n2, n3⟩, fun b hb => ?_⟩
    · rw [show ((i + 1 : Nat) : Int) = (i : Int) + 1 by omega]; exact he'
    · have hb' : b < s.heap.objs.size := by
        rcases (show b = e ∨ b = it by simpa using hb) with rfl | rfl
        · exact hel
        · exact hil
      rw [upd_ne (Nat.ne_of_lt hb')]
      exact (hf b hb).1
  done := by
    intro X hP hw hK hc i pins s σ H E I hf ⟨⟨old, he⟩, hit, n1, n2, n3⟩ ⟨xs, hq, hx⟩
    subst hP hw hK
    obtain ⟨its, rv, p, hz⟩ := I.tuple hq
    have hl := rv.length
    have tail : ∀ (n : Nat), its.toArray.size ≤ n → s.heap.IsTupleIter it a n → wpAny (model X.prog X.w) X.A (pyNext (.ref e)) (fun r s1 => r = none ∧ Inv X pins σ H s1) E s := fun n hn hn2 => by
      have D : Draws X.prog X.w X.A.in1 it [it, a] n (fun i v => its.toArray[i]? = some v ∧ False) (fun k h => k = n ∧ h.IsTupleIter it a n ∧ h.IsTuple a its.toArray) := {
        live := fun _ _ st => let ⟨o, ho, _⟩ := st.2.1; ⟨o, ho⟩
        frame := fun _ _ _ st hk => ⟨st.1, st.2.1.at fun o e => hk it (by simp) o e, st.2.2.at fun o e => hk a (by simp) o e⟩
        item := fun k s Q E hi st hQ => absurd st.1 (Nat.ne_of_lt hi)
        done := fun s Q E st hE => wpAny_nextOf_tuple_end (I.ok.hd hc) st.2.1 st.2.2 (by simp; simpa using hn) hE }
      refine wpAny_pyNext_enum_endD D he ⟨rfl, hn2, p⟩ fun h' eb => ?_
      obtain ⟨f0, f1, f2, f3, f4, f5⟩ := hf it (by simp)
      exact ⟨rfl, I.turned (t' := s.toks) (fun b o hb q => eb b o hb q) f0 f1 f3 f4 f5⟩
    exact tail i (by simp; omega) hit
  self := fun A i s Q E ⟨⟨_, he⟩, _⟩ h => wpAny_pyIter_enum he h
def iIet (K : Frag) (ta : TA) : TI := fun σ H R => ta σ H fun vs H1 => ∃ a xs, vs = [.ref a] ∧ SqT K H1 a xs ∧ R (Iet K a) H1
theorem pi_iet {X : Cx} {e : Expr} {ta : TA} {p pos tpos : Pos} {elts : List Expr} {kk : Nat} (hg : Gl X "enumerate") (hm : X.mg "enumerate" = none) (ha : PA X [e] ta) (hs : starEach [e] X.env = [(false, eval e X.env)] := by rfl) :
    PI X (.Tuple elts kk tpos) (.Call (.Name "enumerate" p) [e] [] pos) (iIet X.K ta) := by
  refine ⟨fun pins s σ H R I h => ?_⟩
  refine PyProof.Rows.Call_ (ld_blt I hg hm boot_enumerate (PyProof.Rows.callWith_type1 (thn (ha.run pos pins s σ H _ I h) fun us s1 ⟨vs, H1, I1, r1, a, xs, ex, hq, q⟩ => ?_) hs rfl))
  subst ex
  cases r1 with
  | cons r rr =>
    cases rr
    cases r
    obtain ⟨its, rv, p', hz⟩ := I1.tuple hq
    have la : a < s1.heap.objs.size := by obtain ⟨_, e1, _⟩ := p'; exact Heap.lt_size e1
    refine fp_enum_call p' fun h' he hit hk => wpAny_pyIter_enum he ?_
    have I2 : Inv X pins σ H1 { s1 with heap := h' } := I1.kept (t' := s1.toks) hk
    refine ⟨s1.heap.objs.size + 1, [s1.heap.objs.size + 1, s1.heap.objs.size], _, _, H1, rfl, I2, turn_iet a (s1.heap.objs.size + 1) s1.heap.objs.size, ⟨⟨.none, he⟩, hit, Nat.succ_ne_self _, Nat.ne_of_lt la, Nat.ne_of_gt (Nat.lt_succ_of_lt la)⟩, fun b hb => ?_, q⟩
    have hle : s1.heap.objs.size ≤ b := by
      rcases (show b = s1.heap.objs.size + 1 ∨ b = s1.heap.objs.size by simpa using hb) with rfl | rfl
      · exact Nat.le_add_right _ _
      · exact Nat.le_refl _
    exact I1.fpOk hle (I1.hok.fresh hle)

/-! ### pairs that are walked -/
theorem walkD_pair {K : Frag} {J : It} {xs : List D} {G2 Fs : Hp} {as bs : Nat → Option V} (w : Walk J xs.length (fun H => Same G2 H ∧ Same Fs H) (YPair as bs))
    (h : ∀ (i : Nat) (x : D) (F : Hp) (u v : V), Same Fs F → xs[i]? = some x → as i = some u → bs i = some v → ∃ d1 d2, x = .tuple [d1, d2] ∧ Rp K F u d1 ∧ Rp K F v d2) : WalkD K J xs G2 Fs :=
  ⟨_, w, fun i H v H' F Gc x s1 s2 s3 s4 y e => by
    obtain ⟨T, u, z, rfl, hT, rfl, ea, eb⟩ := y
    obtain ⟨d1, d2, rfl, r1, r2⟩ := h i x F u z s1 e ea eb
    have fT : F T = none := s2.free hT
    have gT : Gc T = none := s3.free hT
    have sm : Same F (upd F T (.tup [u, z])) := fun b o q => by rw [upd_ne (ne_of_none q fT)]; exact q
    refine ⟨upd F T (.tup [u, z]), ⟨sm, fun b hb => ?_⟩, .tup (.inl (.inl upd_same)) (.cons (Rp.mono sm r1) (.cons (Rp.mono sm r2) .nil)), .inr ⟨T, _, hT, rfl, rfl⟩⟩
    exact upd_ne fun z => hb (by rw [z]; exact gT)⟩
/-- the items numbered -/
def enuD : Nat → List D → List D
  | _, [] => []
  | i, x :: xs => .tuple [.int (i : Nat), x] :: enuD (i + 1) xs
theorem enuD_len : ∀ (k : Nat) (xs : List D), (enuD k xs).length = xs.length
  | _, [] => rfl
  | k, x :: xs => by unfold enuD; rw [List.length_cons, List.length_cons, enuD_len]
theorem enuD_get : ∀ (k : Nat) (xs : List D) (i : Nat), (enuD k xs)[i]? = (xs[i]?).map fun x => .tuple [.int ((k + i : Nat)), x]
  | _, [], i => by simp [enuD]
  | k, x :: xs, 0 => by simp [enuD]
  | k, x :: xs, i + 1 => by
    unfold enuD
    rw [List.getElem?_cons_succ, List.getElem?_cons_succ, enuD_get (k + 1) xs i]
    rw [show k + 1 + i = k + (i + 1) by omega]
theorem walkD_enu {K : Frag} {J : It} {vs : List V} {xs : List D} {G2 Fs : Hp} {G : Hp → Prop} (w : Walk J vs.length G (YPair (fun i => some (.int (i : Nat))) fun i => vs[i]?)) (h : ∀ H, Same G2 H ∧ Same Fs H → G H) (r : RpAll K Fs vs xs) : WalkD K J (enuD 0 xs) G2 Fs := by
  refine walkD_pair (by rw [enuD_len, ← r.len]; exact w.mono h fun i H x H' _ _ y => y) fun i x F u v s1 e ea eb => ?_
  obtain ⟨d, e1, r1⟩ := r.atV eb
  rw [enuD_get, e1] at e
  cases e
  cases ea
  refine ⟨_, _, rfl, ?_, Rp.mono s1 r1⟩
  rw [Nat.zero_add]
  exact .int _
def iEnu (f : FnA) : FnI := fun Γ => (f Γ).bind fun p => match p.1 with
  | [rv] => match rv.get p.2 with
    | some (.tuple xs) => .ok (enuD 0 xs, none, p.2)
    | _ => match itemsL rv p.2 with
      | some (xs, lk) => .ok (enuD 0 xs, lk, p.2)
      | none => .bad
  | _ => .bad
def zipD : List D → List D → List D
  | x :: xs, y :: ys => .tuple [x, y] :: zipD xs ys
  | _, _ => []
theorem zipD_len : ∀ (xs ys : List D), (zipD xs ys).length = min xs.length ys.length
  | [], ys => by simp [zipD]
  | x :: xs, [] => by simp [zipD]
  | x :: xs, y :: ys => by simp [zipD, zipD_len xs ys]
theorem zipD_get : ∀ (xs ys : List D) (i : Nat) (x y : D), xs[i]? = some x → ys[i]? = some y → (zipD xs ys)[i]? = some (.tuple [x, y])
  | x :: xs, y :: ys, 0, _, _, e1, e2 => by cases e1; cases e2; rfl
  | x :: xs, y :: ys, i + 1, _, _, e1, e2 => by simp [zipD]; exact zipD_get xs ys i _ _ e1 e2
  | [], ys, i, _, _, e1, _ => by simp at e1
  | x :: xs, [], i, _, _, _, e2 => by simp at e2
theorem walkD_zip {K : Frag} {J : It} {vs us : List V} {xs ys : List D} {G2 Fs : Hp} {G : Hp → Prop} {n : Nat} (w : n = min vs.length us.length → Walk J n G (YPair (fun i => vs[i]?) fun i => us[i]?)) (h : ∀ H, Same G2 H ∧ Same Fs H → G H) (r : RpAll K Fs vs xs) (q : RpAll K Fs us ys) (hn : n = min vs.length us.length) : WalkD K J (zipD xs ys) G2 Fs := by
  have en : (zipD xs ys).length = n := by rw [zipD_len, hn, r.len, q.len]
  refine walkD_pair (by rw [en]; exact (w hn).mono h fun i H x H' _ _ y => y) fun i x F u v s1 e ea eb => ?_
  obtain ⟨d, e1, r1⟩ := r.atV ea
  obtain ⟨d2, e2, r2⟩ := q.atV eb
  rw [zipD_get _ _ _ _ _ e1 e2] at e
  cases e
  exact ⟨_, _, rfl, Rp.mono s1 r1, Rp.mono s1 r2⟩
section
variable {X : Cx} {E : WX} {e e2 : Expr} {fa : FnA} {p pos tpos : Pos} {elts : List Expr} {kk : Nat}
theorem pi_or {t e : Expr} {t1 t2 : TI} (h1 : PI X t e t1) (h2 : PI X t e t2) : PI X t e (fun σ H R => t1 σ H R ∨ t2 σ H R) :=
  ⟨fun pins s σ H R I h => h.elim (h1.run pins s σ H R I) (h2.run pins s σ H R I)⟩
theorem fi_enu (hg : Gl X "enumerate") (hm : X.mg "enumerate" = none) (ha : FA X E [e] fa) (hs : starEach [e] X.env = [(false, eval e X.env)] := by rfl) : FI X E (.Tuple elts kk tpos) (.Call (.Name "enumerate" p) [e] [] pos) (iEnu fa) :=
  pi_imp (pi_or (pi_enum hg hm ha hs) (pi_iet hg hm ha hs)) fun σ H Rk ⟨G, pn, F, Γ, R, h⟩ => by
  unfold iEnu at h
  cases q : fa Γ with
  | bad => rw [q] at h; exact h.elim
  | exc x => rw [q] at h; exact .inl ⟨G, pn, F, Γ, R, by rw [q]; exact h⟩
  | ok p =>
    obtain ⟨rvs, Γ1⟩ := p
    rw [q] at h
    simp only [Rs.bind_ok] at h
    split at h
    · rename_i rv
      split at h
      · rename_i xs e1
        refine .inr ⟨G, pn, F, Γ, R, ?_⟩
        rw [q]
        intro vs F1 H1 A1 R1 r1
        obtain ⟨v, us, rfl, r2, r3⟩ := r1.uncons
        obtain rfl : us = [] := by cases r3; rfl
        have r4 : RvR X.K G F1 H1 Γ1 σ v rv := by
          rcases r2 with ⟨d, rfl, h⟩ | ⟨i, rfl, h⟩
          · exact h
          · exact h
        obtain ⟨a, ws, rfl, h1, h2, h3⟩ := rv_tup R1 r4 e1
        exact ⟨a, ws, rfl, h1, h _ F1 H1 G A1 R1 rfl (walkD_enu walk_iet (fun H' s => sqT_same s.2 h3) h2)⟩
      · cases q2 : itemsL rv Γ1 with
        | none => simp only [q2] at h; exact h.elim
        | some p2 =>
          obtain ⟨xs, lk⟩ := p2
          simp only [q2] at h
          refine .inl ⟨G, pn, F, Γ, R, ?_⟩
          rw [q]
          intro vs F1 H1 A1 R1 r1
          obtain ⟨v, us, rfl, r2, r3⟩ := r1.uncons
          obtain rfl : us = [] := by cases r3; rfl
          have r4 : RvR X.K G F1 H1 Γ1 σ v rv ∧ rv.still = true := by
            rcases r2 with ⟨d, rfl, h⟩ | ⟨i, rfl, h⟩
            · exact ⟨h, rfl⟩
            · exact ⟨h, rfl⟩
          obtain ⟨a, ws, G2, rfl, hs, lkr, wd, ra, hall⟩ := itemsL_ok R1 r4.1 r4.2 q2
          exact ⟨a, ws, rfl, hs, h _ F1 H1 G2 A1 R1 lkr (walkD_enu walk_enum (fun H' s => hall H' s) ra)⟩
    · exact h.elim
/-- which slot is shut: none of both, or one -/
def lkOr : Option Nat → Option Nat → Option (Option Nat)
  | none, b => some b
  | a, none => some a
  | _, _ => none
def iZp (f : FnA) : FnI := fun Γ => (f Γ).bind fun p => match p.1 with
  | [r1, r2] => match r1.get p.2, r2.get p.2 with
    | some (.tuple xs), some (.tuple ys) => .ok (zipD xs ys, none, p.2)
    | _, _ => match itemsL r1 p.2, itemsL r2 p.2 with
      | some (xs, l1), some (ys, l2) => match lkOr l1 l2 with
        | some lk => .ok (zipD xs ys, lk, p.2)
        | none => .bad
      | _, _ => .bad
  | _ => .bad
theorem walk_zipT {K : Frag} {a b : Addr} {xs ys : List V} {n : Nat} (hn : n = min xs.length ys.length) : Walk (RZ.ItzT K a b) n (fun H => SqT K H a xs ∧ SqT K H b ys) (YPair (fun i => xs[i]?) (fun i => ys[i]?)) := by
  subst hn
  refine ⟨fun i _ hi q => ?_, fun _ q => ⟨xs, ys, q.1, q.2, by omega⟩, fun i H v H' _ q ⟨T, x, z, h1, h2, h3, h4, h5⟩ => ⟨T, x, z, h1, h2, h3, h4 xs q.1, h5 ys q.2⟩⟩
  have h1 : i < xs.length := by omega
  have h2 : i < ys.length := by omega
  exact ⟨xs, ys, xs[i], ys[i], q.1, q.2, by simp [h1], by simp [h2]⟩
theorem fi_zip (hg : Gl X "zip") (hm : X.mg "zip" = none) (ha : FA X E [e, e2] fa)
    (hs : starEach [e, e2] X.env = (false, eval e X.env) :: starEach [e2] X.env := by rfl) (hpl : (backTo pos (starEach [e2] X.env)).any (·.1) = false := by rfl) : FI X E (.Tuple elts kk tpos) (.Call (.Name "zip" p) [e, e2] [] pos) (iZp fa) :=
  pi_imp (RZ.pi_zipA hg hm ha hs hpl) fun σ H Rk ⟨G, pn, F, Γ, R, h⟩ => by
  refine ⟨G, pn, F, Γ, R, ?_⟩
  unfold iZp at h
  cases q : fa Γ with
  | bad => rw [q] at h; exact h.elim
  | exc x => rw [q] at h; exact h
  | ok p =>
    obtain ⟨rvs, Γ1⟩ := p
    rw [q] at h
    simp only [Rs.bind_ok] at h
    intro vs F1 H1 A1 R1 rall
    split at h
    · rename_i r1 r2
      obtain ⟨v, vs, rfl, w1, rall⟩ := rall.uncons
      obtain ⟨u, us, rfl, w2, rall⟩ := rall.uncons
      obtain rfl : us = [] := by cases rall; rfl
      have rv : ∀ {r : RV} {v : V}, ((∃ d, r = .d d ∧ Rp X.K F1 v d) ∨ ∃ i, r = .sl i ∧ σ[i]? = some (some v)) → RvR X.K G F1 H1 Γ1 σ v r ∧ r.still = true := fun {r v} z => by
        rcases z with ⟨d, rfl, h⟩ | ⟨i, rfl, h⟩
        · exact ⟨h, rfl⟩
        · exact ⟨h, rfl⟩
      split at h
      · rename_i xs ys e1 e2
        obtain ⟨a, ws, rfl, h1, h2, h3⟩ := rv_tup R1 (rv w1).1 e1
        obtain ⟨b, zs, rfl, k1, k2, k3⟩ := rv_tup R1 (rv w2).1 e2
        exact ⟨a, b, ws, zs, rfl, .inr ⟨h1, k1, h _ F1 H1 G A1 R1 rfl (walkD_zip walk_zipT (fun H' s => ⟨sqT_same s.2 h3, sqT_same s.2 k3⟩) h2 k2 rfl)⟩⟩
      · split at h
        · rename_i xs l1 ys l2 q1 q2
          split at h
          · rename_i lk ql
            obtain ⟨a, ws, G2, rfl, hs, lkr, wd, ra, hall⟩ := itemsL_ok R1 (rv w1).1 (rv w1).2 q1
            obtain ⟨b, zs, G3, rfl, hs', lkr', wd', ra', hall'⟩ := itemsL_ok R1 (rv w2).1 (rv w2).2 q2
            have go : ∀ G4, Same G2 G4 → Same G3 G4 → LkR X.K G G4 F1 H1 Γ1 σ lk → Rk (Itz X.K a b) H1 := fun G4 s1 s2 lk4 =>
              h _ F1 H1 G4 A1 R1 lk4 (walkD_zip walk_zip (fun H' s => ⟨hall H' ⟨s1.trans s.1, s.2⟩, hall' H' ⟨s2.trans s.1, s.2⟩⟩) ra ra' rfl)
            refine ⟨a, b, ws, zs, rfl, .inl ⟨hs, hs', ?_⟩⟩
            have up : ∀ {i : Nat} {G5 : Hp}, LkR X.K G G5 F1 H1 Γ1 σ (some i) → Same G G5 := fun {i G5} ⟨a, vs, ys, e, _, _, _, _, _, ga⟩ => by
              subst e
              exact fun b o q => by rw [upd_ne (ne_of_none q ga)]; exact q
            cases l1 with
            | none =>
              obtain rfl : G2 = G := lkr
              have ql' : some l2 = some lk := ql
              cases ql'
              cases l2 with
              | none => exact go G3 (by obtain rfl : G3 = G2 := lkr'; exact Same.refl _) (Same.refl _) lkr'
              | some i => exact go G3 (up lkr') (Same.refl _) lkr'
            | some i =>
              cases l2 with
              | none =>
                obtain rfl : G3 = G := lkr'
                have ql' : some (some i) = some lk := ql
                cases ql'
                exact go G2 (Same.refl _) (up lkr) lkr
              | some j => cases ql
          · exact h.elim
        · exact h.elim
    · exact h.elim
/-- over a list or a tuple, as it comes -/
def iAny (f : FnE) : FnI := fun Γ => (eOp f Γ).bind fun p => match p.1.get p.2 with
  | some (.tuple xs) => .ok (xs, none, p.2)
  | _ => match itemsL p.1 p.2 with
    | some (xs, lk) => .ok (xs, lk, p.2)
    | none => .bad
theorem fi_any {tg : Expr} {fe : FnE} (he : FE X E e fe) : FI X E tg e (iAny fe) := pi_imp (pi_or (fi_list he) (fi_tup he)) fun σ H Rk ⟨G, pn, F, Γ, R, h⟩ => by
  unfold iAny at h
  cases q : eOp fe Γ with
  | bad => rw [q] at h; exact h.elim
  | exc x => rw [q] at h; exact .inl ⟨G, pn, F, Γ, R, by unfold iL; rw [q]; exact h⟩
  | ok p =>
    obtain ⟨rv, Γ1⟩ := p
    rw [q] at h
    simp only [Rs.bind_ok] at h
    split at h
    · rename_i xs e1
      refine .inr ⟨G, pn, F, Γ, R, ?_⟩
      unfold iT
      rw [q]
      simp only [Rs.bind_ok]
      rw [e1]
      exact h
    · refine .inl ⟨G, pn, F, Γ, R, ?_⟩
      unfold iL
      rw [q]
      exact h
end
end FL

/-! FQ: a law's facts in bundles. -/
namespace FL
open PySem PySem.Spec L2

abbrev vErr : List Value := [.type "ValueError", .type "Exception", .type "BaseException", .type "object"]
/-- an error class of the text, without an init of its own -/
structure Erc (K : Frag) (mg : Str → Option Value) (x : Str) : Prop where
  ex : ∃ C : Addr, PySem.W.excIn K C vErr "ValueError.__new__" = true ∧ mg x = some (.ref C) ∧ PySem.W.keepIn K (.ref C) = true ∧ PySem.W.subIn K (.ref C) (.type "BaseException") = some true ∧ PySem.W.typeIn K (.ref C) = some (.type "type")
theorem erc_mk {K : Frag} {h : Heap} {mg : Str → Option Value} {x : Str} {C : Addr} (X : K.In h) (G : h.Ns mainGlobals mg) (a : PySem.W.nsIn K mainGlobals x = some (some (.ref C))) (b : PySem.W.excIn K C vErr "ValueError.__new__" = true) (c : PySem.W.keepIn K (.ref C) = true)
    (d : PySem.W.subIn K (.ref C) (.type "BaseException") = some true) (e : PySem.W.typeIn K (.ref C) = some (.type "type")) : Erc K mg x := ⟨C, b, PySem.W.mg_of X G a, c, d, e⟩
/-- a def of the text, ready to be called -/
structure Clb (P : Program) (w : World) (K : Frag) (mg : Str → Option Value) (base : Heap) (k : Nat) (x : Str) (n : Nat) (run : FnR) : Prop where
  ex : ∃ (f : Addr) (fd : FuncData) (ps : List Str), Kp P w K mg base k f fd ps run ∧ mg x = some (.ref f) ∧ PySem.W.keepIn K (.ref f) = true ∧ Binds K fd ps [] ∧ ps.length = n
/-- a def's text where it lies -/
structure Tx (K : Frag) (mg : Str → Option Value) (x : Str) (st : Stmt) (ps : List Str) : Prop where
  ex : ∃ (f : Addr) (fd : FuncData), Fun K x x st f fd ∧ mg x = some (.ref f) ∧ Binds K fd ps []
theorem tx_mk {K : Frag} {h : Heap} {mg : Str → Option Value} {x : Str} {st : Stmt} {f : Addr} {oc : Value} {od an : Option Addr} {osl : Array (Option Value)} {kV doc pm cdv ct : Value} {ps : List Str} (X : K.In h) (G : h.Ns mainGlobals mg)
    (a : PySem.W.nsIn K mainGlobals x = some (some (.ref f))) (l : K.lookup f = some ⟨oc, od, .func (PySem.W.fnOf x x (defArgs st) (defBody st) (defScope st) .none kV doc pm an cdv ct), osl⟩) (c : PySem.W.codeIn K cdv x = true) (k : PySem.W.keepIn K (.ref f) = true)
    (hb : ∀ (kV doc pm : Value) (an : Option Addr) (cdv ct : Value) (us : List Value), us.length = ps.length → bindArgs (PySem.W.fnOf x x (defArgs st) (defBody st) (defScope st) .none kV doc pm an cdv ct) ⟨us, []⟩ = pure (ps.zip us)) : Tx K mg x st ps :=
  ⟨f, _, fun_mk l c k, PySem.W.mg_of X G a, (fun_mk l c k).binds hb⟩
/-- the context of a def's body -/
abbrev bX (P : Program) (w : World) (K : Frag) (mg : Str → Option Value) (base : Heap) (N : List Str) (x : Str) (st : Stmt) (f : Addr) (cdv : Value) (A : Around) (outer : List Env) (s : Shared) (H : Hp) (Ex : XK) : Cx :=
  cxOf (L2N.CX P w) P w K mg base N x (defScope st) f cdv A outer s H Ex
abbrev bE (Ex : XK) : WX := fun c d _ H => Ex c d H
section
variable {P : Program} {w : World} {K : Frag} {mg : Str → Option Value} {base : Heap}
theorem clb_of {x : Str} {st : Stmt} {N ps : List Str} {k n : Nat} {fb : FnS} (T : Tx K mg x st ps) (S : FnScope N ps (defScope st)) (hn : ps.length = n)
    (body : ∀ (f : Addr) (cdv : Value) (A : Around) (outer : List Env) (s : Shared) (H : Hp) (Ex : XK), Cok (bX P w K mg base N x st f cdv A outer s H Ex) (bE Ex) k → L2N.Takes (bX P w K mg base N x st f cdv A outer s H Ex) (bE Ex) →
      PassesOwn (model P w) (bX P w K mg base N x st f cdv A outer s H Ex).A (bX P w K mg base N x st f cdv A outer s H Ex).env (bX P w K mg base N x st f cdv A outer s H Ex).xe → FSs (bX P w K mg base N x st f cdv A outer s H Ex) (bE Ex) (defBody st) fb) : Clb P w K mg base (k + 1) x n (runBody N.length fb) := by
  obtain ⟨f, fd, F, hm, hb⟩ := T.ex
  refine ⟨f, fd, ps, kp_of F S fun cdv A outer s H Ex room gd => ?_, hm, F.kp, hb, hn⟩
  have tk : L2N.Takes (bX P w K mg base N x st f cdv A outer s H Ex) (bE Ex) := L2N.takes_of rfl rfl rfl rfl
  exact body f cdv A outer s H Ex ⟨rfl, room, gd, fun σ => L2N.passAt tk σ⟩ tk (passes_of rfl)
end
section
variable {X : Cx} {E : WX} {k j n : Nat} {x : Str} {run : FnR} {e : Expr} {es : List Expr} {p pos : Pos} {fa : FnA}
theorem fe_callC (F : Clb X.prog X.w X.K X.mg X.base j x n run) (c : Cok X E k) (hj : j ≤ k) (hg : Gl X x) (io : Option Nat) (ha : FA X E (e :: es) fa)
    (hdb : (x == ("__debug__" : Str)) = false := by decide) (he : starEach (e :: es) X.env = (false, eval e X.env) :: starEach es X.env := by rfl) (hpl : (backTo pos (starEach es X.env)).any (·.1) = false := by rfl) :
    FE X E (.Call (.Name x p) (e :: es) [] pos) (eCall run n io fa) := by
  obtain ⟨f, fd, ps, K0, hm, hk, hb, rfl⟩ := F.ex
  exact fe_call (K0.up hj) c hg hm hk hb io ha hdb he hpl
theorem fe_callCF (F : Clb X.prog X.w X.K X.mg X.base j x n run) (c : Cok X E k) (hj : j ≤ k) (hg : Gl X x) (io : Option Nat) (ha : FA X E (e :: es) fa)
    (hdb : (x == ("__debug__" : Str)) = false := by decide) (he : starEach (e :: es) X.env = (false, eval e X.env) :: starEach es X.env := by rfl) (hpl : (backTo pos (starEach es X.env)).any (·.1) = false := by rfl) :
    FE X E (.Call (.Name x p) (e :: es) [] pos) (eCallF run n io fa) := by
  obtain ⟨f, fd, ps, K0, hm, hk, hb, rfl⟩ := F.ex
  exact fe_callFz (K0.up hj) c hg hm hk hb io ha hdb he hpl
theorem fs_raiseC {m : Str} {j : Nat} {p2 p3 : Pos} (hc : X.calm = true) (tk : L2N.Takes X E) (e : Erc X.K X.mg x) (hg : Gl X x) (hdb : (x == ("__debug__" : Str)) = false := by decide) :
    FS X E (.Raise (some (.Call (.Name x p) [.Constant (.str m) j p2] [] p3)) none pos) (sRaise x) := by
  obtain ⟨C, h1, h2, h3, h4, h5⟩ := e.ex
  exact fs_raise hc tk PySem.F.excBase_ValueError h1 h2 h3 (raises_own h4 h5) hg hdb
theorem cok_blk {s : Shared} {H : Hp} {scope : Scope} {cenv : Env} {fp : List Addr} (c : Cok X E k) : Cok (X.blk s H scope cenv fp) EN k :=
  ⟨c.calm, c.room, c.gd, fun σ pins H s e s' I z => by
    obtain ⟨_, _, _, _, _, _, _, _, _, _, _, _, q⟩ := z
    exact q.elim⟩
theorem Cok.u64 (c : Cok X E k) : X.A.units + 64 < cLine := by have := c.room.un; omega
theorem Cok.u65 (c : Cok X E k) : X.A.units + 65 < cLine := by have := c.room.un; omega
theorem fe_cint {i : Int} {t : Tok} (hg : Gl X x) (hm : X.mg x = some (.int i t)) (hd : (x == ("__debug__" : Str)) = false := by decide) : FE X E (.Name x pos) (eC (.int i)) :=
  fe_glob hg hm (v := .int i) ⟨t, rfl⟩ (fun F => .int i) hd
theorem fe_cstr {z : Str} {t : Tok} (hg : Gl X x) (hm : X.mg x = some (.str z t)) (hd : (x == ("__debug__" : Str)) = false := by decide) : FE X E (.Name x pos) (eC (.str z)) :=
  fe_glob hg hm (v := .str z) ⟨t, rfl⟩ (fun F => .str z) hd
end
end FL

/-! FT: the law itself. -/
namespace FL
open PySem PySem.Spec L2
open PyProof.Rows (AllBare IntsAre)

/-- what the law's def leaves -/
def Told (s1 : Shared) (r : Except Value Flow) (s' : Shared) : Prop := r = .ok (.ret (.bool true)) ∧ OldK s1.heap s'.heap ∧ s'.os = s1.os ∧ AllBare s'.gens
/-- the script in an abstract heap where nothing else is shown -/
structure Lone (K : Frag) (H : Hp) (a : Addr) (ns : List Int) : Prop where
  only : ∀ b o, H b = some o → b = a ∧ ∃ z, o = .frz z (.lst (ns.map V.int))
  has : SqS K H a (ns.map V.int)
theorem told_of {P : Program} {w : World} {K : Frag} {mg mb : Str → Option Value} {k : Nat} {fa a : Addr} {x : Str} {run : FnR} {s1 : Shared} {ns : List Int} {H : Hp} {outs : Ga} {oa : Obj}
    (hL : Lone K H a ns) (hok : HOk P w H s1.heap) (hno : H a ≠ none → K.lookup a = none) (hob : s1.heap.get? a = some oa) (hnd : ∀ es ep, oa.data ≠ .dict es ep)
    (KX : K.In s1.heap) (hns : s1.heap.Ns mainGlobals mg) (hb : s1.heap.Ns builtinsNs mb) (hbb : ∀ x : Str, x ≠ "__name__" → mb x = bootBuiltins x) (hlim : s1.heap.NoLimit) (hg : s1.gens = #[]) (hr : Room k callerA)
    (hfa : mg x = some (.ref fa)) (F : ∀ base : Heap, Clb P w K mg base k x 1 run)
    (ht : run [.scr ns] = .ok (.bool true) outs) : codeAny (model P w) callerA (.call (.ref fa) ⟨[.ref a], []⟩) (Told s1) s1 := by
  have out : ∀ {b : Addr} {o : Obj}, s1.heap.get? b = some o → H b = none → (hidT s1.heap H).get? b = some o := fun e n => hidT_get e n
  have nod : ∀ {b : Addr} {o : Obj} {es : Array DictEntry} {ep : Nat}, s1.heap.get? b = some o → o.data = .dict es ep → H b = none := fun {b o es ep} e z => by
    cases q : H b with
    | none => rfl
    | some u =>
      obtain ⟨rfl, _⟩ := hL.only b u q
      rw [hob] at e
      cases e
      exact (hnd _ _ z).elim
  have nss : ∀ {b : Addr} {m : Str → Option Value}, s1.heap.Ns b m → (hidT s1.heap H).Ns b m := fun {b m} ⟨o, es, ep, e, z, r⟩ => ⟨o, es, ep, out e (nod e z), z, r⟩
  have kin : K.In (hidT s1.heap H) := fun b o e => out (KX b o e) (by
    cases q : H b with
    | none => rfl
    | some u =>
      obtain ⟨rfl, _⟩ := hL.only b u q
      have := hno (by rw [q]; simp)
      rw [e] at this
      cases this)
  have md : Mod K mg (hidT s1.heap H) := ⟨kin, nss hns, ⟨mb, nss hb, hbb⟩, let ⟨mc, h1, h2⟩ := hlim; ⟨mc, nss h1, h2⟩⟩
  have en : Env0 P w K mg (hidT s1.heap H) callerA [] s1 H := ⟨rfl, md, fun b o e => of_hidT e, Nat.le_of_eq (hidT_size _ _), trivial, fun b z => absurd (show b ∈ ([] : List Addr) from z) (by simp), hok, .of_eq hg⟩
  have rep : Rep K (fun _ => none) [] ([Sl.scr ns].map some) ([V.ref a].map some) H H := {
    fh := fun _ _ z => z
    gh := fun _ _ z => by cases z
    sl := fun i s e => by
      cases i with
      | zero => cases e; exact ⟨.ref a, rfl, a, rfl, hL.has⟩
      | succ i => simp at e
    ap := fun i j si sj b e1 e2 o1 => by
      cases i with
      | zero => cases e1; cases o1
      | succ i => simp at e1
    lkp := fun i zs e => by
      cases i with
      | zero => cases e
      | succ i => simp at e
    pn := fun p hp => by cases hp
    len := rfl }
  have want : spF K mg run 1 [.ref a] H (fun v H' => v = .bl true ∧ Same H H') (fun _ _ _ => False) := by
    refine ⟨rfl, fun _ => none, [], H, [.scr ns], rep, fun p hp => absurd hp (by simp), ?_⟩
    rw [ht]
    intro v F' H' A1 S1 S2 rp _
    cases rp
    exact ⟨rfl, A1.1.trans S1⟩
  obtain ⟨f, fd, ps, kp, hm, _, hb1, hps⟩ := (F (hidT s1.heap H)).ex
  obtain rfl : fa = f := by
    have e := hfa.symm.trans hm
    cases e
    rfl
  rw [← hps] at want
  have bd := hb1 s1 [.ref a] KX (by rw [hps]; rfl)
  rw [List.append_nil] at bd
  refine codeAny_mono (kp.go callerA [] s1 H ⟨[.ref a], []⟩ [.ref a] [.ref a] _ _ hr rfl en bd (.cons rfl .nil) want) fun r s' h => ?_
  rcases r with e | fl
  · obtain ⟨_, _, _, _, _, _, _, _, _, _, _, _, z⟩ := h
    exact z.elim
  · cases fl with
    | next => exact False.elim h
    | brk => exact False.elim h
    | cont => exact False.elim h
    | ret u =>
      obtain ⟨v, H', os, bare, un, hok', r', rfl, sm⟩ := h
      obtain rfl : u = Value.bool true := r'
      refine ⟨rfl, OldK.of_keep fun b o e => ?_, os, bare⟩
      cases q : H b with
      | none => exact un.keep b o e q (fun z => by cases z) (by simp)
      | some u =>
        obtain ⟨_, z, rfl⟩ := hL.only b u q
        have e1 := (hok b _ q).1
        have e2 := (hok' b _ (sm b _ q)).1
        rw [e] at e1
        cases e1
        exact e2
theorem law_toldF {P : Program} {w : World} {K : Frag} {mg mb : Str → Option Value} {k : Nat} {fa a : Addr} {x : Str} {run : FnR} {s1 : Shared} {vs : List Value} {ns : List Int} {outs : Ga}
    (KX : K.In s1.heap) (hns : s1.heap.Ns mainGlobals mg) (hb : s1.heap.Ns builtinsNs mb) (hbb : ∀ x : Str, x ≠ "__name__" → mb x = bootBuiltins x) (hlim : s1.heap.NoLimit) (hg : s1.gens = #[])
    (hob : s1.heap.get? a = some { cls := .type "list", data := .seq vs.toArray }) (hi : IntsAre vs ns) (hl : ns.length ≤ sizeLine) (hr : Room k callerA)
    (hfa : mg x = some (.ref fa)) (F : ∀ base : Heap, Clb P w K mg base k x 1 run)
    (ht : run [.scr ns] = .ok (.bool true) outs) : codeAny (model P w) callerA (.call (.ref fa) ⟨[.ref a], []⟩) (Told s1) s1 := by
  have rv := vals_ints hi
  have nd : ∀ es ep, ({ cls := .type "list", data := .seq vs.toArray } : Obj).data ≠ .dict es ep := fun es ep z => by cases z
  cases hk : K.lookup a with
  | some o =>
    have e := KX a o hk
    rw [hob] at e
    cases e
    have no : ∀ (b : Addr) (u : HO), (fun _ => none : Hp) b = some u → False := fun b u z => by cases z
    refine told_of (H := fun _ => none) ⟨fun b u z => (no b u z).elim, .inr (.inr ⟨_, vs.toArray, _, hk, rfl, rfl, rfl, by rw [List.size_toArray, hi.length]; exact hl, by simpa using rv⟩)⟩ (fun b u z => (no b u z).elim) (fun z => absurd rfl z) hob nd KX hns hb hbb hlim hg hr hfa F ht
  | none =>
    obtain ⟨H, hH⟩ : ∃ H : Hp, H = upd (fun _ => none) a (.frz { cls := .type "list", data := .seq vs.toArray } (.lst (ns.map V.int))) := ⟨_, rfl⟩
    have hA : H a = some (.frz { cls := .type "list", data := .seq vs.toArray } (.lst (ns.map V.int))) := by rw [hH]; exact upd_same
    have hO : ∀ b o, H b = some o → b = a ∧ o = .frz { cls := .type "list", data := .seq vs.toArray } (.lst (ns.map V.int)) := fun b o e => by
      by_cases z : b = a
      · subst z; rw [hA] at e; exact ⟨rfl, (Option.some.inj e).symm⟩
      · rw [hH, upd_ne z] at e; cases e
    refine told_of (H := H) ⟨fun b o e => ⟨(hO b o e).1, _, (hO b o e).2⟩, .inl ⟨_, hA⟩⟩ (fun b o e => ?_) (fun _ => hk) hob nd KX hns hb hbb hlim hg hr hfa F ht
    obtain ⟨rfl, rfl⟩ := hO b o e
    exact ⟨hob, by rw [List.length_map]; exact hl, vs, _, rv, hob⟩

/-- the head's goal, from what the law's def is worth -/
theorem walkF {l : PySem.W.OpenLaw} {n k : Nat} {q : Program} {loose : List Str} {XP : (Str → Option Value) → Heap → Prop} {YP : World → Heap → Prop} {d : DefRec} {KK : Params → Frag} {run : FnR}
    (hn : l.most = some n) (hn2 : n ≤ sizeLine) (hdf : d.params.defaults = []) (hr : Room k callerA) (hY : ∀ (w : World) (h : Heap), YP w h → (KK w.params).In h)
    (F : ∀ (w : World) (mg : Str → Option Value) (h : Heap), (KK w.params).In h → h.Ns mainGlobals mg → ∀ base : Heap, Clb l.prog w (KK w.params) mg base k d.name 1 run)
    (ht : ∀ ns : List Int, ns.length ≤ n → (∀ z ∈ ns, Builtin.Int.intBits z ≤ 1048576) → ∃ outs, run [.scr ns] = .ok (.bool true) outs) :
    PySem.W.WalkO q loose XP YP l.row.toRowW d [] (fun f vs => PySem.call f vs) := by
  refine Att.attach_callB hn hdf fun w s0 s1 mg mb fa o pm cd doc a vs ns G Y ho hd hcd hmg hob hi hlen hbits hg => ?_
  have KX := hY w _ Y
  obtain ⟨outs, e⟩ := ht ns hlen hbits
  exact law_toldF KX G.T.g G.T.b G.T.builtins G.T.nolimit hg hob hi (Nat.le_trans hlen hn2) hr hmg (F w mg _ KX G.T.g) e
end FL

/-! FR: texts compared; repr. -/
namespace FL
open PySem PySem.Spec L2
def eqS : D → D → Option Bool
  | .str a, .str b => some (decide (a = b))
  | x, y => eqD x y
def neS (x y : D) : Option Bool := (eqS x y).map (!·)
section
variable {X : Cx}
theorem eqS_of {x y : D} {z : Bool} (h : eqS x y = some z) : (∃ a b, x = .str a ∧ y = .str b ∧ z = decide (a = b)) ∨ eqD x y = some z := by
  unfold eqS at h
  split at h
  · cases h; exact .inl ⟨_, _, rfl, rfl, rfl⟩
  · exact .inr h
theorem dec_st {a b : Str} : decide (V.str a = V.str b) = decide (a = b) := by simp
theorem cf_eqS (hu : X.A.units + 64 < cLine) : CmpF X .Eq eqS (fun x y H Q => rEq x y H Q ∨ rEqD X.K x y H Q) := ⟨op_eq.or (op_eqD hu), fun K eK H x y d e z Q h1 h2 f q => by
  rcases eqS_of f with ⟨a, b, rfl, rfl, rfl⟩ | f
  · cases h1
    cases h2
    exact .inl ⟨rfl, by rw [dec_st]; exact q⟩
  · exact .inr ((cf_eq hu).2 K eK H x y d e z Q h1 h2 f q)⟩
theorem cf_neS (hu : X.A.units + 64 < cLine) : CmpF X .NotEq neS (fun x y H Q => rNe x y H Q ∨ rNeD X.K x y H Q) := ⟨op_ne.or (op_neD hu), fun K eK H x y d e z Q h1 h2 f q => by
  unfold neS at f
  cases g : eqS d e with
  | none => rw [g] at f; cases f
  | some w =>
    rw [g] at f
    cases f
    rcases eqS_of g with ⟨a, b, rfl, rfl, rfl⟩ | g
    · cases h1
      cases h2
      exact .inl ⟨rfl, by rw [dec_st]; exact q⟩
    · exact .inr ((cf_ne hu).2 K eK H x y d e _ Q h1 h2 (by unfold neD; rw [g]; rfl) q)⟩
def shwOk (d : D) : Bool := PyData.showable d && !PyData.hasDict d && decide (PyData.depth d ≤ 100) && decide ((PyData.shown d).length ≤ lim)
def reprD : D → Option D
  | .none => some (.str "None")
  | .int i => if i.natAbs.log2 < 1920 then some (.str (toString i)) else none
  | .list xs => if shwOk (.list xs) then some (.str (PyData.shown (.list xs))) else none
  | .tuple xs => if shwOk (.tuple xs) then some (.str (PyData.shown (.tuple xs))) else none
  | _ => none
theorem reprD_nd {d z : D} (h : reprD d = some z) : PyData.hasDict d = false := by
  unfold reprD at h
  have g : ∀ y : D, shwOk y = true → PyData.hasDict y = false := fun y q => by
    unfold shwOk at q
    simp only [Bool.and_eq_true, Bool.not_eq_true'] at q
    exact q.1.1.2
  split at h
  · rfl
  · rfl
  · split at h
    · rename_i q; exact g _ q
    · cases h
  · split at h
    · rename_i q; exact g _ q
    · cases h
  · cases h
def rRepr (K : Frag) : List V → Hp → VK → Prop := fun xs H Q => ∃ v d t, xs = [v] ∧ Dp K H v d ∧ reprD d = some (.str t) ∧ Q (.str t) H
theorem call_reprF {E : WX} {k : Nat} (c : Cok X E k) : CallR X (.builtin "repr") (rRepr X.K) := by
  intro pins s σ H xs us Q I r h
  obtain ⟨v, d, t, rfl, hd, e, q⟩ := h
  have hu : X.A.units + 200 < cLine := by have := c.room.un; omega
  cases r with
  | cons rx rr =>
    rename_i u us'
    cases rr
    obtain ⟨as, rd⟩ := Dp.reads I d v u hd rx
    have big : ∀ (a : Addr), u = .ref a → shwOk d = true → wpAny (model X.prog X.w) X.A (call (.builtin "repr") [u]) (fun w s1 => ∃ tk, w = .str d.shown tk ∧ Inv X pins σ H s1) X.xe s := fun a eu ok => by
      subst eu
      unfold shwOk at ok
      simp only [Bool.and_eq_true, Bool.not_eq_true', decide_eq_true_eq] at ok
      obtain ⟨⟨⟨h1, h2⟩, h3⟩, h4⟩ := ok
      exact PySem.repr_of_reads' rd h1 (PyData.noDict_hsm h2) c.gd (by omega) (fun _ _ e => e) (fun h' u tk hk => ⟨u, rfl, I.kept (t' := tk) hk⟩) (by rw [lim_eq]; exact h4)
    cases hd with
    | non =>
      cases rx
      cases e
      exact PySem.P.repr_of_none ⟨.str _, H, I.tok _, ⟨_, rfl⟩, q⟩
    | bl b => cases e
    | int i =>
      obtain ⟨tk, rfl⟩ := rx
      replace e : (if i.natAbs.log2 < 1920 then some (PyData.str (toString i)) else none) = some (.str t) := e
      split at e
      · rename_i hz
        cases e
        exact PySem.P.repr_of_int hz ⟨.str _, H, I.tok _, ⟨_, rfl⟩, q⟩
      · cases e
    | str x => cases e
    | @lst a xs ds h1 h2 =>
      cases rx
      replace e : (if shwOk (.list ds) then some (PyData.str (PyData.shown (.list ds))) else none) = some (.str t) := e
      split at e
      · rename_i ok
        cases e
        exact wpAny_mono (big _ rfl ok) (fun w s1 ⟨tk, e, J⟩ => by subst e; exact ⟨.str _, H, J, ⟨_, rfl⟩, q⟩) fun _ _ x => x
      · cases e
    | @tup a xs ds h1 h2 =>
      cases rx
      replace e : (if shwOk (.tuple ds) then some (PyData.str (PyData.shown (.tuple ds))) else none) = some (.str t) := e
      split at e
      · rename_i ok
        cases e
        exact wpAny_mono (big _ rfl ok) (fun w s1 ⟨tk, e, J⟩ => by subst e; exact ⟨.str _, H, J, ⟨_, rfl⟩, q⟩) fun _ _ x => x
      · cases e
variable {E : WX} {f : FnE} {p pos : Pos} {e : Expr} {k : Nat}
theorem repr_str {d z : D} (h : reprD d = some z) : ∃ t, z = .str t := by
  unfold reprD at h
  split at h
  · cases h; exact ⟨_, rfl⟩
  · split at h
    · cases h; exact ⟨_, rfl⟩
    · cases h
  · split at h
    · cases h; exact ⟨_, rfl⟩
    · cases h
  · split at h
    · cases h; exact ⟨_, rfl⟩
    · cases h
  · cases h
theorem fe_repr (c : Cok X E k) (hg : Gl X "repr") (hm : X.mg "repr" = none) (he : FE X E e f) (hs : starEach [e] X.env = [(false, eval e X.env)] := by rfl) : FE X E (.Call (.Name "repr" p) [e] [] pos) (eUn (g1 reprD) f) :=
  fe_b1 (call_reprF c) hg hm (by decide +kernel) he (fun G pn F Γ σ H v ra Q R r h => by
    obtain ⟨d, z, q1, q3, h⟩ := post_g1 h
    obtain ⟨t, rfl⟩ := repr_str q3
    exact ⟨v, d, t, rfl, (rv_get R r q1).dp (reprD_nd q3), q3, post_d R h (.str _)⟩) (hs := hs)
end
end FL

/-! FS: more methods: index of a list of numbers. -/
namespace FL
open PySem PySem.Spec L2
def idxI : List Int → Int → Option Nat
  | [], _ => none
  | a :: r, k => if a = k then some 0 else (idxI r k).map (· + 1)
theorem idxI_ok : ∀ {ns : List Int} {k : Int} {j : Nat}, idxI ns k = some j → ns[j]? = some k ∧ ∀ m : Nat, m < j → ns[m]? ≠ some k
  | [], _, _, h => by cases h
  | a :: r, k, j, h => by
    unfold idxI at h
    split at h
    · rename_i e
      cases h
      exact ⟨by rw [e]; rfl, fun m hm => absurd hm (Nat.not_lt_zero _)⟩
    · rename_i e
      cases q : idxI r k with
      | none => rw [q] at h; cases h
      | some i =>
        rw [q] at h
        cases h
        obtain ⟨h1, h2⟩ := idxI_ok q
        refine ⟨by simpa using h1, fun m hm => ?_⟩
        cases m with
        | zero => intro z; exact e (Option.some.inj z)
        | succ m =>
        have hm2 : m + 1 < i + 1 := hm
        simpa using h2 m (by omega)
def ownList : Option (Option Sl) → Option (List D)
  | some (some (.ow xs)) => some xs
  | some (some (.io xs)) => some xs
  | _ => none
def outIdx (i : Nat) : Ga → RV → Rs (RV × Ga) := fun Γ rv => match rv with
  | .d (.int k) => (match ((ownList Γ[i]?).bind intsOf).bind fun ns => idxI ns k with
    | some j => .ok (.d (.int (j : Nat)), Γ)
    | none => .bad)
  | _ => .bad
theorem flat_ints (ns : List Int) : (ns.map V.int).all flatV = true := by
  rw [List.all_map, List.all_eq_true]
  intro x _
  rfl
section
variable {X : Cx} {E : WX} {o e : Expr} {fe : FnE} {i : Nat} {apos cpos : Pos}
theorem fe_index (ho : PE X o (tVar i)) (he : FE X E e fe) (hbase : attributeBase o "index" X.env (eval o X.env) = eval o X.env := by rfl)
    (hs : starEach [e] X.env = [(false, eval e X.env)] := by rfl) (hfew : ((backTo cpos (starEach [e] X.env)).all (fun x => !x.1) && (backToKw cpos (keywordEach [] X.env)).all (fun x => x.1.isSome)
      && decide (([e]).length + ([] : List Keyword).length + (if ([] : List Keyword).isEmpty then 0 else 1) < 30)) = true := by rfl) (hline : (apos.endLine == cpos.line) = true := by rfl) :
    FE X E (.Call (.Attribute o "index" apos) [e] [] cpos) (eMet i fe (outIdx i)) :=
  pe_imp (pe_bm PySem.F.plainAttrs_list PySem.F.slot_list_index PySem.F.type_list_index mt_index ho (pa_cons he pa_nil hs) hbase hfew hline hs rfl) (key_meth fun G pn F Γ σ H u y rv Q R hu r h => by
    unfold outIdx at h
    split at h
    · rename_i k
      split at h
      · rename_i j q
        cases q1 : ownList Γ[i]? with
        | none => rw [q1] at q; cases q
        | some xs =>
          rw [q1] at q
          cases q2 : intsOf xs with
          | none => simp [q2] at q
          | some ns =>
            have q3 : idxI ns k = some j := by simpa [q2] using q
            have ex := intsOf_ok q2
            subst ex
            cases r
            have there : ∃ a vs, u = .ref a ∧ H a = some (.lst vs) ∧ RpAll X.K F vs (ns.map .int) := by
              have go : ∀ s : Sl, Γ[i]? = some (some s) → (s = .ow (ns.map .int) ∨ s = .io (ns.map .int)) → ∃ a vs, u = .ref a ∧ H a = some (.lst vs) ∧ RpAll X.K F vs (ns.map .int) := fun s es hh => by
                obtain ⟨v, e1, e2⟩ := R.sl i s es
                obtain rfl : u = v := Option.some.inj (Option.some.inj (hu.symm.trans e1))
                rcases hh with rfl | rfl
                · obtain ⟨a, rfl, vs, h1, h2, _⟩ := e2; exact ⟨a, vs, rfl, h1, h2⟩
                · obtain ⟨a, rfl, vs, h1, h2, _⟩ := e2; exact ⟨a, vs, rfl, h1, h2⟩
              cases qg : Γ[i]? with
              | none => rw [qg] at q1; cases q1
              | some z =>
                cases z with
                | none => rw [qg] at q1; cases q1
                | some s =>
                  rw [qg] at q1
                  cases s with
                  | ow ys => cases q1; exact go _ qg (.inl rfl)
                  | io ys => cases q1; exact go _ qg (.inr rfl)
                  | _ => cases q1
            obtain ⟨a, vs, rfl, h1, h2⟩ := there
            have ev := RpAll.ints h2
            subst ev
            obtain ⟨f1, f2⟩ := idxI_ok q3
            refine ⟨a, ns.map V.int, .int k, j, .int k, rfl, rfl, SqL.of h1, rfl, flat_ints ns, by rw [List.getElem?_map, f1]; rfl, by simp [eqV], fun m z' hm hz => ?_, post_d R h (.int _)⟩
            rw [List.getElem?_map] at hz
            cases qm : ns[m]? with
            | none => rw [qm] at hz; cases hz
            | some b =>
              rw [qm] at hz
              cases hz
              have : b ≠ k := fun z => f2 m hm (by rw [qm, z])
              simp [eqV, this]
      · exact h.elim
    · exact h.elim)
end
end FL

/-! FV: blocks with what follows; slots forgotten. -/
namespace FL
open PySem PySem.Spec L2
section
variable {K : Frag} {G : Hp} {pn : List (Nat × Addr)} {Γ : Ga} {σ : St} {F H : Hp}
theorem Rep.drop1 {i : Nat} (R : Rep K G pn Γ σ F H) (hi : freeAt Γ i = true) : Rep K G pn (Γ.set i none) σ F H where
  fh := R.fh
  gh := R.gh
  sl := fun j t e => by
    rcases get_set e with ⟨e1, e2, hl⟩ | ⟨e1, e2⟩
    · cases e2
    · exact R.sl j t e2
  ap := fun j k sj sk a e1 e2 o1 o2 q1 q2 => by
    rcases get_set e1 with ⟨z1, z2, hl⟩ | ⟨z1, z2⟩
    · cases z2
    · rcases get_set e2 with ⟨y1, y2, hl⟩ | ⟨y1, y2⟩
      · cases y2
      · exact R.ap j k sj sk a z2 y2 o1 o2 q1 q2
  lkp := fun j zs e => by
    rcases get_set e with ⟨e1, e2, hl⟩ | ⟨e1, e2⟩
    · cases e2
    · exact R.lkp j zs e2
  pn := fun p hp => by
    obtain ⟨q1, s', q2, q3⟩ := R.pn p hp
    have ne : p.1 ≠ i := fun z => by
      subst z
      unfold freeAt at hi
      rw [q2] at hi
      simp only [q3] at hi
      cases hi
    exact ⟨q1, s', by rw [List.getElem?_set_ne (Ne.symm ne)]; exact q2, q3⟩
  len := by rw [List.length_set]; exact R.len
def dropG : List Nat → Ga → Option Ga
  | [], Γ => some Γ
  | v :: vs, Γ => if freeAt Γ v then dropG vs (Γ.set v none) else none
theorem Rep.forget : ∀ {vs : List Nat} {Γ Γ' : Ga}, Rep K G pn Γ σ F H → dropG vs Γ = some Γ' → Rep K G pn Γ' σ F H
  | [], Γ, Γ', R, e => by cases e; exact R
  | v :: vs, Γ, Γ', R, e => by
    unfold dropG at e
    split at e
    · rename_i h
      exact Rep.forget (R.drop1 h) e
    · cases e
end
def sW (vs : List Nat) (k : FnS) : FnS := fun Γ => match dropG vs Γ with
  | some Γ' => k Γ'
  | none => .bad
theorem tS_w {K : Frag} {mg : Str → Option Value} {E : WX} {vs : List Nat} {f : FnS} {Dn : Ends} {σ : St} {H : Hp} (h : tS K mg E (sW vs f) Dn σ H) : tS K mg E f Dn σ H := by
  obtain ⟨G, pn, F, Γ, R, h⟩ := h
  unfold sW at h
  cases q : dropG vs Γ with
  | none => rw [q] at h; exact h.elim
  | some Γ' => rw [q] at h; exact ⟨G, pn, F, Γ', R.forget q, h⟩
theorem seq_assoc (f g h : FnS) (Γ : Ga) : sSeq (sSeq f g) h Γ = sSeq f (sSeq g h) Γ := by
  unfold sSeq
  cases f Γ <;> rfl
/-- a name's own list handed on; the name is forgotten -/
def eTake (j : Nat) : FnE := fun Γ => match Γ[j]? with
  | some (some (.ow xs)) => .ok (.ow xs, Γ.set j none)
  | _ => .bad
theorem fe_take {X : Cx} {E : WX} {e : Expr} {j : Nat} (h : PE X e (tVar j)) : FE X E e (eTake j) := pe_imp (fe_var (E := E) h) fun σ H Q ⟨G, pn, F, Γ, R, q⟩ => by
  unfold eTake at q
  split at q
  · rename_i xs e
    have hf : freeAt Γ j = true := by unfold freeAt; rw [e]; rfl
    obtain ⟨v, hv, a, rfl, o⟩ := R.sl j _ e
    refine ⟨G, pn, F, Γ, R, ?_⟩
    have ev : eVar j Γ = .ok (.sl j, Γ) := by unfold eVar; rw [e]
    rw [ev]
    intro v' F' H' A R' r
    have r' : σ[j]? = some (some v') := r
    rw [hv] at r'
    cases r'
    obtain ⟨v2, hv2, a2, e2, o2⟩ := R'.sl j _ e
    rw [hv] at hv2
    cases hv2
    cases e2
    refine q _ F' H' A (R'.drop1 hf) ⟨a, rfl, o2, fun i si ei oi z => ?_⟩
    rcases get_set ei with ⟨y1, y2, hl⟩ | ⟨y1, y2⟩
    · cases y2
    · exact y1 (R'.ap i j si _ a y2 e oi rfl z hv)
  · exact q.elim
/-- a block, and what follows it -/
def FC (X : Cx) (E : WX) (body : List Stmt) (r f : FnS) : Prop := ∃ fa, FSs X E body fa ∧ ∀ Γ, f Γ = sSeq fa r Γ
section
variable {X : Cx} {E : WX} {st : Stmt} {rest a b : List Stmt} {r k f g f1 f2 fa fb : FnS} {ft : FnT} {c : Expr} {pos : Pos} {vs : List Nat}
theorem fc_nil : FC X E [] r r := ⟨sNil, fs_nil, fun _ => rfl⟩
theorem fc_cons (h : FS X E st f1) (h2 : FC X E rest r f2) : FC X E (st :: rest) r (sSeq f1 f2) := by
  obtain ⟨f3, h3, e⟩ := h2
  refine ⟨_, fs_cons h h3, fun Γ => ?_⟩
  rw [seq_assoc]
  unfold sSeq
  cases f1 Γ <;> first | rfl | exact e _
theorem fc_if (hc : FT X E c ft) (ha : FC X E a k fa) (hb : FC X E b k fb) (hr : FC X E rest r k) : FC X E (.If c a b pos :: rest) r (sIf ft fa fb) := by
  obtain ⟨ga, ha, ea⟩ := ha
  obtain ⟨gb, hb, eb⟩ := hb
  obtain ⟨gr, hr, er⟩ := hr
  refine ⟨_, fs_cons (fs_if hc ha hb) hr, fun Γ => ?_⟩
  rw [seq_assoc]
  have k1 : k = sSeq gr r := funext er
  have e1 : sSeq (sIf ft ga gb) (sSeq gr r) Γ = sIf ft (sSeq ga k) (sSeq gb k) Γ := by
    rw [k1]
    show (match (ft Γ).toS (fun p => if p.1 then ga p.2 else gb p.2) with | .nx Γ' => sSeq gr r Γ' | q => q) = (ft Γ).toS (fun p => if p.1 then sSeq ga (sSeq gr r) p.2 else sSeq gb (sSeq gr r) p.2)
    cases ft Γ with
    | bad => rfl
    | exc x => rfl
    | ok p =>
      obtain ⟨z, Γ1⟩ := p
      cases z <;> rfl
  rw [e1]
  have e2 : fa = sSeq ga k := funext ea
  have e3 : fb = sSeq gb k := funext eb
  rw [e2, e3]
theorem fc_w (h : FC X E a r f) : FC X E a r (sW vs f) := by
  obtain ⟨ga, ha, ea⟩ := h
  refine ⟨sW vs ga, pss_imp ha fun Dn σ H q => tS_w q, fun Γ => ?_⟩
  have : f = sSeq ga r := funext ea
  rw [this]
  show (match dropG vs Γ with | some Γ' => sSeq ga r Γ' | none => .bad) = (match (match dropG vs Γ with | some Γ' => ga Γ' | none => SR.bad) with | .nx Γ' => r Γ' | q => q)
  cases dropG vs Γ <;> rfl
theorem fc_end (h : FS X E st f) (hn : ∀ Γ Γ', f Γ ≠ .nx Γ') : FC X E [st] r f := ⟨f, fs_one h, fun Γ => by
  unfold sSeq
  cases q : f Γ with
  | nx Γ' => exact absurd q (hn Γ Γ')
  | _ => rfl⟩
theorem fc_done (h : FC X E a sNil f) : FSs X E a f := by
  obtain ⟨ga, ha, ea⟩ := h
  have : f = ga := funext fun Γ => by
    rw [ea]
    unfold sSeq
    cases ga Γ <;> rfl
  rw [this]
  exact ha
/-- .. that ends by a slot forgotten -/
theorem fc_doneW (h : FC X E a (sW vs sNil) f) : FSs X E a f := by
  obtain ⟨ga, ha, ea⟩ := h
  have : f = sSeq ga (sW vs sNil) := funext ea
  rw [this]
  refine pss_imp ha fun Dn σ H q => ?_
  obtain ⟨G, pn, F, Γ, R, h⟩ := q
  refine ⟨G, pn, F, Γ, R, ?_⟩
  unfold sSeq at h
  cases q : ga Γ with
  | nx Γ1 =>
    simp only [q] at h
    unfold sW at h
    cases q2 : dropG vs Γ1 with
    | none => rw [q2] at h; exact h.elim
    | some Γ2 => rw [q2] at h; exact fun σ' F' H' A R' l => h σ' F' H' A (R'.forget q2) l
  | bk Γ1 => simp only [q] at h; exact h
  | ct Γ1 => simp only [q] at h; exact h
  | ret d Γ1 => simp only [q] at h; exact h
  | exc e => simp only [q] at h; exact h
  | bad => simp only [q] at h; exact h
theorem ret_nx (f : FnE) : ∀ Γ Γ', sRet f Γ ≠ .nx Γ' := fun Γ Γ' h => by
  unfold sRet at h
  cases q : f Γ with
  | bad => rw [q] at h; cases h
  | exc x => rw [q] at h; cases h
  | ok p =>
    rw [q] at h
    simp only [Rs.toS_ok] at h
    split at h <;> cases h
theorem retN_nx : ∀ Γ Γ', sRetN Γ ≠ .nx Γ' := fun Γ Γ' h => by cases h
theorem raise_nx (x : Str) : ∀ Γ Γ', sRaise x Γ ≠ .nx Γ' := fun Γ Γ' h => by cases h
theorem break_nx : ∀ Γ Γ', sBreak Γ ≠ .nx Γ' := fun Γ Γ' h => by cases h
theorem cont_nx : ∀ Γ Γ', sCont Γ ≠ .nx Γ' := fun Γ Γ' h => by cases h
end
end FL

/-! FX: more readings: t[::-1], sorted of data, chains, lists unpacked, module tuples. -/
namespace FL
open PySem PySem.Spec L2
open PyProof.Rows
theorem adj_back (n : Nat) : Builtin.Slice.sliceAdjust none none (-1) (n : Int) = ((n : Int) - 1, -1) := by
  unfold Builtin.Slice.sliceAdjust
  simp
theorem plc_back (n : Nat) : Builtin.Slice.slicePlaces ((n : Int) - 1) (-1) (-1) = n := by
  unfold Builtin.Slice.slicePlaces
  simp
  omega
theorem picks_back (xs : Array Value) : ((List.range xs.size).filterMap fun (m : Nat) => xs[(((xs.size : Int) - 1) + (m : Int) * (-1)).toNat]?).toArray = xs.toList.reverse.toArray := by
  have e1 : ((List.range xs.size).filterMap fun (m : Nat) => xs[(((xs.size : Int) - 1) + (m : Int) * (-1)).toNat]?) = ((List.range xs.size).map fun k => xs.size - 1 - k).filterMap (xs[·]?) := by
    rw [List.filterMap_map]
    have e : (fun (m : Nat) => xs[(((xs.size : Int) - 1) + (m : Int) * (-1)).toNat]?) = (fun x => xs[x]?) ∘ fun k => xs.size - 1 - k := funext fun m => by
      have e : (((xs.size : Int) - 1) + (m : Int) * (-1)).toNat = xs.size - 1 - m := by omega
      simp only [Function.comp, e]
    rw [e]
  rw [e1, PySem.W.krv_range, List.filterMap_reverse, PySem.W.krv_all]
section
variable {prog : Program} {w : World} {A : Around} {E : Value → Shared → Prop} {s : Shared}
open PySem.W
theorem applied_back {sl : Addr} {vk : Value} {n : Nat} {Q : Int × Int × Nat → Shared → Prop} (hs : s.heap.IsSliceOf sl .none .none vk) (pk : IsPart vk (some (-1)))
    (h : Q ((n : Int) - 1, -1, n) s) : wpAny (model prog w) A (Builtin.Slice.sliceApplied (.ref sl) (pure (n : Int))) Q E s := by
  obtain ⟨ob, g1, g2, g3⟩ := id hs
  unfold Builtin.Slice.sliceApplied Builtin.Slice.sliceFields
  refine wpAny_bind (wpAny_bind (wpAny_field g1 g3 (x := .none) rfl (wpAny_bind (wpAny_field g1 g3 (x := .none) rfl (wpAny_bind (wpAny_field g1 g3 (x := vk) rfl (wpAny_pure ?_)))))))
  refine wpAny_bind (HT.slicePart_ pk ?_)
  show wpAny _ _ (if ((-1 : Int) == 0) = true then _ else _) Q E s
  rw [if_neg (by decide)]
  refine wpAny_bind (HT.slicePart_ .none (wpAny_bind (HT.slicePart_ .none (wpAny_bind (wpAny_pure ?_)))))
  show wpAny _ _ (match Builtin.Slice.sliceAdjust none none (-1) (n : Int) with | (a, b) => pure (a, (-1 : Int), Builtin.Slice.slicePlaces a b (-1))) Q E s
  rw [adj_back n]
  show wpAny _ _ (pure ((n : Int) - 1, (-1 : Int), Builtin.Slice.slicePlaces ((n : Int) - 1) (-1) (-1))) Q E s
  rw [plc_back]
  exact wpAny_pure h
theorem tuple_back {t sl : Addr} {items : Array Value} {vk : Value} {Q : Value → Shared → Prop} (ht : IsTup s.heap t items) (hs : s.heap.IsSliceOf sl .none .none vk) (pk : IsPart vk (some (-1)))
    (h : Q (.ref s.heap.objs.size) { s with heap := s.heap.push { cls := .type "tuple", data := .seq items.toList.reverse.toArray } }) (hsz : items.size ≤ sizeLine) : wpAny (model prog w) A (getItem (.ref t) (.ref sl)) Q E s := by
  have fits : sizeOk (.seq items.toList.reverse.toArray) := by
    show items.toList.reverse.toArray.size ≤ sizeLine
    rw [List.size_toArray, List.length_reverse, Array.length_toList]
    exact hsz
  obtain ⟨ob, g1, g2, g3⟩ := id hs
  have hT : s.TypeIs (.ref sl) "slice" := ⟨ob, g1, g2⟩
  unfold getItem
  try with_reducible refine wpAny_holding ?_
  first | refine wpAny_bind (wpAny_pure ?_) | skip
  refine wpAny_bind (wpAny_sequenceKey ht.typeIs (by decide) ?_)
  refine wpAny_bind (wpAny_callSpecial?_slot (name := Str.ofString "__getitem__") ht.typeIs slot_tuple_getitem (wpAny_call_entry slot_tuple_getitem ht.typeIs entry_tuple_getitem ?_ (args_tuple_getitem _ _)))
  show wpAny _ _ (Builtin.Tuple.tupleItemsOf (.ref t) >>= _) _ E s
  refine wpAny_bind (tupleItemsOf_ ht ?_)
  refine wpAny_bind (wpAny_typeOf hT ?_)
  rw [if_pos (by decide)]
  refine wpAny_bind (applied_back hs pk ?_)
  have no : ¬ (((((items.size : Int) - 1) == 0) && (-1 : Int) == 1 && items.size == items.size) = true) := by
    intro q
    rw [Bool.and_eq_true, Bool.and_eq_true] at q
    exact absurd q.1.2 (by decide)
  show wpAny _ _ (if (((((items.size : Int) - 1) == 0) && (-1 : Int) == 1 && items.size == items.size) = true) then _ else _) _ E s
  rw [if_neg no, picks_back]
  first
    | exact wpAny_bind (m := Builtin.Tuple.tupleExact _) (wpAny_newObj_type (wpAny_pure ⟨_, rfl, wpAny_pure h⟩) fits)
    | exact wpAny_bind (m := Builtin.Tuple.tupleExact _) (wpAny_newObj_type (wpAny_bind (wpAny_pure (wpAny_pure ⟨_, rfl, wpAny_pure h⟩))) fits)
    | exact wpAny_bind (wpAny_bind (m := Builtin.Tuple.tupleExact _) (wpAny_newObj_type (wpAny_pure (wpAny_pure ⟨_, rfl, wpAny_pure h⟩)) fits))
    | exact wpAny_bind (wpAny_bind (m := Builtin.Tuple.tupleExact _) (wpAny_newObj_type (wpAny_pure ⟨_, rfl, wpAny_pure h⟩) fits))
end
/-! ### e[::-1] -/
def tBack (K : Frag) (te : TE) : TE := fun σ H Q => te σ H fun x H1 => (∃ a xs, x = .ref a ∧ SqT K H1 a xs ∧ ∀ p, H1 p = none → Q (.ref p) (upd H1 p (.tup xs.reverse))) ∨
  ∃ a xs, x = .ref a ∧ SqL K H1 a xs ∧ ∀ p, H1 p = none → Q (.ref p) (upd H1 p (.lst xs.reverse))
theorem pe_back {X : Cx} {e : Expr} {te : TE} {k : Nat} {p1 p2 p3 pos : Pos} (he : PE X e te) : PE X (.Subscript e (.Slice none none (some (.UnaryOp .USub (.Constant (.int 1) k p1) p2)) p3) pos) (tBack X.K te) := by
  refine ⟨fun ps s0 σ H Q J hq => ?_⟩
  refine Subscript_ (thn (he.run ps s0 σ H _ J hq) fun va s1 ⟨x, H1, J1, rx, qx⟩ => ?_)
  have step : PO X (some (.UnaryOp .USub (.Constant (.int 1) k p1) p2)) (tPart (tUn (rU fun i => .int (-i)) (tC (.int 1)))) := po_some (pe_un un_neg pe_int)
  refine wpAny_Slice (thn (po_none.run ps s1 σ H1 (fun o H2 => o = none ∧ H2 = H1) J1 ⟨rfl, rfl⟩) fun w1 s2 ⟨o1, H2, J2, m1, g1, e2⟩ => ?_)
  subst g1 e2
  refine thn (po_none.run ps s2 σ H2 (fun o H3 => o = none ∧ H3 = H2) J2 ⟨rfl, rfl⟩) fun w2 s3 ⟨o2, H3, J3, m2, g2, e3⟩ => ?_
  subst g2 e3
  refine thn (step.run ps s3 σ H3 (fun o H4 => o = some (-1) ∧ H4 = H3) J3 ⟨1, rfl, -1, rfl, rfl, rfl⟩) fun w3 s4 ⟨o3, H4, J4, m3, g3, e4⟩ => ?_
  subst g3 e4
  cases m1
  cases m2
  have J5 : Inv X ps σ H4 { s4 with heap := s4.heap.push { cls := .type "slice", data := .fields #[.none, .none, w3] } } := J4.kept (t' := s4.toks) fun b ob q => Heap.get?_push_of_some _ q
  rcases qx with ⟨a, xs, ex, hx, q⟩ | ⟨a, xs, ex, hx, q⟩
  · subst ex
    cases rx
    obtain ⟨its, r, ht, hz⟩ := J5.tuple hx
    have hlen := r.length
    show wpAny (model X.prog X.w) X.A (subscriptTail e (.Slice none none (some (.UnaryOp .USub (.Constant (.int 1) k p1) p2)) p3) (.ref a) (.ref s4.heap.objs.size)) _ X.xe { s4 with heap := s4.heap.push { cls := .type "slice", data := .fields #[.none, .none, w3] } }
    refine tail_any (ops := [.ref a, .ref s4.heap.objs.size]) ht.typeIs (slot_tuple_getitem.lookup) ?_ (by with_unfolding_all rfl)
    refine tuple_back ht (Heap.IsSliceOf.new _ .none .none w3) m3 ?_ (by rw [List.size_toArray]; omega)
    refine ⟨.ref _, _, J5.laid (t' := s4.toks) (o := .tup xs.reverse) (fun b ob q => Heap.get?_push_of_some _ q) (Nat.le_refl _) ?_, rfl, q _ (J5.hok.fresh (Nat.le_refl _))⟩
    exact ⟨by rw [List.length_reverse]; omega, _, r.reverse, IsTup.new _ _⟩
  · subst ex
    cases rx
    obtain ⟨its, r, ht, hz⟩ := J5.list hx
    have hlen := r.length
    show wpAny (model X.prog X.w) X.A (subscriptTail e (.Slice none none (some (.UnaryOp .USub (.Constant (.int 1) k p1) p2)) p3) (.ref a) (.ref s4.heap.objs.size)) _ X.xe { s4 with heap := s4.heap.push { cls := .type "slice", data := .fields #[.none, .none, w3] } }
    refine tail_any (ops := [.ref a, .ref s4.heap.objs.size]) ht.isList.typeIs (PySem.slot_list_getitem.lookup) ?_ (by with_unfolding_all rfl)
    refine wpAny_getItem_list_slice ht.isList (Heap.IsSliceOf.new _ .none .none w3) .none .none m3 (by decide) ?_ (by rw [List.size_toArray]; omega)
    rw [PySem.W.krv_pick]
    refine ⟨.ref _, _, J5.laid (t' := s4.toks) (o := .lst xs.reverse) (fun b ob q => Heap.get?_push_of_some _ q) (Nat.le_refl _) ?_, rfl, q _ (J5.hok.fresh (Nat.le_refl _))⟩
    exact ⟨by rw [List.length_reverse]; exact hz, _, 0, r.reverse, Heap.get?_push_size _ rfl⟩
theorem RpAll.rev {K : Frag} {F : Hp} {vs : List V} {xs : List D} (h : RpAll K F vs xs) : RpAll K F vs.reverse xs.reverse := by
  induction xs generalizing vs with
  | nil => cases h; exact .nil
  | cons x xs ih =>
    cases h with
    | cons h1 h2 =>
      rw [List.reverse_cons, List.reverse_cons]
      exact RpAll.app (ih h2) (RpAll.one h1)
def gRev (a : RV) : Ga → Rs (RV × Ga) := fun Γ => match a.get Γ with
  | some (.list xs) => .ok (.ow xs.reverse, Γ)
  | some (.tuple xs) => .ok (.d (.tuple xs.reverse), Γ)
  | _ => .bad
theorem fe_rev {X : Cx} {E : WX} {e : Expr} {f : FnE} {k : Nat} {p1 p2 p3 pos : Pos} (he : FE X E e f) : FE X E (.Subscript e (.Slice none none (some (.UnaryOp .USub (.Constant (.int 1) k p1) p2)) p3) pos) (eUn gRev f) := by
  refine pe_imp (pe_back he) fun σ H Q h => ?_
  refine tE_un (r := fun x H1 Q => (∃ a xs, x = .ref a ∧ SqT X.K H1 a xs ∧ ∀ p, H1 p = none → Q (.ref p) (upd H1 p (.tup xs.reverse))) ∨ ∃ a xs, x = .ref a ∧ SqL X.K H1 a xs ∧ ∀ p, H1 p = none → Q (.ref p) (upd H1 p (.lst xs.reverse))) (fun G pn F Γ σ H x ra Q R r h => ?_) σ H Q h
  unfold gRev at h
  cases q : ra.get Γ with
  | none => rw [q] at h; exact h.elim
  | some d =>
    rw [q] at h
    cases d with
    | list xs =>
      obtain ⟨a, vs, rfl, hl, rp⟩ := rv_list R r q
      exact .inr ⟨a, vs, rfl, hl, fun p hp => post_ow R h rp.rev hp⟩
    | tuple xs =>
      obtain ⟨a, vs, rfl, hl, rp, _⟩ := rv_tup R r q
      exact .inl ⟨a, vs, rfl, hl, fun p hp => post_tup R h rp.rev hp⟩
    | _ => exact h.elim
/-! ### sorted(xs) of data -/
open PySem.W (AllAlike Sortable dataLe EachIs alike)
def headD : D → Bool
  | .tuple (_ :: _) => true
  | _ => false
def plainD : D → Bool
  | .none => false
  | .tuple _ => false
  | _ => true
def sortOk (xs : List D) : Bool := (xs.all fun d => xs.all fun e => PySem.W.alike d e) && (xs.all headD || xs.all plainD) && decide (xs.length ≤ lim) && xs.all fun d => decide (PyData.depth d ≤ 60) && !PyData.hasDict d
def gSort (a : RV) : Ga → Rs (RV × Ga) := fun Γ => match a.get Γ with
  | some (.list xs) => if sortOk xs then .ok (.ow (xs.mergeSort (dataLe false fun d => d)), Γ) else .bad
  | _ => .bad
def rSortD (K : Frag) : List V → Hp → VK → Prop := fun us H Q => ∃ (a : Addr) (ps : List (V × D)), us = [.ref a] ∧ SqL K H a (ps.map (·.1)) ∧ (∀ p ∈ ps, Dp K H p.1 p.2) ∧ AllAlike (ps.map (·.2)) ∧ Sortable (ps.map (·.2)) ∧ ps.length ≤ sizeLine ∧ (∀ p ∈ ps, p.2.depth ≤ 60) ∧
  ∀ q, H q = none → Q (.ref q) (upd H q (.lst ((ps.mergeSort (dataLe false fun p => p.2)).map (·.1))))
section
variable {X : Cx}
theorem each_vals : ∀ {ps : List (V × D)} {us : List Value}, Vals (ps.map (·.1)) us → EachIs (fun v (p : V × D) => RelV p.1 v) us ps
  | [], _, h => by cases h; exact .nil
  | p :: ps, _, h => by
    cases h with
    | cons h1 h2 => exact .cons h1 (each_vals h2)
theorem vals_each : ∀ {ps : List (V × D)} {us : List Value}, EachIs (fun v (p : V × D) => RelV p.1 v) us ps → Vals (ps.map (·.1)) us
  | _, _, .nil => .nil
  | _, _, .cons h1 h2 => .cons h1 (vals_each h2)
theorem each_imp {α β : Type} {R S : α → β → Prop} : ∀ {as : List α} {bs : List β}, (∀ a b, b ∈ bs → R a b → S a b) → EachIs R as bs → EachIs S as bs
  | _, _, _, .nil => .nil
  | _, _, k, .cons h1 h2 => .cons (k _ _ (by simp) h1) (each_imp (fun a b hb => k a b (by simp [hb])) h2)
theorem cr_sortD (hu : X.A.units + 64 < cLine) : CallR X (.builtin "sorted") (rSortD X.K) := by
  intro ps0 s σ H vs us Q J r h
  obtain ⟨a, ps, rfl, hs, hd, ha, hso, hl, hdp, q⟩ := h
  obtain ⟨its, rv, hli, hz⟩ := J.list hs
  rw [Vals.ref1 r]
  have ev := each_vals rv
  refine PySem.W.sorted_data (R := fun v (p : V × D) => RelV p.1 v) (enc := fun p : V × D => p.2) (bs := ps) hli.isList ev (each_imp (fun v p hp hv => Dp.reads J p.2 p.1 v (hd p hp) hv) ev) ha hso hl
    (fun p hp => by have := hdp p hp; show X.A.units + 2 + p.2.depth < cLine; omega) fun out ho eo => ?_
  obtain ⟨ep, he'⟩ := PyProof.Rows.sortedAll_at s.heap its out.toArray
  have vo := vals_each eo
  have hlen : ((ps.mergeSort (dataLe false fun p => p.2)).map (·.1)).length ≤ sizeLine := by
    rw [List.length_map, List.length_mergeSort]; exact hl
  exact ⟨.ref _, upd H (s.heap.objs.size + 1) (.lst ((ps.mergeSort (dataLe false fun p => p.2)).map (·.1))), J.laid (t' := s.toks) (fun _ _ => PyProof.Rows.sortedAll_old) (Nat.le_succ _) ⟨hlen, out, ep, vo, he'⟩, rfl, q _ (J.hok.fresh (Nat.le_succ _))⟩
theorem rp_pairs {K : Frag} {F : Hp} : ∀ {xs : List D} {vs : List V}, RpAll K F vs xs → ∃ ps : List (V × D), ps.map (·.1) = vs ∧ ps.map (·.2) = xs ∧ ∀ p ∈ ps, Rp K F p.1 p.2
  | [], _, h => by cases h; exact ⟨[], rfl, rfl, fun p hp => by cases hp⟩
  | x :: xs, _, h => by
    cases h with
    | cons h1 h2 =>
      obtain ⟨ps, a, b, c⟩ := rp_pairs h2
      exact ⟨(_, x) :: ps, by rw [List.map_cons, a], by rw [List.map_cons, b], fun p hp => by
        rcases List.mem_cons.mp hp with rfl | hp
        · exact h1
        · exact c p hp⟩
theorem pairs_rp {K : Frag} {F : Hp} : ∀ {ps : List (V × D)}, (∀ p ∈ ps, Rp K F p.1 p.2) → RpAll K F (ps.map (·.1)) (ps.map (·.2))
  | [], _ => .nil
  | p :: ps, h => .cons (h p (by simp)) (pairs_rp fun q hq => h q (by simp [hq]))
variable {E : WX} {f : FnE} {p pos : Pos} {e : Expr} {k : Nat}
theorem fe_sorted (c : Cok X E k) (hg : Gl X "sorted") (hm : X.mg "sorted" = none) (he : FE X E e f) (hs : starEach [e] X.env = [(false, eval e X.env)] := by rfl) : FE X E (.Call (.Name "sorted" p) [e] [] pos) (eUn gSort f) :=
  fe_b1 (cr_sortD c.u64) hg hm (by decide +kernel) he (fun G pn F Γ σ H v ra Q R r h => by
    unfold gSort at h
    cases q : ra.get Γ with
    | none => rw [q] at h; exact h.elim
    | some d =>
      rw [q] at h
      cases d with
      | list xs =>
        simp only at h
        split at h
        · rename_i ok
          obtain ⟨a, vs, rfl, hl, rp⟩ := rv_list R r q
          obtain ⟨ps, e1, e2, e3⟩ := rp_pairs rp
          subst e1 e2
          unfold sortOk at ok
          simp only [Bool.and_eq_true, Bool.or_eq_true, List.all_eq_true, decide_eq_true_eq, Bool.not_eq_true'] at ok
          obtain ⟨⟨⟨o1, o2⟩, o3⟩, o4⟩ := ok
          refine ⟨a, ps, rfl, hl, fun p hp => ((e3 p hp).mono R.fh).dp.dp (o4 _ (List.mem_map.mpr ⟨p, hp, rfl⟩)).2, fun d hd d' hd' => o1 d hd d' hd', ?_, by rw [List.length_map] at o3; rw [lim_eq]; exact o3, fun p hp => (o4 _ (List.mem_map.mpr ⟨p, hp, rfl⟩)).1, fun z hz => ?_⟩
          · rcases o2 with o2 | o2
            · refine .inl fun d hd => ?_
              have := o2 d hd
              cases d with
              | tuple xs => cases xs with
                | nil => cases this
                | cons x r => exact ⟨x, r, rfl⟩
              | _ => cases this
            · refine .inr fun d hd => ?_
              have := o2 d hd
              cases d with
              | tuple xs => cases this
              | none => cases this
              | _ => exact ⟨(fun z => by cases z), (fun xs z => by cases z)⟩
          · have em : (ps.map (·.2)).mergeSort (dataLe false fun d => d) = (ps.mergeSort (dataLe false fun p => p.2)).map (·.2) := (PySem.W.sort_maps (r := dataLe false fun p : V × D => p.2) (s := dataLe false fun d : D => d) (fun p : V × D => p.2) (l := ps) fun a _ b _ => rfl).symm
            rw [em] at h
            exact post_ow R h (pairs_rp fun p hp => e3 p (List.mem_mergeSort.mp hp)) hz
        · exact h.elim
      | _ => exact h.elim) (by decide) (by decide) hs
end
/-! ### a op b op' c -/
def eChain (f f' : D → D → Option Bool) (fa fb fc : FnE) : FnE := fun Γ => (eOp fa Γ).bind fun p => (eOp fb p.2).bind fun q => match p.1.get q.2, q.1.get q.2 with
  | some x, some y => (match f x y with
    | some true => (eOp fc q.2).bind fun r => gB f' q.1 r.1 r.2
    | some false => .ok (.d (.bool false), q.2)
    | none => .bad)
  | _, _ => .bad
section
variable {X : Cx} {E : WX} {a b c : Expr} {fa fb fc : FnE} {pos : Pos} {op op' : CmpOp} {f f' : D → D → Option Bool} {r r' : R2}
theorem op_still {Γ Γ' : Ga} {rv : RV} {f : FnE} (h : eOp f Γ = .ok (rv, Γ')) : rv.still = true := eOp_still h
theorem key_chain (c1 : CmpF X op f r) (c2 : CmpF X op' f' r') : ∀ σ H Q, tE X.K X.mg E (eChain f f' fa fb fc) σ H Q → tChain r r' (tE X.K X.mg E fa) (tE X.K X.mg E fb) (tE X.K X.mg E fc) σ H Q := fun σ H Q ⟨G, pn, F, Γ, R, h⟩ => by
  refine tE_op _ _ _ ⟨G, pn, F, Γ, R, ?_⟩
  unfold eChain at h
  cases e : eOp fa Γ with
  | bad => rw [e] at h; exact h
  | exc x => rw [e] at h; exact h
  | ok p =>
    obtain ⟨ra, Γ1⟩ := p
    rw [e] at h
    have sa := eOp_still e
    intro v F1 H1 A1 R1 r1
    refine tE_op _ _ _ ⟨G, pn, F1, Γ1, R1, ?_⟩
    simp only [Rs.bind_ok] at h
    cases e2 : eOp fb Γ1 with
    | bad => rw [e2] at h; exact h
    | exc x => rw [e2] at h; exact PostX.adv h A1
    | ok p2 =>
      obtain ⟨rb, Γ2⟩ := p2
      rw [e2] at h
      have sb := eOp_still e2
      intro u F2 H2 A2 R2 r2
      simp only [Rs.bind_ok] at h
      cases q1 : ra.get Γ2 with
      | none => simp only [q1] at h; exact h.elim
      | some x =>
        cases q2 : rb.get Γ2 with
        | none => simp only [q1, q2] at h; exact h.elim
        | some y =>
          simp only [q1, q2] at h
          cases q3 : f x y with
          | none => rw [q3] at h; exact h.elim
          | some z =>
            rw [q3] at h
            refine c1.2 X.K rfl H2 v u x y z _ (rv_get R2 (r1.keep sa A2.same) q1) (rv_get R2 r2 q2) q3 ⟨z, rfl, ?_⟩
            cases z with
            | false =>
              rw [if_neg (by decide)]
              exact post_d R2 (PostE.adv h (A1.trans A2)) (.bl false)
            | true =>
              rw [if_pos rfl]
              refine tE_op _ _ _ ⟨G, pn, F2, Γ2, R2, ?_⟩
              simp only at h
              cases e3 : eOp fc Γ2 with
              | bad => rw [e3] at h; exact h
              | exc x => rw [e3] at h; exact PostX.adv h (A1.trans A2)
              | ok p3 =>
                obtain ⟨rc, Γ3⟩ := p3
                rw [e3] at h
                intro w F3 H3 A3 R3 r3
                simp only [Rs.bind_ok] at h
                obtain ⟨d, d', z', s1, s2, s3, h'⟩ := post_gB R3 (PostE.adv h ((A1.trans A2).trans A3))
                exact c2.2 X.K rfl H3 u w d d' z' Q (rv_get R3 (r2.keep sb A3.same) s1) (rv_get R3 r3 s2) s3 h'
theorem fe_chain (c1 : CmpF X op f r) (c2 : CmpF X op' f' r') (ha : FE X E a fa) (hb : FE X E b fb) (hc : FE X E c fc) (hm : lastMarks [op, op'] [b, c] = false := by with_unfolding_all rfl) : FE X E (.Compare a [op, op'] [b, c] pos) (eChain f f' fa fb fc) :=
  pe_imp (pe_chain c1.1 c2.1 ha hb hc hm) (key_chain c1 c2)
theorem ft_chain (c1 : CmpF X op f r) (c2 : CmpF X op' f' r') (ha : FE X E a fa) (hb : FE X E b fb) (hc : FE X E c fc) (hm : lastMarks [op, op'] [b, c] = false := by with_unfolding_all rfl) : FT X E (.Compare a [op, op'] [b, c] pos) (tst (eChain f f' fa fb fc)) :=
  pt_imp (pt_chain c1.1 c2.1 ha hb hc hm) fun σ H Q h => tTest_mono (key_chain c1 c2) σ H Q (tT_tst σ H Q h)
end
/-! ### a, b = a list -/
def gLs (gs : FnGs) : FnG := fun rv Γ => match rv with
  | .ow ds => gs ds Γ
  | .d (.list ds) => gs ds Γ
  | _ => none
theorem fg_lst {X : Cx} {es : List Expr} {gs : FnGs} {pos : Pos} {k n : Nat} (hc : X.calm = true) (h : FGs X es gs) (hl : ∀ ds Γ Γ', gs ds Γ = some Γ' → ds.length = n) (hn : (assignEach es X.env).length = n := by rfl) (hst : (assignEach es X.env).findIdx? (·.1) = none := by rfl) : FG X (.Tuple es k pos) (gLs gs) :=
  pg_imp (pg_lst (n := n) hc h hn hst) fun v σ H Q ⟨G, pn, F, Γ, rv, R, r, q⟩ => by
    have fin : ∀ {ds : List D} {F1 : Hp}, (∃ a vs, v = .ref a ∧ SqL X.K H a vs ∧ RpAll X.K F1 vs ds) → Adv G F F1 → Rep X.K G pn Γ σ F1 H → (match gs ds Γ with
      | some Γ' => ∀ σ' F' H', Adv G F F' → Rep X.K G pn Γ' σ' F' H' → σ'.length = σ.length → Q σ' H'
      | none => False) → gLst X.K n (tGs X.K gs) v σ H Q := fun {ds F1} ⟨a, vs, e, hq, rp⟩ A1 R1 q => by
      cases q2 : gs ds Γ with
      | none => rw [q2] at q; exact q.elim
      | some Γ' =>
        rw [q2] at q
        refine ⟨a, vs, e, hq, by rw [rp.len]; exact hl _ _ _ q2, G, pn, F1, Γ, ds, R1, rp, ?_⟩
        rw [q2]
        exact fun σ' F' H' A R' l => q σ' F' H' (A1.trans A) R' l
    unfold gLs at q
    cases rv with
    | ow ds =>
      obtain ⟨F1, A1, R1, r1⟩ := RvR.fz R r
      exact fin (rv_list R1 r1 rfl) A1 R1 q
    | d x =>
      cases x with
      | list ds => exact fin (rv_list R r rfl) (Adv.refl G F) R q
      | _ => exact q.elim
    | sl i => exact q.elim
/-! ### a tuple of the module -/
def TupK (K : Frag) (a : Addr) (vs : List V) : Prop := ∃ (o : Obj) (its : Array Value) (n : Nat), K.lookup a = some o ∧ o.cls = .type "tuple" ∧ o.data = .seq its n ∧ its.size ≤ sizeLine ∧ Vals vs its.toList
theorem tupK_mk {K : Frag} {a : Addr} {od : Option Addr} {its : Array Value} {n : Nat} {sl : Array (Option Value)} {vs : List V} (h : K.lookup a = some ⟨.type "tuple", od, .seq its n, sl⟩) (hs : its.size ≤ sizeLine) (hv : Vals vs its.toList) : TupK K a vs := ⟨_, its, n, h, rfl, rfl, hs, hv⟩
theorem fe_ctup {X : Cx} {E : WX} {x : Str} {pos : Pos} {vs : List V} {ds : List D} (hg : Gl X x) (h : ∃ a, X.mg x = some (.ref a) ∧ TupK X.K a vs) (rp : ∀ F, RpAll X.K F vs ds) (hd : (x == ("__debug__" : Str)) = false := by decide) : FE X E (.Name x pos) (eC (.tuple ds)) := by
  obtain ⟨a, hm, ht⟩ := h
  exact fe_glob hg hm (v := .ref a) rfl (fun F => .tup (.inr ht) (rp F)) hd
end FL

/-! FU: readings evaluated step by step. -/
namespace FL
open PySem PySem.Spec L2

def opK : RV × Ga → Rs (RV × Ga) | (r, Γ) => .ok (r.fz, Γ)
def getK : Option (Option Sl) → Option D
  | some (some s) => s.rd
  | _ => none
def varK (i : Nat) (Γ : Ga) : Option (Option Sl) → Rs (RV × Ga)
  | some (some (.fz d)) => .ok (.d d, Γ)
  | some (some _) => .ok (.sl i, Γ)
  | _ => .bad
def resK (Γ : Ga) : Option D → Rs (RV × Ga)
  | some z => .ok (.d z, Γ)
  | none => .bad
def g2K (op : D → D → Option D) (Γ : Ga) : Option D → Option D → Rs (RV × Ga)
  | some x, some y => resK Γ (op x y)
  | _, _ => .bad
def g1K (op : D → Option D) (Γ : Ga) : Option D → Rs (RV × Ga)
  | some x => resK Γ (op x)
  | _ => .bad
def binK2 (g : RV → RV → Ga → Rs (RV × Ga)) (r : RV) : RV × Ga → Rs (RV × Ga) | (q, Γ) => g r q Γ
def binK (g : RV → RV → Ga → Rs (RV × Ga)) (fb : FnE) : RV × Ga → Rs (RV × Ga) | (r, Γ) => (eOp fb Γ).bind (binK2 g r)
def unK (g : RV → Ga → Rs (RV × Ga)) : RV × Ga → Rs (RV × Ga) | (r, Γ) => g r Γ
def tstK : RV × Ga → Rs (Bool × Ga)
  | (.d (.bool b), Γ) => .ok (b, Γ)
  | _ => .bad
def notK : Bool × Ga → Rs (Bool × Ga) | (b, Γ) => .ok (!b, Γ)
def andK (g : FnT) : Bool × Ga → Rs (Bool × Ga)
  | (true, Γ) => g Γ
  | (false, Γ) => .ok (false, Γ)
def orK (g : FnT) : Bool × Ga → Rs (Bool × Ga)
  | (true, Γ) => .ok (true, Γ)
  | (false, Γ) => g Γ
def eNotK : Bool × Ga → Rs (RV × Ga) | (b, Γ) => .ok (.d (.bool (!b)), Γ)
def eAndK (g : FnE) : Bool × Ga → Rs (RV × Ga)
  | (true, Γ) => g Γ
  | (false, Γ) => .ok (.d (.bool false), Γ)
def eOrK (g : FnE) : Bool × Ga → Rs (RV × Ga)
  | (true, Γ) => .ok (.d (.bool true), Γ)
  | (false, Γ) => g Γ
def eIfK (f g : FnE) : Bool × Ga → Rs (RV × Ga)
  | (true, Γ) => f Γ
  | (false, Γ) => g Γ
def consK2 (r : RV) : List RV × Ga → Rs (List RV × Ga) | (rs, Γ) => .ok (r :: rs, Γ)
def consK (g : FnA) : RV × Ga → Rs (List RV × Ga) | (r, Γ) => (g Γ).bind (consK2 r)
def tupK2 : Option (List D × Ga) → Rs (RV × Ga)
  | some (xs, Γ) => if xs.length ≤ lim then .ok (.d (.tuple xs), Γ) else .bad
  | none => .bad
def tupK : List RV × Ga → Rs (RV × Ga) | (rs, Γ) => tupK2 (rvsFz rs Γ)
def lstK2 : Option (List D × Ga) → Rs (RV × Ga)
  | some (xs, Γ) => if xs.length ≤ lim then .ok (.ow xs, Γ) else .bad
  | none => .bad
def lstK : List RV × Ga → Rs (RV × Ga) | (rs, Γ) => lstK2 (rvsFz rs Γ)
def fzK (i : Nat) (Γ : Ga) : Option (Option Sl) → Option (D × Ga)
  | some (some (.ow xs)) => some (.list xs, Γ.set i (some (.fz (.list xs))))
  | some (some (.fz d)) => some (d, Γ)
  | _ => none
def fzsK2 (x : D) : Option (List D × Ga) → Option (List D × Ga)
  | some (xs, Γ) => some (x :: xs, Γ)
  | none => none
def fzsK (rs : List RV) : Option (D × Ga) → Option (List D × Ga)
  | some (x, Γ) => fzsK2 x (rvsFz rs Γ)
  | none => none
def SR.then (g : FnS) : SR → SR
  | .nx Γ => g Γ
  | r => r
def asgK2 : Option Ga → SR
  | some Γ => .nx Γ
  | none => .bad
def asgK (g : FnG) : RV × Ga → SR | (r, Γ) => asgK2 (g r Γ)
def exK : RV × Ga → SR | (_, Γ) => .nx Γ
def retK2 : Option (D × Ga) → SR
  | some (d, Γ) => .ret d Γ
  | none => .bad
def retK : RV × Ga → SR | (r, Γ) => retK2 (rvFz Γ r)
def sIfK (f g : FnS) : Bool × Ga → SR
  | (true, Γ) => f Γ
  | (false, Γ) => g Γ
def putK (i : Nat) (s : Sl) (Γ : Ga) : Bool → Option Ga
  | true => some (Γ.set i (some s))
  | false => none
def gNK (i : Nat) : Option (D × Ga) → Option Ga
  | some (d, Γ) => putK i (.fz d) Γ (freeAt Γ i)
  | none => none
def freeK : Option (Option Sl) → Bool
  | some (some s) => !s.pinned
  | some none => true
  | none => false
def parK3 (i j : Nat) (x y : D) (Γ : Ga) : Bool → SR
  | true => .nx ((Γ.set i (some (.fz x))).set j (some (.fz y)))
  | false => .bad
def parK2 (i j : Nat) : Option (List D × Ga) → SR
  | some ([x, y], Γ1) => parK3 i j x y Γ1 (freeAt Γ1 i && freeAt Γ1 j)
  | _ => .bad
def parK (i j : Nat) : List RV × Ga → SR | (rs, Γ) => parK2 i j (rvsFz rs Γ)
def gcK (gs : FnGs) (r : List D) : Option Ga → Option Ga
  | some Γ => gs r Γ
  | none => none
def writeK (i : Nat) (Γ : Ga) (f : List D → Option (List D)) : Option (Option Sl) → Option Ga
  | some (some (.ow xs)) => (f xs).map fun ys => Γ.set i (some (.ow ys))
  | some (some (.io xs)) => (f xs).map fun ys => Γ.set i (some (.io ys))
  | _ => none
def setK3 (i : Nat) (k : Int) : Option (D × Ga) → SR
  | some (x, Γ2) => asgK2 (slWrite Γ2 i fun xs => (ixN xs.length k).map fun j => xs.set j x)
  | none => .bad
def setK2 (i : Nat) (r : RV) : RV × Ga → SR
  | (.d (.int k), Γ) => setK3 i k (rvFz Γ r)
  | _ => .bad
def setK1 (i : Nat) (fk : FnE) (r : RV) (Γ : Ga) : Bool → SR
  | true => (fk Γ).toS (setK2 i r)
  | false => .bad
def setK (i : Nat) (fk : FnE) : RV × Ga → SR | (r, Γ) => setK1 i fk r Γ (hasAt Γ i)
def hasK : Option (Option Sl) → Bool
  | some (some _) => true
  | _ => false
def ownK : Option (Option Sl) → Bool
  | some (some (.ow _)) => true
  | some (some (.io _)) => true
  | _ => false
def metK2 (out : Ga → RV → Rs (RV × Ga)) : RV × Ga → Rs (RV × Ga) | (r, Γ) => out Γ r
def metK (fe : FnE) (out : Ga → RV → Rs (RV × Ga)) (Γ : Ga) : Bool → Rs (RV × Ga)
  | true => (eOp fe Γ).bind (metK2 out)
  | false => .bad
def nonK : Option Ga → Rs (RV × Ga)
  | some Γ => .ok (.d .none, Γ)
  | none => .bad
def appK (i : Nat) : Option (D × Ga) → Rs (RV × Ga)
  | some (x, Γ1) => nonK (slWrite Γ1 i fun xs => if xs.length < lim then some (xs ++ [x]) else none)
  | none => .bad
section
variable {Γ : Ga} {fa fb f : FnE} {ga : FnA} {ft gt : FnT} {fs gs : FnS} {i j : Nat} {r a b : RV} {rs : List RV}
@[simp] theorem eC_ap {x : D} : eC x Γ = .ok (.d x, Γ) := rfl
@[simp] theorem eVar_ap : eVar i Γ = varK i Γ Γ[i]? := by
  unfold eVar
  rcases Γ[i]? with _ | _ | s
  · rfl
  · rfl
  · cases s <;> rfl
@[simp] theorem eOp_ap : eOp f Γ = (f Γ).bind opK := by
  unfold eOp
  cases f Γ with
  | ok p => obtain ⟨r, Γ'⟩ := p; rfl
  | _ => rfl
@[simp] theorem eBin_ap {g : RV → RV → Ga → Rs (RV × Ga)} : eBin g fa fb Γ = (eOp fa Γ).bind (binK g fb) := by
  unfold eBin
  cases eOp fa Γ with
  | ok p => obtain ⟨r, Γ'⟩ := p; rfl
  | _ => rfl
@[simp] theorem eUn_ap {g : RV → Ga → Rs (RV × Ga)} : eUn g fa Γ = (eOp fa Γ).bind (unK g) := rfl
@[simp] theorem get_sl : RV.get Γ (.sl i) = getK Γ[i]? := by
  show (match Γ[i]? with | some (some s) => s.rd | _ => none) = _
  rcases Γ[i]? with _ | _ | s <;> rfl
@[simp] theorem g2_ap {op : D → D → Option D} : g2 op a b Γ = g2K op Γ (a.get Γ) (b.get Γ) := by
  unfold g2
  rcases a.get Γ with _ | x <;> rcases b.get Γ with _ | y
  · rfl
  · rfl
  · rfl
  · dsimp only [g2K]
    cases op x y <;> rfl
@[simp] theorem g1_ap {op : D → Option D} : g1 op a Γ = g1K op Γ (a.get Γ) := by
  unfold g1
  rcases a.get Γ with _ | x
  · rfl
  dsimp only [g1K]
  cases op x <;> rfl
@[simp] theorem gB_ap {op : D → D → Option Bool} : gB op a b Γ = g2K (fun x y => (op x y).map .bool) Γ (a.get Γ) (b.get Γ) := g2_ap
@[simp] theorem tst_ap : tst f Γ = (f Γ).bind tstK := by
  unfold tst
  rcases f Γ with ⟨r, Γ'⟩ | _ | _
  · cases r with
    | d x => cases x <;> rfl
    | _ => rfl
  · rfl
  · rfl
@[simp] theorem fNot_ap : fNot ft Γ = (ft Γ).bind notK := rfl
@[simp] theorem fAnd_ap : fAnd ft gt Γ = (ft Γ).bind (andK gt) := by
  unfold fAnd
  rcases ft Γ with ⟨_ | _, Γ'⟩ | _ | _ <;> rfl
@[simp] theorem fOr_ap : fOr ft gt Γ = (ft Γ).bind (orK gt) := by
  unfold fOr
  rcases ft Γ with ⟨_ | _, Γ'⟩ | _ | _ <;> rfl
@[simp] theorem eNot_ap : eNot f Γ = (tst f Γ).bind eNotK := rfl
@[simp] theorem eAnd_ap : eAnd f fb Γ = (tst f Γ).bind (eAndK fb) := by
  unfold eAnd
  rcases tst f Γ with ⟨_ | _, Γ'⟩ | _ | _ <;> rfl
@[simp] theorem eOr_ap : eOr f fb Γ = (tst f Γ).bind (eOrK fb) := by
  unfold eOr
  rcases tst f Γ with ⟨_ | _, Γ'⟩ | _ | _ <;> rfl
@[simp] theorem eIf_ap : eIf ft fa fb Γ = (ft Γ).bind (eIfK fa fb) := by
  unfold eIf
  rcases ft Γ with ⟨_ | _, Γ'⟩ | _ | _ <;> rfl
@[simp] theorem aNil_ap : aNil Γ = .ok ([], Γ) := rfl
@[simp] theorem aCons_ap : aCons f ga Γ = (eOp f Γ).bind (consK ga) := rfl
@[simp] theorem eTup_ap : eTup ga Γ = (ga Γ).bind tupK := by
  unfold eTup
  rcases ga Γ with ⟨rs, Γ'⟩ | _ | _ <;> try rfl
@[simp] theorem eLst_ap : eLst ga Γ = (ga Γ).bind lstK := by
  unfold eLst
  rcases ga Γ with ⟨rs, Γ'⟩ | _ | _ <;> try rfl
@[simp] theorem fz_d {x : D} : rvFz Γ (.d x) = some (x, Γ) := rfl
@[simp] theorem fz_ow {xs : List D} : rvFz Γ (.ow xs) = some (.list xs, Γ) := rfl
@[simp] theorem fz_sl : rvFz Γ (.sl i) = fzK i Γ Γ[i]? := by
  show (match Γ[i]? with
    | some (some (.ow xs)) => some (PyData.list xs, Γ.set i (some (.fz (.list xs))))
    | some (some (.fz d)) => some (d, Γ)
    | _ => none) = _
  rcases Γ[i]? with _ | _ | s
  · rfl
  · rfl
  · cases s <;> rfl
@[simp] theorem fzs_nil : rvsFz [] Γ = some ([], Γ) := rfl
@[simp] theorem fzs_cons : rvsFz (r :: rs) Γ = fzsK rs (rvFz Γ r) := by
  show (match rvFz Γ r with | some (x, Γ1) => (match rvsFz rs Γ1 with | some (xs, Γ2) => some (x :: xs, Γ2) | none => none) | none => none) = _
  rcases rvFz Γ r with _ | ⟨x, Γ1⟩
  · rfl
  · dsimp only [fzsK]
    rcases rvsFz rs Γ1 with _ | ⟨xs, Γ2⟩ <;> rfl
@[simp] theorem sSeq_ap : sSeq fs gs Γ = SR.then gs (fs Γ) := by
  unfold sSeq
  cases fs Γ <;> rfl
@[simp] theorem sAsg_ap {g : FnG} : sAsg f g Γ = (f Γ).toS (asgK g) := by
  unfold sAsg
  rcases f Γ with ⟨r, Γ'⟩ | _ | _ <;> try rfl
@[simp] theorem sExpr_ap : sExpr f Γ = (f Γ).toS exK := rfl
@[simp] theorem sNil_ap : sNil Γ = .nx Γ := rfl
@[simp] theorem sBreak_ap : sBreak Γ = .bk Γ := rfl
@[simp] theorem sCont_ap : sCont Γ = .ct Γ := rfl
@[simp] theorem sRetN_ap : sRetN Γ = .ret .none Γ := rfl
@[simp] theorem sRaise_ap {x : Str} : sRaise x Γ = .exc ⟨x, none⟩ := rfl
@[simp] theorem sRet_ap : sRet f Γ = (f Γ).toS retK := by
  unfold sRet
  rcases f Γ with ⟨r, Γ'⟩ | _ | _ <;> try rfl
@[simp] theorem sIf_ap : sIf ft fs gs Γ = (ft Γ).toS (sIfK fs gs) := by
  unfold sIf
  rcases ft Γ with ⟨_ | _, Γ'⟩ | _ | _ <;> rfl
@[simp] theorem freeAt_ap : freeAt Γ i = freeK Γ[i]? := by
  unfold freeAt
  rcases Γ[i]? with _ | _ | s <;> rfl
@[simp] theorem hasAt_ap : hasAt Γ i = hasK Γ[i]? := by
  unfold hasAt
  rcases Γ[i]? with _ | _ | s <;> rfl
@[simp] theorem ownAt_ap : ownAt Γ i = ownK Γ[i]? := by
  unfold ownAt
  rcases Γ[i]? with _ | _ | s
  · rfl
  · rfl
  · cases s <;> rfl
@[simp] theorem gN_d {x : D} : gN i (.d x) Γ = putK i (.fz x) Γ (freeAt Γ i) := by
  show (if freeAt Γ i then some (Γ.set i (some (.fz x))) else none) = _
  cases freeAt Γ i <;> rfl
@[simp] theorem gN_ow {xs : List D} : gN i (.ow xs) Γ = putK i (.ow xs) Γ (freeAt Γ i) := by
  show (if freeAt Γ i then some (Γ.set i (some (.ow xs))) else none) = _
  cases freeAt Γ i <;> rfl
@[simp] theorem gN_sl : gN i (.sl j) Γ = gNK i (rvFz Γ (.sl j)) := by
  show (match rvFz Γ (.sl j) with | some (d, Γ') => if freeAt Γ' i then some (Γ'.set i (some (.fz d))) else none | none => none) = _
  rcases rvFz Γ (.sl j) with _ | ⟨x, Γ1⟩
  · rfl
  · show _ = putK i (.fz x) Γ1 (freeAt Γ1 i)
    simp only
    cases freeAt Γ1 i <;> rfl
@[simp] theorem gsNil_ap : gsNil [] Γ = some Γ := rfl
@[simp] theorem gsCons_ap {g : FnG} {gs : FnGs} {d : D} {r : List D} : gsCons g gs (d :: r) Γ = gcK gs r (g (.d d) Γ) := by
  show (g (.d d) Γ).bind (fun Γ' => gs r Γ') = _
  cases g (.d d) Γ <;> rfl
@[simp] theorem gT_ap {gs : FnGs} {ds : List D} : gT gs (.d (.tuple ds)) Γ = gs ds Γ := rfl
@[simp] theorem sPar_ap : sPar i j ga Γ = (ga Γ).toS (parK i j) := by
  unfold sPar
  rcases ga Γ with ⟨rs, Γ'⟩ | _ | _ <;> try rfl
  show _ = parK2 i j (rvsFz rs Γ')
  show (match rvsFz rs Γ' with | some ([x, y], Γ1) => _ | _ => _) = _
  rcases rvsFz rs Γ' with _ | ⟨_ | ⟨x, _ | ⟨y, _ | _⟩⟩, Γ2⟩ <;> try rfl
  show (if (freeAt Γ2 i && freeAt Γ2 j) = true then _ else _) = parK3 i j x y Γ2 (freeAt Γ2 i && freeAt Γ2 j)
  cases (freeAt Γ2 i && freeAt Γ2 j) <;> rfl
@[simp] theorem slWrite_ap {h : List D → Option (List D)} : slWrite Γ i h = writeK i Γ h Γ[i]? := by
  unfold slWrite
  rcases Γ[i]? with _ | _ | s
  · rfl
  · rfl
  · cases s <;> rfl
@[simp] theorem sSetIx_ap {fk : FnE} : sSetIx i fk f Γ = (eOp f Γ).toS (setK i fk) := by
  unfold sSetIx
  rcases eOp f Γ with ⟨r, Γ'⟩ | _ | _ <;> try rfl
  show (if hasAt Γ' i = true then _ else _) = setK1 i fk r Γ' (hasAt Γ' i)
  cases hasAt Γ' i <;> try rfl
  show Rs.toS (fk Γ') _ = Rs.toS (fk Γ') (setK2 i r)
  rcases fk Γ' with ⟨q, Γ2⟩ | _ | _ <;> try rfl
  show (match rvFz Γ2 r, q with | some (x, Γ2), .d (.int k) => _ | _, _ => _) = _
  cases q with
  | d x =>
    cases x with
    | int k =>
      show _ = setK3 i k (rvFz Γ2 r)
      rcases rvFz Γ2 r with _ | ⟨x, Γ3⟩ <;> try rfl
    | _ => cases rvFz Γ2 r <;> rfl
  | _ => cases rvFz Γ2 r <;> rfl
@[simp] theorem eMet_ap {out : Ga → RV → Rs (RV × Ga)} : eMet i f out Γ = metK f out Γ (ownAt Γ i) := by
  unfold eMet
  cases ownAt Γ i <;> rfl
@[simp] theorem outApp_ap : outApp i Γ r = appK i (rvFz Γ r) := by
  unfold outApp
  rcases rvFz Γ r with _ | ⟨x, Γ3⟩ <;> try rfl
end
end FL

/-! FU: readings evaluated step by step. -/
namespace FL
open PySem PySem.Spec L2

/-! calls -/
def FR.val : FR → Rs D
  | .ok d _ => .ok d
  | .exc e => .exc e
  | .bad => .bad
def FR.io (j : Nat) : FR → Rs (D × List D)
  | .ok d outs => match outs[j]? with
    | some (some (.io xs)) => .ok (d, xs)
    | _ => .bad
  | .exc e => .exc e
  | .bad => .bad
def srVal : SR → Rs D
  | .nx _ => .ok .none
  | .ret d _ => .ok d
  | .exc e => .exc e
  | _ => .bad
def outAt (j : Nat) (d : D) (Γ : Ga) : Rs (D × List D) := match Γ[j]? with
  | some (some (.io xs)) => .ok (d, xs)
  | _ => .bad
def srIo (j : Nat) : SR → Rs (D × List D)
  | .nx Γ => outAt j .none Γ
  | .ret d Γ => outAt j d Γ
  | .exc e => .exc e
  | _ => .bad
@[simp] theorem run_val {n : Nat} {f : FnS} {args : List Sl} : (runBody n f args).val = srVal (f (args.map some ++ List.replicate (n - args.length) none)) := by
  unfold runBody
  cases f (args.map some ++ List.replicate (n - args.length) none) <;> rfl
@[simp] theorem run_io {n j : Nat} {f : FnS} {args : List Sl} : (runBody n f args).io j = srIo j (f (args.map some ++ List.replicate (n - args.length) none)) := by
  unfold runBody
  cases f (args.map some ++ List.replicate (n - args.length) none) <;> rfl
def plainAll (rvs : List RV) (io : Option Nat) (Γ : Ga) : Bool := (List.range rvs.length).all fun j => decide (io = some j) || ((rvs[j]?).map (plainRv Γ)).getD true
def backV (as : List Sl) (rvs : List RV) (io : Option Nat) (Γ0 Γ : Ga) (d : D) : Rs (RV × Ga) := if noL d then .ok (.d d, Γ) else match d with
  | .list ds => if as.all Sl.flat && noLs ds then .ok (.ow ds, Γ) else if plainAll rvs io Γ0 then .ok (.d (.list ds), Γ) else .bad
  | d => if plainAll rvs io Γ0 then .ok (.d d, Γ) else .bad
theorem back_eq {as : List Sl} {rvs : List RV} {io : Option Nat} {Γ0 Γ : Ga} {d : D} : (if noL d then Rs.ok (RV.d d, Γ) else match d with
        | .list ds => if as.all Sl.flat && noLs ds then .ok (.ow ds, Γ) else if ((List.range rvs.length).all fun j => decide (io = some j) || ((rvs[j]?).map (plainRv Γ0)).getD true) then .ok (.d (.list ds), Γ) else .bad
        | d => if ((List.range rvs.length).all fun j => decide (io = some j) || ((rvs[j]?).map (plainRv Γ0)).getD true) then .ok (.d d, Γ) else .bad) = backV as rvs io Γ0 Γ d := by
  unfold backV plainAll
  by_cases h : noL d = true
  · rw [if_pos h]
  · rw [if_neg h]
def callV (rvs : List RV) (Γ : Ga) (as : List Sl) : Rs D → Rs (RV × Ga)
  | .ok d => backV as rvs none Γ Γ d
  | .exc e => .exc e
  | .bad => .bad
def callK2 (run : FnR) (rvs : List RV) (Γ : Ga) : Option (List Sl) → Rs (RV × Ga)
  | some as => callV rvs Γ as (run as).val
  | none => .bad
def callK (run : FnR) (np : Nat) : List RV × Ga → Rs (RV × Ga)
  | (rvs, Γ) => if rvs.length = np then callK2 run rvs Γ (mkArgs Γ rvs none) else .bad
@[simp] theorem eCall_ap {run : FnR} {np : Nat} {fa : FnA} {Γ : Ga} : eCall run np none fa Γ = (fa Γ).bind (callK run np) := by
  unfold eCall
  rcases fa Γ with ⟨rvs, Γ1⟩ | _ | _ <;> try rfl
  show (if rvs.length = np ∧ ioFine rvs none = true then _ else _) = (if rvs.length = np then callK2 run rvs Γ1 (mkArgs Γ1 rvs none) else .bad)
  by_cases h : rvs.length = np
  · rw [if_pos ⟨h, rfl⟩, if_pos h]
    cases mkArgs Γ1 rvs none with
    | none => rfl
    | some as =>
      show (match run as with | .bad => _ | .exc e => _ | .ok d outs => _) = callV rvs Γ1 as (run as).val
      cases run as with
      | ok d outs =>
        show _ = backV as rvs none Γ1 Γ1 d
        exact back_eq
      | _ => rfl
  · rw [if_neg h, if_neg fun z => h z.1]
def ioK3 (as : List Sl) (rvs : List RV) (j : Nat) (Γ : Ga) (d : D) : Option Ga → Rs (RV × Ga)
  | some Γ2 => backV as rvs (some j) Γ Γ2 d
  | none => .bad
def ioK4 (i : Nat) (Γ : Ga) (ys : List D) : Option Ga := if noLs ys then slPut Γ i ys else none
def callIo (rvs : List RV) (Γ : Ga) (as : List Sl) (j i : Nat) : Rs (D × List D) → Rs (RV × Ga)
  | .ok (d, ys) => ioK3 as rvs j Γ d (ioK4 i Γ ys)
  | .exc e => .exc e
  | .bad => .bad
def callIoK2 (run : FnR) (rvs : List RV) (Γ : Ga) (j i : Nat) : Option (List Sl) → Rs (RV × Ga)
  | some as => callIo rvs Γ as j i ((run as).io j)
  | none => .bad
def callIoK1 (run : FnR) (rvs : List RV) (Γ : Ga) (j : Nat) : Option RV → Rs (RV × Ga)
  | some (.sl i) => if (rvs.eraseIdx j).all (fun r => !isSl i r) then callIoK2 run rvs Γ j i (mkArgs Γ rvs (some j)) else .bad
  | _ => .bad
def callIoK (run : FnR) (np j : Nat) : List RV × Ga → Rs (RV × Ga)
  | (rvs, Γ) => if rvs.length = np then callIoK1 run rvs Γ j rvs[j]? else .bad
theorem callIo_eq {run : FnR} {rvs : List RV} {Γ : Ga} {j i : Nat} {as : List Sl} (q : rvs[j]? = some (.sl i)) (h2 : (rvs.eraseIdx j).all (fun r => !isSl i r) = true) : (match run as with
    | .bad => Rs.bad
    | .exc e => .exc e
    | .ok d outs => match ioBack rvs (some j) outs Γ with
      | none => .bad
      | some Γ2 => if noL d then .ok (.d d, Γ2) else match d with
        | .list ds => if as.all Sl.flat && noLs ds then .ok (.ow ds, Γ2) else if ((List.range rvs.length).all fun m => decide (some j = some m) || ((rvs[m]?).map (plainRv Γ)).getD true) then .ok (.d (.list ds), Γ2) else .bad
        | d => if ((List.range rvs.length).all fun m => decide (some j = some m) || ((rvs[m]?).map (plainRv Γ)).getD true) then .ok (.d d, Γ2) else .bad) = callIo rvs Γ as j i ((run as).io j) := by
  cases run as with
  | bad => rfl
  | exc e => rfl
  | ok d outs =>
    have e : ioBack rvs (some j) outs Γ = match outs[j]? with
      | some (some (.io ys)) => ioK4 i Γ ys
      | _ => none := by
      unfold ioBack ioK4
      simp only [q]
      rw [if_pos h2] <;> rcases outs[j]? with _ | _ | s <;> first | rfl | (cases s <;> rfl)
    dsimp only
    rw [e]
    unfold FR.io
    dsimp only
    rcases outs[j]? with _ | _ | s
    · rfl
    · rfl
    · cases s with
      | io ys =>
        dsimp only [callIo]
        cases ioK4 i Γ ys with
        | none => rfl
        | some Γ2 => exact back_eq
      | fz x => rfl
      | ow x => rfl
      | ex a c => rfl
      | lk x => rfl
      | scr x => rfl
@[simp] theorem eCallIo_ap {run : FnR} {np j : Nat} {fa : FnA} {Γ : Ga} : eCall run np (some j) fa Γ = (fa Γ).bind (callIoK run np j) := by
  unfold eCall
  rcases fa Γ with ⟨rvs, Γ1⟩ | _ | _
  · simp only [Rs.bind_ok]
    show _ = (if rvs.length = np then callIoK1 run rvs Γ1 j rvs[j]? else .bad)
    by_cases h : rvs.length = np
    · rw [if_pos h]
      cases q : rvs[j]? with
      | none => rw [if_neg (by rintro ⟨_, z⟩; unfold ioFine at z; simp [q] at z)]; rfl
      | some r =>
        cases r with
        | d x => rw [if_neg (by rintro ⟨_, z⟩; unfold ioFine at z; simp [q] at z)]; rfl
        | ow x => rw [if_neg (by rintro ⟨_, z⟩; unfold ioFine at z; simp [q] at z)]; rfl
        | sl i =>
          show _ = (if (rvs.eraseIdx j).all (fun r => !isSl i r) = true then callIoK2 run rvs Γ1 j i (mkArgs Γ1 rvs (some j)) else .bad)
          have e : ioFine rvs (some j) = (rvs.eraseIdx j).all fun r => !isSl i r := by unfold ioFine; simp only [q]
          rw [e]
          by_cases h2 : (rvs.eraseIdx j).all (fun r => !isSl i r) = true
          · rw [if_pos ⟨h, h2⟩, if_pos h2]
            cases mkArgs Γ1 rvs (some j) with
            | none => rfl
            | some as => exact callIo_eq q h2
          · rw [if_neg h2, if_neg fun z => h2 z.2]
    · rw [if_neg h, if_neg fun z => h z.1]
  · rfl
  · rfl
end FL

/-! FG: the name of an except clause that a list made in the clause captures: it stands in a cell. -/
namespace FL
open PySem PySem.Spec L2
section
variable {X : Cx} {pins : List (Addr × Obj)} {σ : St} {H : Hp} {s : Shared} {i : Nat} {n : Str}
/-- the cell of a name, emptied -/
theorem inv_emptied {cc : Addr} {hp : Heap} {tk : Nat} (I : Inv X pins σ H s) (nd : X.N.Nodup) (at_i : X.N[i]? = some n) (own : X.fn n = true) (lk : X.env.cells.lookup n = some cc) (empty : hp.IsCell cc none) (sb : Heap.SameBut cc s.heap hp) :
    Inv X pins (σ.set i none) H { s with heap := hp, toks := tk } := by
  obtain ⟨w0, z0⟩ := I.cell n cc lk
  obtain ⟨obj, isAt, dat⟩ := id z0
  have young : ∀ {b : Addr} {o : Obj}, X.s_0.heap.get? b = some o → b ≠ cc := fun e => Nat.ne_of_lt (Nat.lt_of_lt_of_le (Heap.lt_size e) (I.ok.cab n cc own lk))
  have noH := I.freeC n cc lk
  obtain ⟨m, ns, look⟩ := I.loc
  have un : Un X.fs X.ex X.H_0 H X.s_0.heap hp := by
    refine ⟨?_, ?_, I.base.free, ?_, I.base.tups, I.base.frzs, I.base.tbls⟩
    · intro b o e q1 q2 q3
      rw [sb.2 b (young e)]
      exact I.base.keep b o e q1 q2 q3
    · intro b o e q1 q2 q3
      obtain ⟨sl, z⟩ := I.base.slot b o e q1 q2 q3
      exact ⟨sl, by rw [sb.2 b (young e)]; exact z⟩
    · intro b o e q1
      obtain ⟨o', z⟩ := I.base.there b o e q1
      exact ⟨o', by rw [sb.2 b (young e)]; exact z⟩
  refine { ok := I.ok, os := I.os, bare := I.bare, base := un, loc := ⟨m, ns.sameBut sb (Ne.symm (I.cne n cc lk)), ?_⟩, cell := ?_, free := I.free, freeC := I.freeC, pin := ?_, hok := ?_, len := by rw [List.length_set]; exact I.len }
  · intro j y v ey ev vis
    have ne : j ≠ i := by
      rintro rfl
      by_cases lt : j < σ.length
      · rw [List.getElem?_set_self lt] at ev; cases ev
      · rw [List.getElem?_eq_none (by rw [List.length_set]; omega)] at ev; cases ev
    rw [List.getElem?_set_ne (Ne.symm ne)] at ev
    obtain ⟨u, rel, q⟩ := look j y v ey ev vis
    refine ⟨u, rel, q.imp id ?_⟩
    rintro ⟨kd, c2, l2, z2⟩
    refine ⟨kd, c2, l2, z2.sameBut sb ?_⟩
    rintro rfl
    have : y = n := I.ok.inj _ _ _ l2 lk
    subst this
    exact ne (nodup_ix nd ey at_i)
  · intro y c2 l2
    by_cases q : c2 = cc
    · exact ⟨none, q ▸ empty⟩
    · obtain ⟨w2, z2⟩ := I.cell y c2 l2
      exact ⟨w2, z2.sameBut sb q⟩
  · intro p hp'
    obtain ⟨p1, p2, p3, p4, p5⟩ := I.pin p hp'
    refine ⟨?_, p2, p3, p4, p5⟩
    rw [sb.2 p.1 (fun q => ?_)]
    · exact p1
    · rw [q, isAt] at p1
      exact p5 w0 ((Option.some.inj p1) ▸ dat)
  · intro b ob e
    refine (I.hok b ob e).stay (fun c2 w2 hc q => ?_) (fun _ q => q) fun _ _ q => q
    refine (sb.2 c2 ?_).trans q
    rintro rfl
    rcases hc with hc | hc
    · rw [← hc, noH] at e; cases e
    · rw [noH] at hc; cases hc
/-- behind the clause: its name goes out of its cell -/
theorem cell_goes {M : Model} {A : Around} {E : Value → Shared → Prop} {pos : Pos} {Q : Unit → Shared → Prop} (I : Inv X pins σ H s) (nd : X.N.Nodup) (at_i : X.N[i]? = some n) (kd : X.env.kindOf n = some .cell) (own : X.fn n = true)
    (go : ∀ s', Inv X pins (σ.set i none) H s' → Q () s') : wpAny M A (do bindName X.env n .none; unbindBehindTheSuite X.env n pos) Q E s := by
  obtain ⟨cc, lk⟩ := I.ok.has n (.inl kd)
  obtain ⟨w0, z0⟩ := I.cell n cc lk
  refine wpAny_bind (wpAny_bindName (wpAny_storeName_cell I.ok.kind kd lk z0 fun h1 z1 b1 => ?_))
  unfold unbindBehindTheSuite unbindName
  refine wpAny_onRaise (wpAny_bind (wpAny_point (wpAny_bind ?_)))
  unfold deleteName
  simp only [kd]
  refine wpAny_bind (wpAny_cellOf lk (wpAny_bind (wpAny_cellGet z1 ?_)))
  rw [if_pos (by rfl)]
  refine wpAny_cellSet z1 fun h2 z2 b2 => wpAny_point (go _ ?_)
  have fin := inv_emptied (tk := s.toks) I nd at_i own lk z2 (b1.trans b2)
  exact fin
end
section
variable {X : Cx} {x n : Str} {c : Value} {i : Nat} {body suite : List Stmt} {b0 : Stmt} {np pos pos' : Pos} {tb : WX → TS} {ts : Addr → Value → Option Addr → TS} {Wo : WX}
/-- what is wished where the body's exception is caught -/
abbrev caught (X : Cx) (x n : Str) (np pos' : Pos) (st : List Stmt) (pins : List (Addr × Obj)) (D : Ends) : Value → Shared → Prop := fun u t1 => wpAny (model X.prog X.w) X.A (noteFrame u X.env) (fun _ t2 => wpAny (model X.prog X.w) X.A (setFlight u none) (fun _ t3 =>
  wpAny (model X.prog X.w) X.A (handleBy u X.env [.ExceptHandler (some (.Name x np)) (some n) st pos']) (SP X pins D) X.xe t3) X.xe t2) X.xe t1
theorem out_of_try {xe : Value → Shared → Prop} {pn pins : List (Addr × Obj)} {D : Ends} {f : Flow} {s : Shared} (ok : X.Ok) (h : SP (X.tr (X.pn ++ pins) xe) [] D f s) : SP X pins D f s := by
  cases f with
  | next => exact let ⟨a, b, J, q⟩ := h; ⟨a, b, J.ofTry ok, q⟩
  | brk => exact let ⟨a, b, J, q⟩ := h; ⟨a, b, J.ofTry ok, q⟩
  | cont => exact let ⟨a, b, J, q⟩ := h; ⟨a, b, J.ofTry ok, q⟩
  | ret u => exact let ⟨v, a, b, J, r, q⟩ := h; ⟨v, a, b, J.ofTry ok, r, q⟩
theorem not_frame {B hp : Heap} {a : Addr} {o : Obj} {vs : Array Value} (hf : X.env.frame = some X.env.locals) (ff : hp.FunFrames B (X.env :: X.outer)) (g : hp.get? a = some o) (dt : o.data = .fields vs) : a ≠ X.env.locals ∧ a ∉ X.fs := by
  have no : a ∉ frs (X.env :: X.outer) := fun mem => by
    obtain ⟨_, o2, g2, nf⟩ := ff.mem mem
    rw [g] at g2
    cases g2
    exact nf _ dt
  refine ⟨fun q => no ?_, fun q => no ?_⟩
  · exact List.mem_filterMap.mpr ⟨X.env, by simp, by rw [hf, q]⟩
  · obtain ⟨e, me, fe⟩ := List.mem_filterMap.mp q
    exact List.mem_filterMap.mpr ⟨e, by simp [me], fe⟩
theorem caught_ok (hs : X.stack = X.env :: X.outer) (hf : X.env.frame = some X.env.locals) (hN : X.N.Nodup) (hi : X.N[i]? = some n) (kd : X.env.kindOf n = some .cell) (own : X.fn n = true) (hc : Names X x c) (tk : L2N.Takes X Wo)
    (hsu : ∀ (a : Addr) (oe : Obj) (cls : Value) (d : Option Addr) (pn : List (Addr × Obj)), L2N.Zn cls d oe → (∃ vs, oe.data = .fields vs) → PSs (X.suite a ((a, oe) :: pn)) (b0 :: suite) (ts a cls d)) {pins : List (Addr × Obj)} {D : Ends} (ok : X.Ok)
    {xe : Value → Shared → Prop} {u : Value} {s1 : Shared} (xx : L2N.XE (X.tr (X.pn ++ pins) xe) (wAs X.K c i ts Wo D) u s1) : caught X x n np pos' (b0 :: suite) pins D u s1 := by
  obtain ⟨a, B, sI, _, σ, H, cls, d, rfl, J0, nb, up, sky, na, os, ag, hit, eh, yes, no⟩ := xx
  have J : Inv X pins σ H sI := J0.ofTry ok
  have frames : X.A.frames = some (X.env :: X.outer) := hs ▸ ok.frames
  rw [show (X.tr (X.pn ++ pins) xe).stack = X.env :: X.outer from hs] at sky
  refine L2N.Sky.land L2N.Zn.steady frames hf sky fun hp3 fly up3 => ?_
  have I3 : Inv X pins σ H { s1 with heap := hp3 } := J.landed nb fly.1 (up.trans up3) os ag
  obtain ⟨o3, v3, g3, z3, d3⟩ := fly.there
  obtain ⟨nl, nf⟩ := not_frame hf fly.2.2.1 g3 d3
  have W3 := I3.suite g3 d3 na nl nf
  refine wpAny_handleBy_cons (codeAny_handlers_test ?_) (by intro q; cases q)
  have types : PySem.W.Looks (model X.prog X.w) hp3 (typeOf (.ref a)) cls := fun _ _ _ _ kp q => wpAny_typeOf_ref (kp _ _ g3) (by rw [z3.1]; exact q)
  have named : ∀ {Q E : Value → Shared → Prop}, Q c { s1 with heap := hp3 } → wpAny (model X.prog X.w) (X.A.mark (some (.ref a))) (eval (.Name x np) X.env) Q E { s1 with heap := hp3 } := by
    intro Q E q
    rcases hc with ⟨gl, ndb, mm | ⟨m0, bb, nn⟩⟩
    · exact ld_glob (X := X.suite a ((a, o3) :: (X.pn ++ pins))) W3 gl mm q ndb
    · exact ld_blt (X := X.suite a ((a, o3) :: (X.pn ++ pins))) W3 gl m0 bb q nn ndb
  refine named ((PySem.W.exm_one (M := model X.prog X.w) I3.kIn types eh).here ?_)
  cases hit with
  | false =>
    refine wpAny_handleBy_nil ?_
    obtain ⟨_, _, _, o5, vs5, T, oT, _, g5, _, d5, f1, _⟩ := id fly
    have pass : wpAny (model X.prog X.w) X.A (setFlight (.ref a) X.env.frame) (fun _ s4 => wpAny (model X.prog X.w) X.A (throw (.ref a) : Sem Flow) (SP X pins D) X.xe s4) X.xe { s1 with heap := hp3 } := by
      rw [hf]
      exact HandSPX.setFlight_upZ fly fun hp4 held up4 => wpAny_throw (tk _ _ ⟨a, B, sI, pins, σ, H, cls, d, rfl, J, nb, (up.trans up3).trans up4, .inr (.inr (by rw [hs]; exact held)), na, os, ag, no rfl⟩)
    unfold PySem.passOn
    refine wpAny_bind (wpAny_field g5 d5 f1 ?_)
    rw [if_neg (by simp)]
    first
      | exact wpAny_bind pass
      | exact wpAny_bind (wpAny_pure (wpAny_bind pass))
  | true =>
    refine codeAny_handlers_suite_as (HandSPX.lands_againZ fly fun hp4 fly4 up4 => ?_)
    have I4 : Inv X pins σ H { s1 with heap := hp4 } := J.landed nb fly4.1 ((up.trans up3).trans up4) os ag
    obtain ⟨o4, v4, g4, z4, d4⟩ := fly4.there
    refine store_ok (X := X.suite a ((a, o4) :: (X.pn ++ pins))) (v := .ref a) (I4.suite g4 d4 na nl nf) hN hi (.inr kd) rfl (fun s5 I5 => ?_) (.inl own)
    refine wpAny_mono ((hsu a o4 cls d (X.pn ++ pins) z4 ⟨_, d4⟩).run [] s5 _ H _ I5 (yes rfl a na)) (fun f s6 done => ?_) fun _ _ z => z.elim
    have leave : ∀ {σ6 : St} {H6 : Hp} {Q : Shared → Prop}, Inv (X.suite a ((a, o4) :: (X.pn ++ pins))) [] σ6 H6 s6 → (∀ s7, Inv X pins (σ6.set i none) H6 s7 → Q s7) → wpAny (model X.prog X.w) X.A (do bindName X.env n .none; unbindBehindTheSuite X.env n pos') (fun _ s7 => Q s7) X.xe s6 :=
      fun I6 q => cell_goes (I6.unsuite ok) hN hi kd own q
    cases f with
    | next => exact let ⟨_, _, I6, q⟩ := done; leave I6 fun _ I7 => ⟨_, _, I7, q⟩
    | brk => exact let ⟨_, _, I6, q⟩ := done; leave I6 fun _ I7 => ⟨_, _, I7, q⟩
    | cont => exact let ⟨_, _, I6, q⟩ := done; leave I6 fun _ I7 => ⟨_, _, I7, q⟩
    | ret u => exact let ⟨_, _, _, I6, r, q⟩ := done; leave I6 fun _ I7 => ⟨_, _, _, I7, r, q⟩
/-- try with one clause whose name stands in a cell -/
theorem ps_tryC (hs : X.stack = X.env :: X.outer) (hf : X.env.frame = some X.env.locals) (hN : X.N.Nodup) (hi : X.N[i]? = some n) (kd : X.env.kindOf n = some .cell) (own : X.fn n = true) (hc : Names X x c) (tk : L2N.Takes X Wo)
    (hb : ∀ (W : WX) (pn : List (Addr × Obj)) (xe : Value → Shared → Prop), L2N.Takes (X.tr pn xe) W → PassesOwn (model X.prog X.w) X.A X.env xe → PSs (X.tr pn xe) body (tb W))
    (hsu : ∀ (a : Addr) (oe : Obj) (cls : Value) (d : Option Addr) (pn : List (Addr × Obj)), L2N.Zn cls d oe → (∃ vs, oe.data = .fields vs) → PSs (X.suite a ((a, oe) :: pn)) (b0 :: suite) (ts a cls d)) :
    PS X (.Try body [.ExceptHandler (some (.Name x np)) (some n) (b0 :: suite) pos'] [] [] pos) (fun D σ H => tb (wAs X.K c i ts Wo D) D σ H) := ⟨fun pins s σ H D I h => by
  refine wpAny_Try_except (wpAny_mono ((hb (wAs X.K c i ts Wo D) (X.pn ++ pins) (caught X x n np pos' (b0 :: suite) pins D) (fun u s1 xx => caught_ok hs hf hN hi kd own hc tk hsu I.ok xx) PassesOwn.looking).run [] s σ H D (I.toTry _) h) (fun f s1 done => ?_) fun _ _ z => z)
  have done' := out_of_try (pn := []) I.ok done
  cases f with
  | next => exact wpAny_execs_nil done'
  | brk => exact done'
  | cont => exact done'
  | ret u => exact done'⟩
/-- try with one clause, its name in the frame or in a cell -/
theorem ps_try1 (hs : X.stack = X.env :: X.outer) (hf : X.env.frame = some X.env.locals) (hN : X.N.Nodup) (hi : X.N[i]? = some n) (hln : X.env.kindOf n = some .local ∨ (X.env.kindOf n = some .cell ∧ X.fn n = true)) (hc : Names X x c) (tk : L2N.Takes X Wo)
    (hb : ∀ (W : WX) (pn : List (Addr × Obj)) (xe : Value → Shared → Prop), L2N.Takes (X.tr pn xe) W → PassesOwn (model X.prog X.w) X.A X.env xe → PSs (X.tr pn xe) body (tb W))
    (hsu : ∀ (a : Addr) (oe : Obj) (cls : Value) (d : Option Addr) (pn : List (Addr × Obj)), L2N.Zn cls d oe → (∃ vs, oe.data = .fields vs) → PSs (X.suite a ((a, oe) :: pn)) (b0 :: suite) (ts a cls d)) :
    PS X (.Try body [.ExceptHandler (some (.Name x np)) (some n) (b0 :: suite) pos'] [] [] pos) (fun D σ H => tb (wAs X.K c i ts Wo D) D σ H) := by
  rcases hln with h | ⟨h, q⟩
  · exact L2N.ps_try_as hs hf hN hi h hc tk hb hsu
  · exact ps_tryC hs hf hN hi h q hc tk hb hsu
end
end FL

/-! FH: where an error is handled: calls, isinstance, try. -/
namespace FL
open PySem PySem.Spec L2
open PyProof.Rows (envOfC)
open L2H (RoomH Hot1 PinOk cxH HotC)
/-- what is known of the class c of the handled error p -/
structure HotK (K : Frag) (mg : Str → Option Value) (c : Str) (p : Addr × Obj) : Prop where
  ex : ∃ D, mg c = some (.ref D) ∧ ExcC K D ∧ Zc (.ref D) none p.2 ∧ ∃ vs, p.2.data = .fields vs
/-- a def called where p is handled -/
structure KpH (P : Program) (w : World) (K : Frag) (mg : Str → Option Value) (base : Heap) (k : Nat) (f : Addr) (fd : FuncData) (ps : List Str) (run : Addr → Str → FnR) : Prop where
  go : ∀ (A : Around) (outer : List Env) (s : Shared) (H : Hp) (args : Args) (us : List Value) (vs : List V) (Q : VK) (Ex : XK) (p : Addr × Obj) (c : Str), RoomH k A → Hot1 A p → PinOk outer H s p → HotK K mg c p → Env0 P w K mg base A outer s H → BindsTo s fd args (ps.zip us) → Vals vs us →
    spF K mg (run p.1 c) ps.length vs H Q Ex → codeAny (model P w) A (.call (.ref f) args) (CR (L2N.CX P w) outer P w H s Q Ex) s
theorem kph_of {P : Program} {w : World} {K : Frag} {mg : Str → Option Value} {base : Heap} {x qual : Str} {st : Stmt} {f : Addr} {fd : FuncData} {N ps : List Str} {k : Nat} {fb : Addr → Str → FnS} (D0 : Fun K x qual st f fd) (S : FnScope N ps (defScope st))
    (body : ∀ (cdv : Value) (A : Around) (outer : List Env) (s : Shared) (H : Hp) (Ex : XK) (p : Addr × Obj) (c : Str), RoomH k (A.deeper (envOfC qual (defScope st) s.heap.objs.size f cdv)) → Hot1 A p → HotK K mg c p →
      FSs (cxH (L2N.CX P w) P w K mg base N qual (defScope st) f cdv A outer s H Ex p) (fun c d _ H => Ex c d H) (defBody st) (fb p.1 c)) : KpH P w K mg base (k + 1) f fd ps (fun a c => runBody N.length (fb a c)) := by
  obtain ⟨_, _, kV, doc, pm, an, cdv, ct, _, rfl, found, code⟩ := D0.ex
  refine ⟨fun A outer s H args us vs Q Ex p c room hot pin hk env0 bound rel want => ?_⟩
  obtain ⟨np, G, pn, F, as, R, free, post⟩ := want
  have inK : K.In s.heap := env0.mod.kin.keeps fun b o e => (env0.bs b o e).1
  have nolim : s.heap.NoLimit := env0.mod.nolimit.keeps fun b o e => (env0.bs b o e).1
  have names : ∀ y ∈ ps.zip us, (defScope st).names.lookup y.1 = some .local ∨ ((defScope st).names.lookup y.1 = some .cell ∧ ((cellsFrom (s.heap.objs.size + 1) (defScope st).names []).lookup y.1).isSome = true) := by
    rintro ⟨n, v⟩ hy
    rcases S.par n (List.of_mem_zip hy).1 with q | q
    · exact .inl q
    · exact .inr ⟨q, PySem.W.cellsFrom_some _ _ _ (.inl q)⟩
  refine codeAny_call_function room.depth (inK _ _ found) rfl S.co S.gen rfl (PySem.W.codeRec_of inK code) (bound _ _ _ _ ?_)
  refine wpAny_newFunctionEnv_cells S.kind names fun env eenv s1 inCall => ?_
  subst eenv
  refine ⟨nolim.keeps inCall.toInCall.keep, codeAny_func ?_⟩
  have hl : as.length = vs.length := by simpa using R.len
  have inv := L2H.inv_startH (CX := L2N.CX P w) (E := Ex) S pin env0 np rel inCall
  have start_eq : L2.start N vs = vs.map some ++ List.replicate (N.length - as.length) none := by unfold L2.start; rw [hl]
  have ready : tS K mg (fun c d _ H => Ex c d H) (fb p.1 c) { nx := fun _ H' => Q .non H', rt := Q } (L2.start N vs) H := by
    rw [start_eq]
    refine ⟨G, pn, F, as.map some ++ List.replicate (N.length - as.length) none, rep_more _ R, ?_⟩
    simp only [runBody] at post
    have out : ∀ {Γ' : Ga} {σ' : St} {F' H' : Hp}, Rep K G pn Γ' σ' F' H' → ∀ p ∈ pn, ∃ xs, Γ'[p.1]? = some (some (.io xs)) ∧ Own K G F' H' p.2 xs := fun {Γ' σ' F' H'} R' p hp => by
      obtain ⟨q1, t, q2, q3⟩ := R'.pn p hp
      obtain ⟨v, q4, q5⟩ := R'.sl _ _ q2
      rw [q1] at q4
      cases q4
      cases t with
      | io xs => obtain ⟨a, ea, o⟩ := q5; cases ea; exact ⟨xs, q2, o⟩
      | lk xs =>
        obtain ⟨a, ws, ea, o, _⟩ := q5
        cases ea
        rw [free p hp] at o; cases o
      | _ => cases q3
    cases q : fb p.1 c (as.map some ++ List.replicate (N.length - as.length) none) with
    | nx Γ' => simp only [q] at post; exact fun σ' F' H' A' R' _ => post .non F' H' A' R'.fh R'.gh .non (out R')
    | ret d Γ' => simp only [q] at post; exact fun v σ' F' H' A' R' rp => post v F' H' A' R'.fh R'.gh rp (out R')
    | exc e => simp only [q] at post; exact fun c d σ' F' H' _ A' s1 s2 xr => post c d F' H' A' s1 s2 xr
    | bk Γ' => simp only [q] at post; exact post.elim
    | ct Γ' => simp only [q] at post; exact post.elim
    | bad => simp only [q] at post; exact post.elim
  refine wpAny_mono ((body cdv A outer s H Ex p c (room.deeper _) hot hk).run [] s1 (L2.start N vs) H _ inv ready) (fun flow s2 ends => ?_) fun e s2 ends => ends
  have over : ∀ {σ' : St} {H' : Hp} {v : V} {u : Value}, Inv (cxH (L2N.CX P w) P w K mg base N qual (defScope st) f cdv A outer s H Ex p) [] σ' H' s2 → RelV v u → Q v H' → CE outer P w H s Q u s2 :=
    fun {σ' H' v u} J r q => ⟨v, H', J.os, J.bare, J.base, J.hok, r, q⟩
  cases flow with
  | next => obtain ⟨_, _, J, q⟩ := ends; exact over (v := V.non) (u := Value.none) J rfl q
  | ret u => obtain ⟨_, _, _, J, r, q⟩ := ends; exact over J r q
  | brk => obtain ⟨_, _, _, z⟩ := ends; exact z.elim
  | cont => obtain ⟨_, _, _, z⟩ := ends; exact z.elim
/-- the context bears the handled error p of class c -/
structure HotX (X : Cx) (c : Str) (p : Addr × Obj) : Prop where
  hot : Hot1 X.A p
  pin : p ∈ X.pn
  kn : HotK X.K X.mg c p
structure CokH (X : Cx) (E : WX) (k : Nat) : Prop where
  room : RoomH k X.A
  pass : ∀ σ, PassesAt (L2N.CX X.prog X.w) X σ (fun c d H => E c d σ H)
section
variable {X : Cx} {E : WX} {k : Nat} {f : Addr} {fd : FuncData} {ps : List Str} {run : Addr → Str → FnR} {p0 : Addr × Obj} {c0 : Str}
theorem kph_run {pins : List (Addr × Obj)} {σ : St} {H : Hp} {s : Shared} {Q : VK} {us : List Value} {vs : List V} (F : KpH X.prog X.w X.K X.mg X.base k f fd ps run) (c : CokH X E k) (hx : HotX X c0 p0) (hb : Binds X.K fd ps [])
    (I : Inv X pins σ H s) (r : Vals vs us) (h : spF X.K X.mg (run p0.1 c0) ps.length vs H Q (fun c d H => E c d σ H)) : wpAny (model X.prog X.w) X.A (call (.ref f) us) (EP X pins σ Q) X.xe s := by
  have bound := hb s us I.kIn (by rw [List.append_nil, ← r.length]; exact h.1)
  rw [List.append_nil] at bound
  have at1 := I.pin p0 (List.mem_append_left _ hx.pin)
  have pok : PinOk X.stack H s p0 := ⟨at1.1, at1.2.1, fun hm => (List.mem_cons.mp (I.stkSub p0.1 hm)).elim at1.2.2.1 at1.2.2.2.1, at1.2.2.2.2⟩
  refine wpAny_call (codeAny_mono (F.go X.A X.stack s H ⟨us, []⟩ us vs Q _ p0 c0 c.room hx.hot pok hx.kn I.env0 bound r h) fun res s2 out => ?_)
  rcases res with e | fl
  · exact c.pass σ pins H s _ s2 I out
  · cases fl <;> first | exact I.after out | exact False.elim out
theorem pe_callF' {x : Str} {p pos : Pos} {e : Expr} {es : List Expr} {t : TA} (F : KpH X.prog X.w X.K X.mg X.base k f fd ps run) (c : CokH X E k) (hx : HotX X c0 p0) (hg : Gl X x) (hm : X.mg x = some (.ref f)) (hk : PySem.W.keepIn X.K (.ref f) = true) (hb : Binds X.K fd ps [])
    (ha : PA X (e :: es) t) (hdb : (x == ("__debug__" : Str)) = false := by decide) (he : starEach (e :: es) X.env = (false, eval e X.env) :: starEach es X.env := by rfl) (hpl : (backTo pos (starEach es X.env)).any (·.1) = false := by rfl) :
    PE X (.Call (.Name x p) (e :: es) [] pos) (tCallK X.K X.mg E (run p0.1 c0) ps.length t) := by
  refine ⟨fun pins s σ H Q I want => wpAny_Call_Name_kw (ld_glob I hg hm ?_ hdb)⟩
  refine PySem.W.callWith_K (h₀ := X.base) I.ok.mod.kin hk (thn (ha.run pos pins s σ H _ I want) ?_) he hpl
  rintro us s2 ⟨vs, H2, I2, r, q⟩
  exact ⟨I2.kIn, kph_run F c hx hb I2 r q⟩
theorem fe_callH {x : Str} {p pos : Pos} {e : Expr} {es : List Expr} {fa : FnA} (F : KpH X.prog X.w X.K X.mg X.base k f fd ps run) (c : CokH X E k) (hx : HotX X c0 p0) (hg : Gl X x) (hm : X.mg x = some (.ref f)) (hk : PySem.W.keepIn X.K (.ref f) = true) (hb : Binds X.K fd ps []) (ha : FA X E (e :: es) fa)
    (hdb : (x == ("__debug__" : Str)) = false := by decide) (he : starEach (e :: es) X.env = (false, eval e X.env) :: starEach es X.env := by rfl) (hpl : (backTo pos (starEach es X.env)).any (·.1) = false := by rfl) :
    FE X E (.Call (.Name x p) (e :: es) [] pos) (eCall (run p0.1 c0) ps.length none fa) := pe_imp (pe_callF' F c hx hg hm hk hb ha hdb he hpl) key_call
end
/-- the def x of the text, called where an error is handled -/
structure ClbH (P : Program) (w : World) (K : Frag) (mg : Str → Option Value) (base : Heap) (k : Nat) (x : Str) (n : Nat) (run : Addr → Str → FnR) : Prop where
  ex : ∃ (f : Addr) (fd : FuncData) (ps : List Str), KpH P w K mg base k f fd ps run ∧ mg x = some (.ref f) ∧ PySem.W.keepIn K (.ref f) = true ∧ Binds K fd ps [] ∧ ps.length = n
abbrev hX (P : Program) (w : World) (K : Frag) (mg : Str → Option Value) (base : Heap) (N : List Str) (x : Str) (st : Stmt) (f : Addr) (cdv : Value) (A : Around) (outer : List Env) (s : Shared) (H : Hp) (Ex : XK) (p : Addr × Obj) : Cx :=
  cxH (L2N.CX P w) P w K mg base N x (defScope st) f cdv A outer s H Ex p
theorem clbh_of {P : Program} {w : World} {K : Frag} {mg : Str → Option Value} {base : Heap} {x : Str} {st : Stmt} {N ps : List Str} {k n : Nat} {fb : Addr → Str → FnS} (T : Tx K mg x st ps) (S : FnScope N ps (defScope st)) (hn : ps.length = n)
    (body : ∀ (f : Addr) (cdv : Value) (A : Around) (outer : List Env) (s : Shared) (H : Hp) (Ex : XK) (p : Addr × Obj) (c : Str), CokH (hX P w K mg base N x st f cdv A outer s H Ex p) (bE Ex) k → HotX (hX P w K mg base N x st f cdv A outer s H Ex p) c p →
      FSs (hX P w K mg base N x st f cdv A outer s H Ex p) (bE Ex) (defBody st) (fb p.1 c)) : ClbH P w K mg base (k + 1) x n (fun a c => runBody N.length (fb a c)) := by
  obtain ⟨f, fd, F, hm, hb⟩ := T.ex
  refine ⟨f, fd, ps, kph_of F S fun cdv A outer s H Ex p c room hot hk => ?_, hm, F.kp, hb, hn⟩
  have tk : L2N.Takes (hX P w K mg base N x st f cdv A outer s H Ex p) (bE Ex) := L2N.takes_of rfl rfl rfl rfl
  exact body f cdv A outer s H Ex p c ⟨room, fun σ => L2N.passAt tk σ⟩ ⟨hot, List.mem_singleton.mpr rfl, hk⟩
theorem CokH.u64 {X : Cx} {E : WX} {k : Nat} (c : CokH X E k) : X.A.units + 64 < cLine := by have := c.room.un; omega
theorem CokH.u65 {X : Cx} {E : WX} {k : Nat} (c : CokH X E k) : X.A.units + 65 < cLine := by have := c.room.un; omega
/-! ### isinstance of the handled error -/
theorem call_isH {X : Cx} {c : Str} {p : Addr × Obj} (hx : HotX X c p) {D : Addr} (hD : X.mg c = some (.ref D)) : CallR X (.builtin "isinstance") (rIsE X.K D p.1) := by
  intro pins s0 σ H xs us Q J r h
  obtain ⟨cc, cv, b, rfl, hcv, e, q⟩ := h
  obtain ⟨u1, u2, rfl, r1, r2⟩ := vals2 r
  obtain rfl : u1 = Value.ref p.1 := r1
  have ec := hcv _ r2
  subst ec
  obtain ⟨D', h1, C, hz, vs, hv⟩ := hx.kn.ex
  rw [hD] at h1
  cases h1
  have at1 := (J.pin p (List.mem_append_left _ hx.pin)).1
  have ins : PySem.W.InstAt s0.heap p.1 p.2 D none := by
    obtain ⟨pa, oc, od, oda, osl⟩ := p
    obtain ⟨z1, z2⟩ := hz
    dsimp only at z1 z2 hv at1
    subst z1 z2 hv
    exact ⟨at1, rfl, rfl, trivial⟩
  exact PySem.W.kia_one (PySem.W.handS_kitx_exc C.hg C.hk C.hs C.hd C.ha C.hn C.ht C.hm) J.kIn ins e (fun z => nomatch z) fun tk => ⟨.bl b, H, J.kept (t' := tk) fun _ _ z => z, rfl, q⟩
/-- is the class c under the class x -/
structure SubK (K : Frag) (mg : Str → Option Value) (c x : Str) (b : Bool) : Prop where
  ex : ∃ D C, mg c = some (.ref D) ∧ mg x = some (.ref C) ∧ PySem.W.kitOne K (.ref D) (.ref C) = some b
def eIsE (a0 : Addr) (b : Bool) (i : Nat) : FnE := fun Γ => match Γ[i]? with
  | some (some (.ex a _)) => if a = a0 then .ok (.d (.bool b), Γ) else .bad
  | _ => .bad
section
variable {X : Cx} {E : WX} {c0 : Str} {p0 : Addr × Obj} {i : Nat} {b : Bool} {q q2 q3 pos : Pos} {n : Str}
theorem key_isH {D : Addr} {cv : V} {cw : Value} (hv : ∀ u, RelV cv u → u = cw) (hk : PySem.W.kitOne X.K (.ref D) cw = some b) :
    ∀ σ H Q, tE X.K X.mg E (eIsE p0.1 b i) σ H Q → tUn (fun v H Q => rIsE X.K D p0.1 [v, cv] H Q) (tVar i) σ H Q := fun σ H Q ⟨G, pn, F, Γ, R, h⟩ => by
  unfold eIsE at h
  split at h
  · rename_i a c e
    split at h
    · rename_i ea
      subst ea
      obtain ⟨v, e1, e2⟩ := R.sl i _ e
      exact ⟨v, e1, cv, cw, b, by rw [show v = V.ref p0.1 from e2], hv, hk, post_d R h (.bl b)⟩
    · exact h.elim
  · exact h.elim
theorem fe_isE {x : Str} (hx : HotX X c0 p0) (hs : SubK X.K X.mg c0 x b) (hg : Gl X "isinstance") (hm : X.mg "isinstance" = none) (hg2 : Gl X x) (he : PE X (.Name n q2) (tVar i)) (hd : (x == ("__debug__" : Str)) = false := by decide)
    (h1 : starEach [.Name n q2, .Name x q3] X.env = (false, eval (.Name n q2) X.env) :: starEach [.Name x q3] X.env := by rfl) (h2 : starEach [.Name x q3] X.env = [(false, eval (.Name x q3) X.env)] := by rfl)
    (hpl : (backTo pos (starEach [.Name x q3] X.env)).any (·.1) = false := by rfl) : FE X E (.Call (.Name "isinstance" q) [.Name n q2, .Name x q3] [] pos) (eIsE p0.1 b i) := by
  obtain ⟨D, C, m1, m2, k⟩ := hs.ex
  have cls : PE X (.Name x q3) (tC (.ref C)) := pe_glob hg2 m2 rfl hd
  exact pe_imp (pe_callB (call_isH hx m1) hg hm PyProof.Rows.boot_isinstance (pa_cons he (pa_cons cls pa_nil h2) h1) (he := h1) (hpl := hpl)) (key_isH (fun u r => r) k)
theorem fe_isV {t : String} (hx : HotX X c0 p0) (hs : ∃ D, X.mg c0 = some (.ref D) ∧ PySem.W.kitOne X.K (.ref D) (.type t) = some b) (hg : Gl X "isinstance") (hm : X.mg "isinstance" = none) (hg2 : Gl X (Str.ofString t)) (hm2 : X.mg (Str.ofString t) = none) (hv : bootBuiltins (Str.ofString t) = some (.type t)) (he : PE X (.Name n q2) (tVar i))
    (hd : (Str.ofString t == ("__debug__" : Str)) = false := by decide) (hn : Str.ofString t ≠ "__name__" := by decide)
    (h1 : starEach [.Name n q2, .Name (Str.ofString t) q3] X.env = (false, eval (.Name n q2) X.env) :: starEach [.Name (Str.ofString t) q3] X.env := by rfl) (h2 : starEach [.Name (Str.ofString t) q3] X.env = [(false, eval (.Name (Str.ofString t) q3) X.env)] := by rfl)
    (hpl : (backTo pos (starEach [.Name (Str.ofString t) q3] X.env)).any (·.1) = false := by rfl) : FE X E (.Call (.Name "isinstance" q) [.Name n q2, .Name (Str.ofString t) q3] [] pos) (eIsE p0.1 b i) := by
  obtain ⟨D, m1, k⟩ := hs
  have cls : PE X (.Name (Str.ofString t) q3) (tC (.ty t)) := pe_bltn hg2 hm2 hv rfl hn hd
  exact pe_imp (pe_callB (call_isH hx m1) hg hm PyProof.Rows.boot_isinstance (pa_cons he (pa_cons cls pa_nil h2) h1) (he := h1) (hpl := hpl)) (key_isH (fun u r => r) k)
end
/-! ### xs.count(x), xs.index(x) of data -/
def rCntV (K : Frag) : V → List V → Hp → VK → Prop := fun x xs H Q => ∃ (a : Addr) (y : V) (d : D) (ds : List D), x = V.ref a ∧ xs = [y] ∧ Dp K H (V.ref a) (.list ds) ∧ Dp K H y d ∧
  SeqAt.shaped (.list ds) = true ∧ SeqAt.shaped d = true ∧ Q (.int ((ds.countP fun z => PyData.eqv z d : Nat) : Int)) H
theorem mt_cntV {X : Cx} (hu : X.A.units + 65 < cLine) : MtR X "list.count" (rCntV X.K) := by
  intro pins s0 σ H x xs v us Q J rx rxs h
  obtain ⟨a, y, d, ds, rfl, rfl, hl, hy, sl, sd, q⟩ := h
  cases rx
  obtain ⟨uy, rfl, ry⟩ := rxs.one
  obtain ⟨bs, r1⟩ := Dp.reads J d y uy hy ry
  have lay := SeqAt.canLay_of_shaped sl
  have hroom : X.A.units + 1 + min (PyData.depthAll ds) d.depth < cLine := PyProof.Rows.room_in_shaped sd hu
  cases hl with
  | lst hs ha =>
    obtain ⟨its, rv, ⟨⟨cls, dd, data, sls⟩, n, ho, hc, hdn, hdt⟩, hlen⟩ := J.list hs
    simp only at hc hdt
    subst hc hdt
    obtain ⟨as, r4⟩ := Dp.readsAll J ds _ its ha rv
    have hmap : its.map (SeqAt.readOf s0.heap) = ds := SeqAt.readsAll_map ds its as lay r4
    refine call_meets PySem.F.slot_list_count ⟨_, ho, rfl⟩ PySem.F.entry_list_count (PySem.F.args_list_count_2 _ _)
      (SeqAt.list_countAt a its.toArray n dd sls uy fun u => PyData.eqv (SeqAt.readOf s0.heap u) d) ⟨ho, SeqAt.items_eqAt (vs := its.toArray) (show ReadsAll s0.heap its.toArray.toList ds as from r4) r1 lay (SeqAt.canLay_of_shaped sd) hroom, ?_⟩
    have ec : its.toArray.toList.countP (fun u => PyData.eqv (SeqAt.readOf s0.heap u) d) = ds.countP fun z => PyData.eqv z d := by
      rw [← hmap, List.countP_map]; rfl
    rw [ec]
    exact ⟨.int _, H, J.tok _, ⟨_, rfl⟩, q⟩
def idxV : List D → D → Option Nat
  | [], _ => none
  | a :: r, k => if PyData.eqv a k then some 0 else (idxV r k).map (· + 1)
theorem idxV_ok : ∀ {ds : List D} {k : D} {j : Nat}, idxV ds k = some j → ∃ z, ds[j]? = some z ∧ PyData.eqv z k = true ∧ ∀ (m : Nat) (z' : D), m < j → ds[m]? = some z' → PyData.eqv z' k = false
  | [], _, _, h => by cases h
  | a :: r, k, j, h => by
    unfold idxV at h
    split at h
    · rename_i e
      cases h
      exact ⟨a, rfl, e, fun m z' hm _ => absurd hm (Nat.not_lt_zero _)⟩
    · rename_i e
      cases q : idxV r k with
      | none => rw [q] at h; cases h
      | some i =>
        rw [q] at h
        cases h
        obtain ⟨z, h1, h2, h3⟩ := idxV_ok q
        refine ⟨z, by simpa using h1, h2, fun m z' hm hz => ?_⟩
        cases m with
        | zero => simp at hz; subst hz; exact Bool.eq_false_iff.mpr e
        | succ m => exact h3 m z' (by simp only at hm; omega) (by simpa using hz)
def outV (f : List D → D → Option D) (i : Nat) : Ga → RV → Rs (RV × Ga) := fun Γ rv => match ownList Γ[i]?, rv.get Γ with
  | some ds, some d => if SeqAt.shaped (.list ds) && SeqAt.shaped d then (match f ds d with
    | some z => .ok (.d z, Γ)
    | none => .bad) else .bad
  | _, _ => .bad
def cntV (ds : List D) (d : D) : Option D := some (.int ((ds.countP fun z => PyData.eqv z d : Nat) : Int))
def idV (ds : List D) (d : D) : Option D := (idxV ds d).map fun j => .int (j : Nat)
theorem own_there {K : Frag} {G : Hp} {pn : List (Nat × Addr)} {Γ : Ga} {σ : St} {F H : Hp} {i : Nat} {u : V} {ds : List D} (R : Rep K G pn Γ σ F H) (hu : σ[i]? = some (some u)) (h : ownList Γ[i]? = some ds) : ∃ a, u = .ref a ∧ Dq K H (.ref a) (.list ds) := by
  have go : ∀ s : Sl, Γ[i]? = some (some s) → (s = .ow ds ∨ s = .io ds) → ∃ a, u = .ref a ∧ Dq K H (.ref a) (.list ds) := fun s es hh => by
    obtain ⟨v, e1, e2⟩ := R.sl i s es
    obtain rfl : u = v := Option.some.inj (Option.some.inj (hu.symm.trans e1))
    rcases hh with rfl | rfl
    · obtain ⟨a, rfl, vs, h1, h2, _⟩ := e2; exact ⟨a, rfl, .lst (SqL.of h1) (RpAll.mono R.fh h2).dp⟩
    · obtain ⟨a, rfl, vs, h1, h2, _⟩ := e2; exact ⟨a, rfl, .lst (SqL.of h1) (RpAll.mono R.fh h2).dp⟩
  cases q : Γ[i]? with
  | none => rw [q] at h; cases h
  | some o =>
    cases o with
    | none => rw [q] at h; cases h
    | some s =>
      rw [q] at h
      cases s with
      | ow xs => exact go _ q (.inl (by rw [show xs = ds from Option.some.inj h]))
      | io xs => exact go _ q (.inr (by rw [show xs = ds from Option.some.inj h]))
      | _ => cases h
section
variable {X : Cx} {E : WX} {o e : Expr} {fe : FnE} {i : Nat} {apos cpos : Pos}
theorem fe_countV (hu : X.A.units + 65 < cLine) (ho : PE X o (tVar i)) (he : FE X E e fe) (hbase : attributeBase o "count" X.env (eval o X.env) = eval o X.env := by rfl)
    (hs : starEach [e] X.env = [(false, eval e X.env)] := by rfl) (hfew : ((backTo cpos (starEach [e] X.env)).all (fun x => !x.1) && (backToKw cpos (keywordEach [] X.env)).all (fun x => x.1.isSome)
      && decide (([e]).length + ([] : List Keyword).length + (if ([] : List Keyword).isEmpty then 0 else 1) < 30)) = true := by rfl) (hline : (apos.endLine == cpos.line) = true := by rfl) :
    FE X E (.Call (.Attribute o "count" apos) [e] [] cpos) (eMet i fe (outV cntV i)) :=
  pe_imp (pe_bm PySem.F.plainAttrs_list PySem.F.slot_list_count PySem.F.type_list_count (mt_cntV hu) ho (pa_cons he pa_nil hs) hbase hfew hline hs rfl) (key_meth fun G pn F Γ σ H u y rv Q R hu r h => by
    unfold outV at h
    split at h
    · rename_i ds d q1 q2
      split at h
      · rename_i sh
        rw [Bool.and_eq_true] at sh
        obtain ⟨a, rfl, hd⟩ := own_there R hu q1
        exact ⟨a, y, d, ds, rfl, rfl, hd.dp (noDict_shaped sh.1), (rv_get R r q2).dp (noDict_shaped sh.2), sh.1, sh.2, post_d R h (.int _)⟩
      · exact h.elim
    · exact h.elim)
theorem fe_indexV (hu : X.A.units + 65 < cLine) (ho : PE X o (tVar i)) (he : FE X E e fe) (hbase : attributeBase o "index" X.env (eval o X.env) = eval o X.env := by rfl)
    (hs : starEach [e] X.env = [(false, eval e X.env)] := by rfl) (hfew : ((backTo cpos (starEach [e] X.env)).all (fun x => !x.1) && (backToKw cpos (keywordEach [] X.env)).all (fun x => x.1.isSome)
      && decide (([e]).length + ([] : List Keyword).length + (if ([] : List Keyword).isEmpty then 0 else 1) < 30)) = true := by rfl) (hline : (apos.endLine == cpos.line) = true := by rfl) :
    FE X E (.Call (.Attribute o "index" apos) [e] [] cpos) (eMet i fe (outV idV i)) :=
  pe_imp (pe_bm PySem.F.plainAttrs_list PySem.F.slot_list_index PySem.F.type_list_index (mt_indexD hu) ho (pa_cons he pa_nil hs) hbase hfew hline hs rfl) (key_meth fun G pn F Γ σ H u y rv Q R hu r h => by
    unfold outV at h
    split at h
    · rename_i ds d q1 q2
      split at h
      · rename_i sh
        rw [Bool.and_eq_true] at sh
        obtain ⟨a, rfl, hd⟩ := own_there R hu q1
        unfold idV at h
        cases q : idxV ds d with
        | none => rw [q] at h; exact h.elim
        | some j =>
          rw [q] at h
          obtain ⟨z, z1, z2, z3⟩ := idxV_ok q
          exact ⟨a, y, d, ds, j, z, rfl, rfl, hd.dp (noDict_shaped sh.1), (rv_get R r q2).dp (noDict_shaped sh.2), sh.1, sh.2, z1, z2, z3, post_d R h (.int _)⟩
      · exact h.elim
    · exact h.elim)
end
/-! ### try: .. except X as e: return .. -/
def slFree : Option Sl → Bool
  | none => true
  | some s => !s.pinned
def sTry (n : Nat) (fb : FnS) (fh : Exc → Option D) : FnS := fun Γ => match fb Γ with
  | .exc e => (match fh e with
    | some d => if decide (Γ.length = n) && Γ.all slFree then .ret d (List.replicate n none) else .bad
    | none => .bad)
  | r => r
theorem free_pn {K : Frag} {G : Hp} {pn : List (Nat × Addr)} {Γ : Ga} {σ : St} {F H : Hp} (R : Rep K G pn Γ σ F H) (h : Γ.all slFree = true) : pn = [] := by
  cases pn with
  | nil => rfl
  | cons p pn =>
    obtain ⟨_, s, e, q⟩ := R.pn p (by simp)
    have := List.all_eq_true.mp h _ (List.mem_of_getElem? e)
    have this : (!s.pinned) = true := this
    rw [q] at this
    cases this
theorem rep_none {K : Frag} {G : Hp} {σ : St} {F H : Hp} {n : Nat} (fh : Same F H) (gh : Same G H) (l : σ.length = n) : Rep K G [] (List.replicate n none) σ F H where
  fh := fh
  gh := gh
  sl := fun i s e => by
    rw [List.getElem?_replicate] at e
    split at e <;> cases e
  ap := fun i j si sj a e _ _ _ _ _ => by
    rw [List.getElem?_replicate] at e
    split at e <;> cases e
  lkp := fun i zs e => by
    rw [List.getElem?_replicate] at e
    split at e <;> cases e
  pn := fun p hp => by cases hp
  len := by rw [List.length_replicate, l]
theorem rep_ex {K : Frag} {G : Hp} {σ : St} {F H : Hp} {n i : Nat} {a : Addr} {c : Str} (fh : Same F H) (gh : Same G H) (l : σ.length = n) : Rep K G [] ((List.replicate n none).set i (some (.ex a c))) (σ.set i (some (.ref a))) F H where
  fh := fh
  gh := gh
  sl := fun j s e => by
    rcases get_set e with ⟨e1, e2, hl⟩ | ⟨e1, e2⟩
    · obtain rfl : s = .ex a c := Option.some.inj e2
      rw [List.length_replicate] at hl
      exact ⟨.ref a, by rw [e1, List.getElem?_set_self (by omega)], rfl⟩
    · rw [List.getElem?_replicate] at e2
      split at e2 <;> cases e2
  ap := fun j k sj sk b e _ o _ _ _ => by
    rcases get_set e with ⟨e1, e2, hl⟩ | ⟨e1, e2⟩
    · obtain rfl : sj = .ex a c := Option.some.inj e2
      cases o
    · rw [List.getElem?_replicate] at e2
      split at e2 <;> cases e2
  lkp := fun j zs e => by
    rcases get_set e with ⟨e1, e2, hl⟩ | ⟨e1, e2⟩
    · cases e2
    · rw [List.getElem?_replicate] at e2
      split at e2 <;> cases e2
  pn := fun p hp => by cases hp
  len := by rw [List.length_set, List.length_set, List.length_replicate, l]
section
variable {X : Cx} {E : WX} {x n : Str} {S : Addr} {i m : Nat} {body suite : List Stmt} {b0 : Stmt} {np pos pos' : Pos} {fb : FnS} {fh : Exc → Option D}
theorem fs_try (hs : X.stack = X.env :: X.outer) (hf : X.env.frame = some X.env.locals) (hN : X.N.Nodup) (hi : X.N[i]? = some n) (hln : X.env.kindOf n = some .local ∨ (X.env.kindOf n = some .cell ∧ X.fn n = true)) (hg : Gl X x) (hS : X.mg x = some (.ref S)) (tk : L2N.Takes X E)
    (hb : ∀ (W : WX) (pn : List (Addr × Obj)) (xe : Value → Shared → Prop), L2N.Takes (X.tr pn xe) W → PassesOwn (model X.prog X.w) X.A X.env xe → FSs (X.tr pn xe) W body fb)
    (hk : ∀ e d, fh e = some d → e.fld = none ∧ ∀ D, X.mg e.cls = some (.ref D) → PySem.W.exmOne X.K (.ref D) (.ref S) = some true)
    (hsu : ∀ (c : Str) (d : D), fh ⟨c, none⟩ = some d → ∀ (a : Addr) (oe : Obj) (D : Addr) (pn : List (Addr × Obj)), X.mg c = some (.ref D) → L2N.Zn (.ref D) none oe → (∃ vs, oe.data = .fields vs) →
      ∃ hs : FnS, FSs (X.suite a ((a, oe) :: pn)) EN (b0 :: suite) hs ∧ ∃ Γ', hs ((List.replicate m none).set i (some (.ex a c))) = .ret d Γ')
    (hdb : (x == ("__debug__" : Str)) = false := by decide) :
    FS X E (.Try body [.ExceptHandler (some (.Name x np)) (some n) (b0 :: suite) pos'] [] [] pos) (sTry m fb fh) := by
  have key := ps_try1 (X := X) (x := x) (n := n) (c := .ref S) (i := i) (body := body) (suite := suite) (b0 := b0) (np := np) (pos := pos) (pos' := pos') (Wo := E) (tb := fun W => tS X.K X.mg W fb)
    (ts := fun a cls d => fun Dn σ H => ∃ (c : Str) (dd : D) (D : Addr) (G F : Hp), fh ⟨c, none⟩ = some dd ∧ X.mg c = some (.ref D) ∧ cls = .ref D ∧ d = none ∧ Rep X.K G [] ((List.replicate m none).set i (some (.ex a c))) σ F H ∧ ∀ v F' H', Adv G F F' → Same F' H' → Same G H' → Rp X.K F' v dd → Dn.rt v H')
    hs hf hN hi hln ⟨hg, hdb, .inl hS⟩ tk hb (fun a oe cls d pn hz hfd => by
      refine ⟨fun pins s0 σ H Dn J ⟨c, dd, D, G, F, e1, e2, e3, e4, R, q⟩ => ?_⟩
      subst e3 e4
      obtain ⟨hs, hps, Γ', e⟩ := hsu c dd e1 a oe D pn e2 hz hfd
      refine hps.run pins s0 σ H Dn J ⟨G, [], F, _, R, ?_⟩
      rw [e]
      exact fun v σ' F' H' A' R' rp => q v F' H' A' R'.fh R'.gh rp)
  refine ps_imp key fun Dn σ H ⟨G, pn, F, Γ, R, h⟩ => ⟨G, pn, F, Γ, R, ?_⟩
  unfold sTry at h
  cases q : fb Γ with
  | nx Γ1 => simp only [q] at h; exact h
  | bk Γ1 => simp only [q] at h; exact h
  | ct Γ1 => simp only [q] at h; exact h
  | ret d Γ1 => simp only [q] at h; exact h
  | bad => simp only [q] at h; exact h
  | exc e =>
    simp only [q] at h
    cases q2 : fh e with
    | none => rw [q2] at h; exact h.elim
    | some dd =>
      rw [q2] at h
      simp only at h
      split at h
      · rename_i ok
        rw [Bool.and_eq_true, decide_eq_true_eq] at ok
        have pn0 := free_pn R ok.2
        subst pn0
        obtain ⟨k1, k2⟩ := hk e dd q2
        obtain ⟨ec, ef⟩ := e
        simp only at k1 k2
        subst k1
        intro c d σ' F' H' l A1 s1 s2 xr
        obtain ⟨D, m1, rfl, m3⟩ := xr
        simp only at m3
        have l2 : σ'.length = m := by rw [l, ← R.len]; exact ok.1
        refine ⟨true, k2 D m1, fun _ a na => ⟨ec, dd, D, G, F', q2, m1, rfl, m3, rep_ex s1 s2 l2, fun v F2 H2 A2 t1 t2 rp => ?_⟩, fun z => by cases z⟩
        exact h v σ' F2 H2 (A1.trans A2) (rep_none t1 t2 l2) rp
      · exact h.elim
end
/-! ### told by tables -/
structure SubT (K : Frag) (mg : Str → Option Value) (x : Str) (tb : List (Str × Bool)) : Prop where
  go : ∀ c b, tb.lookup c = some b → SubK K mg c x b
structure SubV (K : Frag) (mg : Str → Option Value) (t : String) (tb : List (Str × Bool)) : Prop where
  go : ∀ c b, tb.lookup c = some b → ∃ D, mg c = some (.ref D) ∧ PySem.W.kitOne K (.ref D) (.type t) = some b
theorem lookup_or {α : Type} {c' : Str} {v : α} {t : List (Str × α)} {c : Str} {d : α} (h : ((c', v) :: t).lookup c = some d) : (c = c' ∧ d = v) ∨ t.lookup c = some d := by
  rw [List.lookup_cons] at h
  split at h
  · rename_i e
    exact .inl ⟨eq_of_beq e, (Option.some.inj h).symm⟩
  · exact .inr h
section
variable {K : Frag} {mg : Str → Option Value} {x c : Str} {b : Bool} {tb : List (Str × Bool)} {t : String}
theorem subT_nil : SubT K mg x [] := ⟨fun c b h => by cases h⟩
theorem subT_cons (h : SubK K mg c x b) (r : SubT K mg x tb) : SubT K mg x ((c, b) :: tb) := ⟨fun c' b' e => by
  rcases lookup_or e with ⟨rfl, rfl⟩ | e
  · exact h
  · exact r.go _ _ e⟩
theorem subV_nil : SubV K mg t [] := ⟨fun c b h => by cases h⟩
theorem subV_cons (h : ∃ D, mg c = some (.ref D) ∧ PySem.W.kitOne K (.ref D) (.type t) = some b) (r : SubV K mg t tb) : SubV K mg t ((c, b) :: tb) := ⟨fun c' b' e => by
  rcases lookup_or e with ⟨rfl, rfl⟩ | e
  · exact h
  · exact r.go _ _ e⟩
end
def eIsT (a0 : Addr) (o : Option Bool) (i : Nat) : FnE := match o with
  | some b => eIsE a0 b i
  | none => fun _ => .bad
section
variable {X : Cx} {E : WX} {c0 : Str} {p0 : Addr × Obj} {i : Nat} {q q2 q3 pos : Pos} {n : Str} {tb : List (Str × Bool)}
theorem fe_isT {x : Str} (hx : HotX X c0 p0) (hs : SubT X.K X.mg x tb) (hg : Gl X "isinstance") (hm : X.mg "isinstance" = none) (hg2 : Gl X x) (he : PE X (.Name n q2) (tVar i)) (hd : (x == ("__debug__" : Str)) = false := by decide)
    (h1 : starEach [.Name n q2, .Name x q3] X.env = (false, eval (.Name n q2) X.env) :: starEach [.Name x q3] X.env := by rfl) (h2 : starEach [.Name x q3] X.env = [(false, eval (.Name x q3) X.env)] := by rfl)
    (hpl : (backTo pos (starEach [.Name x q3] X.env)).any (·.1) = false := by rfl) : FE X E (.Call (.Name "isinstance" q) [.Name n q2, .Name x q3] [] pos) (eIsT p0.1 (tb.lookup c0) i) := by
  cases e : tb.lookup c0 with
  | some b => exact fe_isE hx (hs.go _ _ e) hg hm hg2 he hd h1 h2 hpl
  | none => exact ⟨fun pins s σ H Q I want => by obtain ⟨G, pn, F, Γ, R, h⟩ := want; exact h.elim⟩
theorem fe_isTV {t : String} (hx : HotX X c0 p0) (hs : SubV X.K X.mg t tb) (hg : Gl X "isinstance") (hm : X.mg "isinstance" = none) (hg2 : Gl X (Str.ofString t)) (hm2 : X.mg (Str.ofString t) = none) (hv : bootBuiltins (Str.ofString t) = some (.type t)) (he : PE X (.Name n q2) (tVar i))
    (hd : (Str.ofString t == ("__debug__" : Str)) = false := by decide) (hn : Str.ofString t ≠ "__name__" := by decide)
    (h1 : starEach [.Name n q2, .Name (Str.ofString t) q3] X.env = (false, eval (.Name n q2) X.env) :: starEach [.Name (Str.ofString t) q3] X.env := by rfl) (h2 : starEach [.Name (Str.ofString t) q3] X.env = [(false, eval (.Name (Str.ofString t) q3) X.env)] := by rfl)
    (hpl : (backTo pos (starEach [.Name (Str.ofString t) q3] X.env)).any (·.1) = false := by rfl) : FE X E (.Call (.Name "isinstance" q) [.Name n q2, .Name (Str.ofString t) q3] [] pos) (eIsT p0.1 (tb.lookup c0) i) := by
  cases e : tb.lookup c0 with
  | some b => exact fe_isV hx (hs.go _ _ e) hg hm hg2 hm2 hv he hd hn h1 h2 hpl
  | none => exact ⟨fun pins s σ H Q I want => by obtain ⟨G, pn, F, Γ, R, h⟩ := want; exact h.elim⟩
end
/-- the classes of errors that are handled -/
structure ErrT (K : Frag) (mg : Str → Option Value) (S : Str) (cs : List Str) : Prop where
  ex : ∃ A, mg S = some (.ref A) ∧ ∀ c ∈ cs, ∃ C, mg c = some (.ref C) ∧ ExcC K C ∧ PySem.W.exmOne K (.ref C) (.ref A) = some true
def tabH (t : List (Str × D)) : Exc → Option D := fun e => match e.fld with
  | none => t.lookup e.cls
  | some _ => none
theorem tabH_at {t : List (Str × D)} {e : Exc} {d : D} (h : tabH t e = some d) : e.fld = none ∧ t.lookup e.cls = some d := by
  unfold tabH at h
  split at h
  · rename_i q; exact ⟨q, h⟩
  · cases h
theorem cok_tr {X : Cx} {E W : WX} {k : Nat} {pn : List (Addr × Obj)} {xe : Value → Shared → Prop} (c : Cok X E k) (tk : L2N.Takes (X.tr pn xe) W) : Cok (X.tr pn xe) W k := ⟨c.calm, c.room, c.gd, fun σ => L2N.passAt tk σ⟩
theorem lookup_mem {t : List (Str × D)} {c : Str} {d : D} (h : t.lookup c = some d) : (c, d) ∈ t := by
  induction t with
  | nil => cases h
  | cons p t ih =>
    obtain ⟨c', v⟩ := p
    rcases lookup_or h with ⟨rfl, rfl⟩ | h
    · exact List.mem_cons_self
    · exact List.mem_cons_of_mem _ (ih h)
theorem fs_tryT {X : Cx} {E : WX} {x n f : Str} {i j k : Nat} {body : List Stmt} {np pos pos' p1 p2 p3 p4 : Pos} {fb : FnS} {th : List (Str × D)} {cs : List Str} {run : Addr → Str → FnR}
    (hs : X.stack = X.env :: X.outer) (hf : X.env.frame = some X.env.locals) (hN : X.N.Nodup) (hi : X.N[i]? = some n) (hln : X.env.kindOf n = some .local ∨ (X.env.kindOf n = some .cell ∧ X.fn n = true)) (hg : Gl X x) (er : ErrT X.K X.mg x cs) (ck : Cok X E k) (tk : L2N.Takes X E)
    (hb : ∀ (W : WX) (pn : List (Addr × Obj)) (xe : Value → Shared → Prop), L2N.Takes (X.tr pn xe) W → PassesOwn (model X.prog X.w) X.A X.env xe → FSs (X.tr pn xe) W body fb)
    (F : ClbH X.prog X.w X.K X.mg X.base j f 1 run) (hj : j ≤ k) (hgf : Gl X f)
    (hv : ∀ (a : Addr) (c : Str) (d : D), th.lookup c = some d → (run a c [.ex a c]).val = .ok d ∧ noL d = true) (hc : (th.all fun p => cs.contains p.1) = true)
    (hp : ∀ (a : Addr) (oe : Obj) (pn : List (Addr × Obj)), PE (X.suite a ((a, oe) :: pn)) (.Name n p2) (tVar i))
    (hdb : (x == ("__debug__" : Str)) = false := by decide) (hdf : (f == ("__debug__" : Str)) = false := by decide) :
    FS X E (.Try body [.ExceptHandler (some (.Name x np)) (some n) [.Return (some (.Call (.Name f p1) [.Name n p2] [] p3)) p4] pos'] [] [] pos) (sTry X.N.length fb (tabH th)) := by
  obtain ⟨S, hS, hcs⟩ := er.ex
  obtain ⟨fa, fd, ps, K0, hm, hk, hbd, hps⟩ := F.ex
  have incs : ∀ {c : Str} {d : D}, th.lookup c = some d → c ∈ cs := fun {c d} h => by
    have := List.all_eq_true.mp hc _ (lookup_mem h)
    simpa using this
  refine fs_try (m := X.N.length) hs hf hN hi hln hg hS tk hb (fun e d h => ?_) (fun c d h a oe D pn hD hz hfd => ?_) hdb
  · obtain ⟨h1, h2⟩ := tabH_at h
    obtain ⟨C, c1, c2, c3⟩ := hcs _ (incs h2)
    refine ⟨h1, fun D hD => ?_⟩
    rw [c1] at hD
    cases hD
    exact c3
  · have h2 := (tabH_at h).2
    obtain ⟨C, c1, c2, c3⟩ := hcs _ (incs h2)
    have eD : C = D := by rw [c1] at hD; cases hD; rfl
    subst eD
    obtain ⟨vs, evs⟩ := hfd
    have hx : HotX (X.suite a ((a, oe) :: pn)) c (a, oe) := ⟨⟨rfl, vs, evs, hz.2.2 vs evs⟩, List.mem_cons_self, ⟨C, c1, c2, hz.zc, vs, evs⟩⟩
    have ckh : CokH (X.suite a ((a, oe) :: pn)) EN j := ⟨(L2H.RoomH.mono ⟨ck.room.dp, ck.room.un⟩ hj), fun σ pins H s e s' I z => by
      obtain ⟨_, _, _, _, _, _, _, _, _, _, _, _, q⟩ := z
      exact q.elim⟩
    obtain ⟨v1, v2⟩ := hv a c d h2
    have call : FE (X.suite a ((a, oe) :: pn)) EN (.Call (.Name f p1) [.Name n p2] [] p3) (eCall (run a c) ps.length none (aCons (eVar i) aNil)) :=
      fe_callH (X := X.suite a ((a, oe) :: pn)) K0 ckh hx hgf hm hk hbd (fa_cons (fe_var (hp a oe pn)) fa_nil) hdf
    refine ⟨_, fs_one (fs_ret call), ?_⟩
    have hl : i < X.N.length := by
      by_cases hl : i < X.N.length
      · exact hl
      · rw [List.getElem?_eq_none (by omega)] at hi; cases hi
    have sl : ((List.replicate X.N.length (none : Option Sl)).set i (some (.ex a c)))[i]? = some (some (.ex a c)) := List.getElem?_set_self (by rw [List.length_replicate]; exact hl)
    cases q : run a c [.ex a c] with
    | bad => rw [q] at v1; cases v1
    | exc e => rw [q] at v1; cases v1
    | ok d' outs =>
      rw [q] at v1
      have e : d' = d := by cases v1; rfl
      subst e
      refine ⟨(List.replicate X.N.length (none : Option Sl)).set i (some (.ex a c)), ?_⟩
      have e1 : eOp (eVar i) ((List.replicate X.N.length (none : Option Sl)).set i (some (.ex a c))) = .ok (.sl i, (List.replicate X.N.length (none : Option Sl)).set i (some (.ex a c))) := by
        unfold eOp eVar
        rw [sl]
        rfl
      unfold sRet eCall aCons
      rw [e1]
      simp only [Rs.bind_ok, aNil, hps, List.length_cons, List.length_nil]
      rw [if_pos ⟨trivial, rfl⟩]
      have e2 : mkArgs ((List.replicate X.N.length (none : Option Sl)).set i (some (.ex a c))) [.sl i] none = some [.ex a c] := by
        unfold mkArgs argSl
        simp only [sl, mkArgs, Option.bind, Option.map]
      rw [e2]
      simp only [q, ioBack, v2, if_true]
      rfl
end FL

/-! FI: displays of dicts of plain things. -/
namespace FL
open PySem PySem.Spec L2
section
variable {X : Cx} {E : WX} {pos : Pos}
theorem post_dic {K : Frag} {mg : Str → Option Value} {G : Hp} {pn : List (Nat × Addr)} {Γ : Ga} {σ : St} {F H : Hp} {Q : VK} {kvs : List (Key × V)} {ds : List (D × D)} {p : Addr} (R : Rep K G pn Γ σ F H) (h : PostE K mg E G pn σ F Q (.ok (.d (.dict ds), Γ))) (r : DkD kvs ds) (hp : H p = none) : Q (.ref p) (upd H p (.dK kvs)) :=
  h _ _ _ (R.advNew hp) (R.newF hp) (.dic upd_same r)
theorem fe_dic0 : FE X E (.Dict [] [] pos) (eC (.dict [])) := pe_imp pe_dnewK fun σ H Q ⟨G, pn, F, Γ, R, h⟩ p hp => post_dic R h rfl hp
theorem fe_dic1 {k v : Expr} {key : Key} {i : Int} (hk : PE X k (tC (kV key))) (hv : PE X v (tC (.int i))) : FE X E (.Dict [some k] [v] pos) (eC (.dict [(keyD key, .int i)])) :=
  pe_imp (pe_disp (pps_cons hk hv pps_nil) rfl rfl (by simp) (by show 1 ≤ 15; decide)) fun σ H Q ⟨G, pn, F, Γ, R, h⟩ p hp => by
    refine ⟨upd_same, [(key, .int i)], rfl, by show 1 ≤ 15; decide, ?_⟩
    have e : mergeK [] [(key, V.int i)] = [(key, .int i)] := rfl
    have e2 : upd (upd H p (.dK [])) p (.dK [(key, V.int i)]) = upd H p (.dK [(key, .int i)]) := upd_upd
    first
    | (rw [e, e2]; exact post_dic R h rfl hp)
    | (show Q _ (upd (upd H p (.dK [])) p (.dK (mergeK [] [(key, V.int i)]))); rw [e, e2]; exact post_dic R h rfl hp)
end
end FL

/-! FJ: a list comprehension while an error is handled. -/
namespace FL
open PySem PySem.Spec L2
open L2H (HotC PIH)
/-- the block's context, the handled error still pinned -/
abbrev hbC (X : Cx) (s : Shared) (H : Hp) (scope : Scope) (cenv : Env) (fp : List Addr) : Cx := { X.blk s H scope cenv fp with pn := X.pn }
section
variable {X : Cx} {pins : List (Addr × Obj)} {σ : St} {H : Hp} {s : Shared}
theorem hb_start {scope : Scope} {own : List (Str × Nat)} {fp : List Addr} (hst : X.stack = X.env :: X.outer) (hfr : X.env.frame = some X.env.locals) (I : Inv X pins σ H s) (ok : BlkOk X.N X.env.scope scope own) (hN : X.N.Nodup)
    (hfp : ∀ b ∈ fp, FpOk X pins H b ∧ b < s.heap.objs.size) :
    Inv (hbC X s H scope (compEnvC scope (cellsFrom (s.heap.objs.size + 1) scope.names (cloFrom X.env.cells scope.names [])) s.heap.objs.size X.env) fp) [] (L2.wipe σ (own.map (·.2))) H { s with heap := pushCells (s.heap.push { cls := .type "dict", data := .dict #[] }) scope.names } := by
  have J := block_start I ok hN hfp
  have k := J.ok
  refine ⟨⟨k.mod, k.kind, k.glob, k.blt, k.above, k.inj, k.has, k.cab, k.hd, k.frames, k.stk, k.exf, k.bs, k.bsz, k.noex, k.exfs, k.funs, k.frf⟩, J.os, J.bare, J.base, J.loc, J.cell, J.free, J.freeC, fun p hp => ?_, J.hok, J.len⟩
  have hp' : p ∈ X.pn := by
    rcases List.mem_append.mp hp with z | z
    · exact z
    · cases z
  obtain ⟨g1, g2, g3, g4, g5⟩ := I.pin p (List.mem_append_left _ hp')
  refine ⟨pushCells_keeps _ _ _ _ (Heap.get?_push_of_some _ g1), g2, Nat.ne_of_lt (Heap.lt_size g1), ?_, g5⟩
  show p.1 ∉ frs X.stack
  rw [hst]
  intro z
  unfold frs at z
  rw [List.filterMap_cons, hfr] at z
  rcases List.mem_cons.mp z with z | z
  · exact g3 z
  · exact g4 z
end
/-- one turn of the block, and its end -/
theorem hb_lc {X : Cx} {elt tg iter : Expr} {ifs : List Expr} {scope : Scope} {own : List (Str × Nat)} {pos : Pos} {wi : TI} {g : TG} {tt : TT} {te : TE}
    (hst : X.stack = X.env :: X.outer) (hfr : X.env.frame = some X.env.locals) (hot : HotC X) (hN : X.N.Nodup) (hi : PIH X tg iter wi) (ok : BlkOk X.N X.env.scope scope own)
    (hg : ∀ s H C cl fp, PG (hbC X s H scope (compEnvC scope cl C X.env) fp) tg g) (ht : ∀ s H C cl fp, PTs (hbC X s H scope (compEnvC scope cl C X.env) fp) ifs tt)
    (he : ∀ s H C cl fp, PE (hbC X s H scope (compEnvC scope cl C X.env) fp) elt te) (hs : ∀ x, foldedSetIterable iter X.env x = pure x := by intro _; rfl) :
    PE X (.ListComp elt [⟨tg, iter, ifs, 0⟩] scope pos) (tLc wi g tt te (own.map (·.2))) := by
  refine ⟨fun pins s σ H Q I want => ?_⟩
  rw [eval_ListComp]
  have free : ∀ y ∈ scope.names, y.2 = .free → ∃ c, X.env.cells.lookup y.1 = some c := fun y hy e => (ok.free y hy e).elim (fun k => I.ok.has _ (.inl k)) fun k => I.ok.has _ (.inr k)
  refine wpAny_comprehension_free rfl hs (closure_ok free) ok.kind (fun y hy e => by rw [ok.uniq y hy, e]) (thn (hi.run pins s σ H _ I want) fun _ _ p => thn p fun _ sa pa => ?_)
  obtain ⟨it, fp, tn, J, Ha, rfl, Ia, T, sta, fa, q⟩ := pa
  refine wpAny_newObj_type (newEnv_comp ?_) (by show 0 ≤ sizeLine; decide)
  -- the list that is made
  obtain ⟨D, hD⟩ : ∃ D, D = sa.heap.objs.size := ⟨_, rfl⟩
  obtain ⟨W, ⟨k0, w0⟩, turn⟩ := q D (Ia.hok.fresh (Nat.le_of_eq hD.symm))
  obtain ⟨sb, hsb⟩ : ∃ sb : Shared, sb = { sa with heap := sa.heap.push { cls := .type "list", data := .seq ([] : List Value).toArray } } := ⟨_, rfl⟩
  obtain ⟨Hb, hHb⟩ : ∃ Hb : Hp, Hb = upd Ha D (.lst []) := ⟨_, rfl⟩
  have keepb : ∀ b o, sa.heap.get? b = some o → sb.heap.get? b = some o := fun b o e => by rw [hsb]; exact Heap.get?_push_of_some _ e
  have Ib : Inv X pins σ Hb sb := by
    rw [hHb, hsb]
    exact Ia.laid (t' := sa.toks) (fun b o e => Heap.get?_push_of_some _ e) (Nat.le_of_eq hD.symm) ⟨Nat.zero_le _, [], 0, .nil, by rw [hD]; exact Heap.get?_push_size _ rfl⟩
  have fb : ∀ b ∈ fp, FpOk X pins Hb b ∧ b < sb.heap.objs.size := fun b hb => by
    obtain ⟨o, eo, _⟩ := T.obj _ _ sta b hb
    refine ⟨⟨?_, (fa b hb).2⟩, Heap.lt_size (keepb b o eo)⟩
    rw [hHb, upd_ne (by rw [hD]; exact Nat.ne_of_lt (Heap.lt_size eo))]
    exact (fa b hb).1
  have stb : tn 0 sb.heap := T.keep _ _ _ sta fun b _ o e => keepb b o e
  obtain ⟨C, hC⟩ : ∃ C, C = sb.heap.objs.size := ⟨_, rfl⟩
  obtain ⟨cl, hcl⟩ : ∃ cl, cl = cellsFrom (C + 1) scope.names (cloFrom X.env.cells scope.names []) := ⟨_, rfl⟩
  obtain ⟨sc, hsc⟩ : ∃ sc : Shared, sc = { sb with heap := pushCells (sb.heap.push { cls := .type "dict", data := .dict #[] }) scope.names } := ⟨_, rfl⟩
  have Ic : Inv (hbC X sb Hb scope (compEnvC scope cl C X.env) fp) [] (L2.wipe σ (own.map (·.2))) Hb sc := by
    rw [hsc, hcl, hC]
    exact hb_start hst hfr Ib ok hN fb
  have stc : tn 0 sc.heap := T.keep _ _ _ stb fun b _ o e => by rw [hsc]; exact pushCells_keeps _ _ _ _ (Heap.get?_push_of_some _ e)
  rw [← hHb] at w0
  have post : ∀ sz Hz, Inv (hbC X sb Hb scope (compEnvC scope cl C X.env) fp) [] (L2.wipe σ (own.map (·.2))) Hz sz → Q (.ref D) Hz → compPost (model X.prog X.w) X.A X.xe none (fun v s' => ∃ x H', Inv X pins σ H' s' ∧ RelV x v ∧ Q x H') (.ref D) C (.ok .next) sz := fun sz Hz Iz qz => by
    have back : Inv X pins σ Hz sz := Ib.call' (ch := fp) Iz.os Iz.base Iz.hok Iz.bare fun b hb => by
      obtain ⟨⟨_, z1, _, z3, z4, z5⟩, _⟩ := fb b hb
      exact ⟨z3, z1, z4, z5⟩
    obtain ⟨m, hn, _⟩ := Iz.loc
    obtain ⟨_, y1, _, y3, y4, y5⟩ := Ib.fpOk (Nat.le_of_eq hC.symm) (show Hz C = none from Iz.free)
    refine ⟨m, hn, fun h2 same => ⟨.ref D, Hz, ?_, rfl, qz⟩⟩
    exact back.turned (t' := sz.toks) (fun b o hb e => (same.2 b hb).trans e) Iz.free y1 y3 y4 y5
  have fp_ok : ∀ {σ' : St} {H' : Hp} {s' : Shared}, Inv (hbC X sb Hb scope (compEnvC scope cl C X.env) fp) [] σ' H' s' → (∀ b ∈ fp, H' b = none) → ∀ b ∈ fp, FpOk (hbC X sb Hb scope (compEnvC scope cl C X.env) fp) [] H' b := fun {σ' H' s'} I' no b hb => by
    refine ⟨no b hb, (I'.ok.exf b hb).1, I'.ok.exfs b hb, .inl hb, fun x c e => (I'.ok.exf b hb).2 x c e, fun p hp => ?_⟩
    exact (fb b hb).1.2.2.2.2.2 p (List.mem_append_left _ ((List.mem_append.mp hp).elim id fun z => by cases z))
  have hotb : HotC (hbC X sb Hb scope (compEnvC scope cl C X.env) fp) := hot
  have loop : codeAny (model X.prog X.w) X.A (.compLoop (.ListComp elt [⟨tg, iter, ifs, 0⟩] scope pos) 0 (.ref it) (.ref D) (compEnvC scope cl C X.env)) (compPost (model X.prog X.w) X.A X.xe none (fun v s' => ∃ x H', Inv X pins σ H' s' ∧ RelV x v ∧ Q x H') (.ref D) C) sc := by
    refine compLoop_any (fun k z => ∃ i Hz, Inv (hbC X sb Hb scope (compEnvC scope cl C X.env) fp) [] (L2.wipe σ (own.map (·.2))) Hz z ∧ tn i z.heap ∧ (∀ b ∈ fp, Hz b = none) ∧ W i k Hz) (fun k z ⟨i, Hz, Iz, stz, nz, wz⟩ => ?_) k0 ⟨0, Hb, Ic, stc, fun b hb => (fb b hb).1.1, w0⟩
    rcases turn i k Hz wz with ⟨stop, fin⟩ | ⟨go, Nx, less, step⟩
    · exact thnF (T.done (hbC X sb Hb scope (compEnvC scope cl C X.env) fp) rfl rfl rfl hotb i [] z _ Hz (fun _ _ => False) Iz (fp_ok Iz nz) stz stop) fun r z2 ⟨er, Iy⟩ => by rw [er]; exact post z2 Hz Iy fin
    · refine thnF (T.item (hbC X sb Hb scope (compEnvC scope cl C X.env) fp) rfl rfl rfl hotb i [] z _ Hz (fun _ _ => False) Iz (fp_ok Iz nz) stz go) fun r z2 ⟨u, er, more⟩ => ?_
      rw [er]
      refine thnF more fun _ z3 ⟨x, H3, I3, r3, y3, st3, n3⟩ => ?_
      have I3p := I3.pinned (fp_ok I3 n3) (T.obj _ _ st3)
      have ends : ∀ {σe : St} {He : Hp} {ze : Shared}, L2.wipe σe (own.map (·.2)) = L2.wipe σ (own.map (·.2)) → Inv (hbC X sb Hb scope (compEnvC scope cl C X.env) fp) ([] ++ pinsAt fp z3.heap) σe He ze → Nx He → ∃ j, j < k ∧ ∃ i Hz, Inv (hbC X sb Hb scope (compEnvC scope cl C X.env) fp) [] (L2.wipe σ (own.map (·.2))) Hz ze ∧ tn i ze.heap ∧ (∀ b ∈ fp, Hz b = none) ∧ W i j Hz := fun {σe He ze} hw Ie nx => by
        obtain ⟨j, hj, wj⟩ := less He nx
        have there : ∀ b ∈ fp, ∀ o, z3.heap.get? b = some o → ze.heap.get? b = some o ∧ He b = none := fun b hb o e => by
          obtain ⟨a1, a2, _⟩ := Ie.pin (b, o) (List.mem_append_right _ (List.mem_append_right _ (mem_pinsAt hb e)))
          exact ⟨a1, a2⟩
        refine ⟨j, hj, i + 1, He, ?_, T.keep _ _ _ st3 fun b hb o e => (there b hb o e).1, fun b hb => ?_, wj⟩
        · exact (Ie.unpinned (pins := [])).weak (by rw [← hw, wipe_length]) fun y v e => (wipe_some (by rw [hw]; exact e)).1
        · obtain ⟨o, e, _⟩ := T.obj _ _ st3 b hb
          exact (there b hb o e).2
      refine thnF ((hg sb Hb C cl fp).run _ z3 _ H3 x u _ I3p r3 (step x H3 y3)) fun _ z4 ⟨σ4, H4, I4, q4⟩ => thnF ((ht sb Hb C cl fp).run _ z4 σ4 H4 _ I4 q4.2) fun yes z5 ⟨H5, I5, q5⟩ => ?_
      cases yes with
      | false => exact ends q4.1 I5 q5
      | true => exact thnF ((he sb Hb C cl fp).run _ z5 σ4 H5 _ I5 q5) fun y z6 ⟨yv, H6, I6, r6, acc, a1, a2, nx⟩ => app_ok (X := hbC X sb Hb scope (compEnvC scope cl C X.env) fp) I6 a1 a2 r6 fun z7 I7 => ends q4.1 I7 nx
  subst hsc hcl hC hHb hsb hD
  exact codeAny_compStart_list loop (T.self X.A 0 _ _ _ stc loop)
section
variable {X : Cx} {E : WX} {c0 : Str} {p0 : Addr × Obj} {k : Nat}
theorem HotX.hc (hx : HotX X c0 p0) : HotC X := ⟨p0, hx.hot, hx.pin⟩
theorem hx_blk {s : Shared} {H : Hp} {scope : Scope} {cenv : Env} {fp : List Addr} (hx : HotX X c0 p0) : HotX (hbC X s H scope cenv fp) c0 p0 := ⟨hx.hot, hx.pin, hx.kn⟩
theorem cokH_blk {s : Shared} {H : Hp} {scope : Scope} {cenv : Env} {fp : List Addr} (c : CokH X E k) : CokH (hbC X s H scope cenv fp) EN k := ⟨c.room, fun σ pins H s e s' I z => by
  obtain ⟨_, _, _, _, _, _, _, _, _, _, _, _, q⟩ := z
  exact q.elim⟩
abbrev FIH (X : Cx) (E : WX) (tg e : Expr) (f : FnI) : Prop := PIH X tg e (tI X.K X.mg E f)
theorem fih_range1 {tg a : Expr} {fa : FnA} {p pos : Pos} (hg : Gl X "range") (hm : X.mg "range" = none) (ha : FA X E [a] fa) (hs : starEach [a] X.env = [(false, eval a X.env)] := by rfl) : FIH X E tg (.Call (.Name "range" p) [a] [] pos) (iR1 fa) := by
  have g := L2H.pi_range1H (tg := tg) (p := p) (pos := pos) hg hm ha hs
  refine ⟨fun pins s σ H R I q => g.run pins s σ H R I ?_⟩
  exact key_r1 σ H R q
theorem fe_lcH {elt tg iter : Expr} {ifs : List Expr} {scope : Scope} {own : List (Str × Nat)} {vs : List Nat} {pos : Pos} {fi : FnI} {g : FnG} {t : FnT} {f : FnE}
    (hst : X.stack = X.env :: X.outer) (hfr : X.env.frame = some X.env.locals) (hx : HotX X c0 p0) (hN : X.N.Nodup) (hi : FIH X E tg iter fi) (ok : BlkOk X.N X.env.scope scope own) (ev : own.map (·.2) = vs)
    (hg : ∀ s H C cl fp, FGv (hbC X s H scope (compEnvC scope cl C X.env) fp) vs tg g) (ht : ∀ s H C cl fp, FTs (hbC X s H scope (compEnvC scope cl C X.env) fp) EN ifs t)
    (he : ∀ s H C cl fp, FE (hbC X s H scope (compEnvC scope cl C X.env) fp) EN elt f) (hs : ∀ x, foldedSetIterable iter X.env x = pure x := by intro _; rfl) : FE X E (.ListComp elt [⟨tg, iter, ifs, 0⟩] scope pos) (eLc fi vs g t f) := by
  subst ev
  exact pe_imp (hb_lc hst hfr hx.hc hN hi ok hg ht he hs) key_lc
end
/-- try: .. except X as e: return .. -/
theorem fs_tryG {X : Cx} {E : WX} {x n : Str} {i k : Nat} {body : List Stmt} {np pos pos' p4 : Pos} {fb : FnS} {th : List (Str × D)} {cs : List Str} {eh : Expr} {fhd : Addr → Str → FnE}
    (hs : X.stack = X.env :: X.outer) (hf : X.env.frame = some X.env.locals) (hN : X.N.Nodup) (hi : X.N[i]? = some n) (hln : X.env.kindOf n = some .local ∨ (X.env.kindOf n = some .cell ∧ X.fn n = true)) (hg : Gl X x) (er : ErrT X.K X.mg x cs) (ck : Cok X E k) (tk : L2N.Takes X E)
    (hb : ∀ (W : WX) (pn : List (Addr × Obj)) (xe : Value → Shared → Prop), L2N.Takes (X.tr pn xe) W → PassesOwn (model X.prog X.w) X.A X.env xe → FSs (X.tr pn xe) W body fb)
    (he : ∀ (a : Addr) (c : Str) (oe : Obj) (pn : List (Addr × Obj)), HotX (X.suite a ((a, oe) :: pn)) c (a, oe) → CokH (X.suite a ((a, oe) :: pn)) EN k → FE (X.suite a ((a, oe) :: pn)) EN eh (fhd a c))
    (hv : ∀ (a : Addr) (c : Str) (d : D), th.lookup c = some d → ∃ Γ', sRet (fhd a c) ((List.replicate X.N.length none).set i (some (.ex a c))) = .ret d Γ') (hc : (th.all fun p => cs.contains p.1) = true)
    (hdb : (x == ("__debug__" : Str)) = false := by decide) :
    FS X E (.Try body [.ExceptHandler (some (.Name x np)) (some n) [.Return (some eh) p4] pos'] [] [] pos) (sTry X.N.length fb (tabH th)) := by
  obtain ⟨S, hS, hcs⟩ := er.ex
  have isin : ∀ {c : Str} {d : D}, th.lookup c = some d → c ∈ cs := fun {c d} h => by
    have := List.all_eq_true.mp hc _ (lookup_mem h)
    simpa using this
  refine fs_try (m := X.N.length) hs hf hN hi hln hg hS tk hb (fun e d h => ?_) (fun c d h a oe D pn hD hz hfd => ?_) hdb
  · obtain ⟨h1, h2⟩ := tabH_at h
    obtain ⟨C, c1, c2, c3⟩ := hcs _ (isin h2)
    exact ⟨h1, fun D hD => by rw [c1] at hD; cases hD; exact c3⟩
  · have h2 := (tabH_at h).2
    obtain ⟨C, c1, c2, c3⟩ := hcs _ (isin h2)
    obtain rfl : C = D := by rw [c1] at hD; cases hD; rfl
    obtain ⟨vs, evs⟩ := hfd
    have hx : HotX (X.suite a ((a, oe) :: pn)) c (a, oe) := ⟨⟨rfl, vs, evs, hz.2.2 vs evs⟩, List.mem_cons_self, ⟨C, c1, c2, hz.zc, vs, evs⟩⟩
    have ckh : CokH (X.suite a ((a, oe) :: pn)) EN k := ⟨⟨ck.room.dp, ck.room.un⟩, fun σ pins H s e s' I z => by
      obtain ⟨_, _, _, _, _, _, _, _, _, _, _, _, q⟩ := z
      exact q.elim⟩
    exact ⟨_, fs_one (fs_ret (he a c oe pn hx ckh)), hv a c d h2⟩
/-- a call that hands on the handled error, with further arguments -/
theorem fe_callHC {X : Cx} {E : WX} {j k n : Nat} {x : Str} {run : Addr → Str → FnR} {c0 : Str} {p0 : Addr × Obj} {p pos : Pos} {e : Expr} {es : List Expr} {fa : FnA} (F : ClbH X.prog X.w X.K X.mg X.base j x n run) (c : CokH X E k) (hj : j ≤ k) (hx : HotX X c0 p0) (hg : Gl X x) (ha : FA X E (e :: es) fa)
    (hdb : (x == ("__debug__" : Str)) = false := by decide) (he : starEach (e :: es) X.env = (false, eval e X.env) :: starEach es X.env := by rfl) (hpl : (backTo pos (starEach es X.env)).any (·.1) = false := by rfl) :
    FE X E (.Call (.Name x p) (e :: es) [] pos) (eCall (run p0.1 c0) n none fa) := by
  obtain ⟨f, fd, ps, K0, hm, hk, hb, rfl⟩ := F.ex
  exact fe_callH K0 ⟨L2H.RoomH.mono c.room hj, c.pass⟩ hx hg hm hk hb ha hdb he hpl
end FL

/-! FY: more readings: a list told frozen. -/
namespace FL
open PySem PySem.Spec L2
theorem fe_op {X : Cx} {E : WX} {e : Expr} {f : FnE} (h : FE X E e f) : FE X E e (eOp f) := pe_imp h tE_op
/-- a name's list, frozen as it is read -/
def eFrV (i : Nat) : FnE := fun Γ => match rvFz Γ (.sl i) with
  | some p => .ok (.d p.1, p.2)
  | none => .bad
theorem fe_frV {X : Cx} {E : WX} {e : Expr} {i : Nat} (h : PE X e (tVar i)) : FE X E e (eFrV i) := pe_imp h fun σ H Q ⟨G, pn, F, Γ, R, q⟩ => by
  unfold eFrV at q
  cases e1 : rvFz Γ (.sl i) with
  | none => simp only [e1] at q; exact q.elim
  | some p =>
    simp only [e1] at q
    have hs : ∃ s, Γ[i]? = some (some s) := by
      cases g : Γ[i]? with
      | none => unfold rvFz at e1; simp [g] at e1
      | some o =>
        cases o with
        | none => unfold rvFz at e1; simp [g] at e1
        | some s => exact ⟨s, rfl⟩
    obtain ⟨s, hs⟩ := hs
    obtain ⟨v, hv, _⟩ := R.sl i s hs
    obtain ⟨F', A, R', rp⟩ := rvFz_ok R (.inr ⟨i, rfl, hv⟩) e1
    exact ⟨v, hv, q v F' H A R' rp⟩
/-- is, is not, of truths -/
def isBD (x y : D) : Option Bool := match x, y with
  | .bool a, .bool b => some (decide (a = b))
  | _, _ => none
def isNotBD (x y : D) : Option Bool := match x, y with
  | .bool a, .bool b => some (!decide (a = b))
  | _, _ => none
theorem cf_isB {X : Cx} : CmpF X .Is isBD rIsB := ⟨op_isBl, fun K eK H x y d e z Q h1 h2 f q => by
  unfold isBD at f
  split at f
  · cases f
    exact ⟨_, _, dp_bl h1, dp_bl h2, q⟩
  · cases f⟩
theorem cf_isNotB {X : Cx} : CmpF X .IsNot isNotBD rNotB := ⟨op_notBl, fun K eK H x y d e z Q h1 h2 f q => by
  unfold isNotBD at f
  split at f
  · cases f
    exact ⟨_, _, dp_bl h1, dp_bl h2, q⟩
  · cases f⟩
end FL

/-! FU3: loops and built-ins evaluated. -/
namespace FL
open PySem PySem.Spec L2

def itK (Γ : Ga) : Option (List D × Option Nat) → Rs (List D × Option Nat × Ga)
  | some (xs, lk) => .ok (xs, lk, Γ)
  | none => .bad
def itemK (i : Nat) : Option (Option Sl) → Option (List D × Option Nat)
  | some (some (.ow xs)) => some (xs, some i)
  | some (some (.lk xs)) => some (xs, none)
  | some (some (.scr ns)) => some (ns.map .int, none)
  | _ => none
def anyK2 (r : RV) (Γ : Ga) : Option D → Rs (List D × Option Nat × Ga)
  | some (.tuple xs) => .ok (xs, none, Γ)
  | _ => itK Γ (itemsL r Γ)
def iAnyK : RV × Ga → Rs (List D × Option Nat × Ga) | (r, Γ) => anyK2 r Γ (r.get Γ)
def enuK2 (r : RV) (Γ : Ga) : Option D → Rs (List D × Option Nat × Ga)
  | some (.tuple xs) => .ok (enuD 0 xs, none, Γ)
  | _ => itK Γ ((itemsL r Γ).map fun p => (enuD 0 p.1, p.2))
def enuK : List RV × Ga → Rs (List D × Option Nat × Ga)
  | ([r], Γ) => enuK2 r Γ (r.get Γ)
  | _ => .bad
def rgK1 (j : Int) (Γ : Ga) : Bool → Rs (List D × Option Nat × Ga)
  | true => .ok (rgs 0 j.toNat, none, Γ)
  | false => .bad
def r1K : List RV × Ga → Rs (List D × Option Nat × Ga)
  | ([.d (.int j)], Γ) => rgK1 j Γ (rgOk j)
  | _ => .bad
def rgK2 (i j : Int) (Γ : Ga) : Bool → Rs (List D × Option Nat × Ga)
  | true => .ok (rgs i (j - i).toNat, none, Γ)
  | false => .bad
def r2K : List RV × Ga → Rs (List D × Option Nat × Ga)
  | ([.d (.int i), .d (.int j)], Γ) => rgK2 i j Γ (rgOk i && rgOk j)
  | _ => .bad
def forK (g : FnG) (b : FnS) : List D × Option Nat × Ga → SR
  | (xs, none, Γ) => loopF g b xs Γ
  | (xs, some i, Γ) => unl i (loopF g b xs (shut i Γ))
def loopK (g : FnG) (b : FnS) (xs : List D) : SR → SR
  | .nx Γ2 => loopF g b xs Γ2
  | .ct Γ2 => loopF g b xs Γ2
  | .bk Γ2 => .nx Γ2
  | .ret d Γ2 => .ret d Γ2
  | .exc e => .exc e
  | .bad => .bad
def loopK1 (g : FnG) (b : FnS) (xs : List D) : Option Ga → SR
  | some Γ => loopK g b xs (b Γ)
  | none => .bad
section
variable {Γ : Ga} {f : FnE} {ga : FnA} {i : Nat} {g : FnG} {b : FnS} {r : RV}
@[simp] theorem items_sl : itemsL (.sl i) Γ = itemK i Γ[i]? := by
  show (match Γ[i]? with
    | some (some (.ow xs)) => some (xs, some i)
    | some (some (.lk xs)) => some (xs, none)
    | some (some (.scr ns)) => some (ns.map PyData.int, none)
    | _ => none) = _
  rcases Γ[i]? with _ | _ | s
  · rfl
  · rfl
  · cases s <;> rfl
@[simp] theorem items_l {xs : List D} : itemsL (.d (.list xs)) Γ = some (xs, none) := rfl
@[simp] theorem items_ow {xs : List D} : itemsL (.ow xs) Γ = some (xs, none) := rfl
@[simp] theorem iAny_ap : iAny f Γ = (eOp f Γ).bind iAnyK := by
  unfold iAny
  rcases eOp f Γ with ⟨r, Γ1⟩ | _ | _
  · simp only [Rs.bind_ok]
    dsimp only [iAnyK]
    have e : (match itemsL r Γ1 with | some (xs, lk) => Rs.ok (xs, lk, Γ1) | none => .bad) = itK Γ1 (itemsL r Γ1) := by rcases itemsL r Γ1 with _ | ⟨xs, lk⟩ <;> rfl
    rcases r.get Γ1 with _ | x
    · exact e
    · cases x <;> first | exact e | rfl
  · rfl
  · rfl
@[simp] theorem iEnu_ap : iEnu ga Γ = (ga Γ).bind enuK := by
  unfold iEnu
  rcases ga Γ with ⟨rs, Γ1⟩ | _ | _
  · simp only [Rs.bind_ok]
    rcases rs with _ | ⟨r, _ | ⟨r2, rs⟩⟩
    · rfl
    · dsimp only [enuK]
      have e : (match itemsL r Γ1 with | some (xs, lk) => Rs.ok (enuD 0 xs, lk, Γ1) | none => .bad) = itK Γ1 ((itemsL r Γ1).map fun p => (enuD 0 p.1, p.2)) := by rcases itemsL r Γ1 with _ | ⟨xs, lk⟩ <;> rfl
      rcases r.get Γ1 with _ | x
      · exact e
      · cases x <;> first | exact e | rfl
    · rfl
  · rfl
  · rfl
@[simp] theorem iR1_ap : iR1 ga Γ = (ga Γ).bind r1K := by
  unfold iR1
  rcases ga Γ with ⟨rs, Γ1⟩ | _ | _
  · simp only [Rs.bind_ok]
    rcases rs with _ | ⟨r, _ | ⟨r2, rs⟩⟩
    · rfl
    · cases r with
      | d x =>
        cases x with
        | int j =>
          dsimp only [r1K]
          cases rgOk j <;> rfl
        | _ => rfl
      | _ => rfl
    · cases r with
      | d x => cases x <;> rfl
      | _ => rfl
  · rfl
  · rfl
@[simp] theorem sFor_ap {fi : FnI} : sFor fi g b Γ = (fi Γ).toS (forK g b) := by
  unfold sFor
  rcases fi Γ with ⟨xs, _ | i, Γ1⟩ | _ | _ <;> rfl
theorem loop_nil : loopF g b [] Γ = .nx Γ := rfl
theorem loop_cons {x : D} {xs : List D} : loopF g b (x :: xs) Γ = loopK1 g b xs (g (.d x) Γ) := by
  show (match g (.d x) Γ with | none => SR.bad | some Γ1 => _) = _
  cases g (.d x) Γ with
  | none => rfl
  | some Γ1 =>
    dsimp only [loopK1]
    cases b Γ1 <;> rfl
/-- a loop that runs to its end -/
theorem loop_all (P : List D → Ga → Prop) (step : ∀ x xs Γ, P (x :: xs) Γ → ∃ Γ1 Γ2, g (.d x) Γ = some Γ1 ∧ b Γ1 = .nx Γ2 ∧ P xs Γ2) : ∀ xs Γ, P xs Γ → ∃ Γ', loopF g b xs Γ = .nx Γ' ∧ P [] Γ'
  | [], Γ, h => ⟨Γ, rfl, h⟩
  | x :: xs, Γ, h => by
    obtain ⟨Γ1, Γ2, e1, e2, h2⟩ := step x xs Γ h
    obtain ⟨Γ', e3, h3⟩ := loop_all P step xs Γ2 h2
    exact ⟨Γ', by rw [loop_cons, e1]; dsimp only [loopK1]; rw [e2]; exact e3, h3⟩
/-- .. by the number of turns -/
theorem loop_range (P : Nat → Ga → Prop) {xs : List D} (step : ∀ i x Γ, xs[i]? = some x → P i Γ → ∃ Γ1 Γ2, g (.d x) Γ = some Γ1 ∧ b Γ1 = .nx Γ2 ∧ P (i + 1) Γ2) {Γ : Ga} (h0 : P 0 Γ) : ∃ Γ', loopF g b xs Γ = .nx Γ' ∧ P xs.length Γ' := by
  obtain ⟨Γ', e, i, hi, hp⟩ := loop_all (g := g) (b := b) (fun ys Γ => ∃ i, xs.drop i = ys ∧ i + ys.length = xs.length ∧ P i Γ) (fun x ys Γ ⟨i, e, l, p⟩ => by
    have hx : xs[i]? = some x := by
      have : (xs.drop i)[0]? = some x := by rw [e]; rfl
      simpa using this
    obtain ⟨Γ1, Γ2, e1, e2, p2⟩ := step i x Γ hx p
    refine ⟨Γ1, Γ2, e1, e2, i + 1, ?_, ?_, p2⟩
    · rw [← List.drop_drop, e]; rfl
    · rw [List.length_cons] at l; omega) xs Γ ⟨0, rfl, by simp, h0⟩
  refine ⟨Γ', e, ?_⟩
  have : i = xs.length := by simpa using hp.1
  rw [← this]
  exact hp.2
end
theorem fdivOk_of {j : Int} (h : 0 < j) (h2 : j < 2 ^ 64) : fdivOk j = true := by
  unfold fdivOk
  rw [Bool.and_eq_true, decide_eq_true_eq, decide_eq_true_eq]
  refine ⟨h, ?_⟩
  have : j.natAbs < 2 ^ 64 := by omega
  have h3 : j.natAbs ≠ 0 := by omega
  have := (Nat.log2_lt h3).mpr this
  omega
theorem log2_of {i : Int} {n : Nat} (h : i.natAbs < 2 ^ (n + 1)) : i.natAbs.log2 ≤ n := by
  by_cases z : i.natAbs = 0
  · rw [z]; simp
  · have := (Nat.log2_lt z).mpr h
    omega
/-- numbers of at most so many bits -/
def bits (n : Nat) (i : Int) : Prop := i.natAbs < 2 ^ n
theorem bits.up {n m : Nat} {i : Int} (h : bits n i) (l : n ≤ m) : bits m i := Nat.lt_of_lt_of_le h (Nat.pow_le_pow_right (by decide) l)
theorem bits.mul {n m : Nat} {i j : Int} (h : bits n i) (q : bits m j) : bits (n + m) (i * j) := by
  unfold bits at *
  rw [Int.natAbs_mul, Nat.pow_add]
  exact Nat.mul_lt_mul'' h q
theorem bits.add {n : Nat} {i j : Int} (h : bits n i) (q : bits n j) : bits (n + 1) (i + j) := by
  unfold bits at *
  have := Int.natAbs_add_le i j
  rw [Nat.pow_succ]
  omega
theorem mulOk_of {n m : Nat} {i j : Int} (h : bits n i) (q : bits m j) (l : n + m ≤ 1000000) : mulOk i j = true := by
  unfold mulOk
  rw [decide_eq_true_eq]
  have a : i.natAbs.log2 < n ∨ i.natAbs.log2 = 0 := by
    by_cases z : i.natAbs = 0
    · right; rw [z]; simp
    · left; exact (Nat.log2_lt z).mpr h
  have b : j.natAbs.log2 < m ∨ j.natAbs.log2 = 0 := by
    by_cases z : j.natAbs = 0
    · right; rw [z]; simp
    · left; exact (Nat.log2_lt z).mpr q
  omega
/-- small numbers: 500 bits each way -/
theorem mulOk_sm {i j : Int} (h : bits 400000 i) (q : bits 400000 j) : mulOk i j = true := mulOk_of h q (by decide)
theorem bits_mod {i m : Int} {n : Nat} (h : 0 < m) (q : bits n m) : bits n (i % m) := by
  unfold bits at *
  have a := Int.emod_nonneg i (Int.ne_of_gt h)
  have b := Int.emod_lt_of_pos i h
  omega
theorem rgs_get {lo : Int} {n i : Nat} (h : i < n) : (rgs lo n)[i]? = some (.int (lo + (i : Nat))) := by
  unfold rgs
  simp [h]
theorem rgs_len {lo : Int} {n : Nat} : (rgs lo n).length = n := by simp [rgs]
end FL

/-! FU4: the words of evaluation. -/
namespace FL
open PySem PySem.Spec L2
@[simp] theorem bind_ok_s {α β : Type} {a : α} {k : α → Rs β} : (Rs.ok a : Rs α).bind k = k a := rfl
@[simp] theorem bind_exc {α β : Type} {e : Exc} {k : α → Rs β} : (Rs.exc e : Rs α).bind k = .exc e := rfl
@[simp] theorem bind_bad {α β : Type} {k : α → Rs β} : (Rs.bad : Rs α).bind k = .bad := rfl
@[simp] theorem toS_ok {α : Type} {a : α} {k : α → SR} : (Rs.ok a).toS k = k a := rfl
@[simp] theorem toS_exc {α : Type} {e : Exc} {k : α → SR} : (Rs.exc e : Rs α).toS k = .exc e := rfl
@[simp] theorem toS_bad {α : Type} {k : α → SR} : (Rs.bad : Rs α).toS k = .bad := rfl
@[simp] theorem fz_rd {x : D} : RV.fz (.d x) = .d x := rfl
@[simp] theorem fz_row {x : List D} : RV.fz (.ow x) = .d (.list x) := rfl
@[simp] theorem fz_rsl {i : Nat} : RV.fz (.sl i) = .sl i := rfl
@[simp] theorem get_d {x : D} {Γ : Ga} : RV.get Γ (.d x) = some x := rfl
@[simp] theorem get_ow {x : List D} {Γ : Ga} : RV.get Γ (.ow x) = some (.list x) := rfl
section
set_option autoImplicit true in
@[simp] theorem opK_q1  : opK  ((r, Γ)) = .ok (r.fz, Γ) := by first | rfl | (unfold opK; rfl)
set_option autoImplicit true in
@[simp] theorem getK_q1  {s : Sl} : getK  (some (some s)) = s.rd := by first | rfl | (unfold getK; rfl)
set_option autoImplicit true in
@[simp] theorem varK_q1 {i : Nat} {Γ : Ga} : varK i Γ (some (some (.fz d))) = .ok (.d d, Γ) := by first | rfl | (unfold varK; rfl)
set_option autoImplicit true in
@[simp] theorem resK_q1 {Γ : Ga} : resK Γ (some z) = .ok (.d z, Γ) := by first | rfl | (unfold resK; rfl)
set_option autoImplicit true in
@[simp] theorem resK_q2 {Γ : Ga} : resK Γ (none) = .bad := by first | rfl | (unfold resK; rfl)
set_option autoImplicit true in
@[simp] theorem g2K_q1 {op : D → D → Option D} {Γ : Ga} : g2K op Γ (some x) (some y) = resK Γ (op x y) := by first | rfl | (unfold g2K; rfl)
set_option autoImplicit true in
@[simp] theorem g1K_q1 {op : D → Option D} {Γ : Ga} : g1K op Γ (some x) = resK Γ (op x) := by first | rfl | (unfold g1K; rfl)
set_option autoImplicit true in
@[simp] theorem binK2_q1 {g : RV → RV → Ga → Rs (RV × Ga)} {r : RV} : binK2 g r ((q, Γ)) = g r q Γ := by first | rfl | (unfold binK2; rfl)
set_option autoImplicit true in
@[simp] theorem binK_q1 {g : RV → RV → Ga → Rs (RV × Ga)} {fb : FnE} : binK g fb ((r, Γ)) = (eOp fb Γ).bind (binK2 g r) := by first | rfl | (unfold binK; rfl)
set_option autoImplicit true in
@[simp] theorem unK_q1 {g : RV → Ga → Rs (RV × Ga)} : unK g ((r, Γ)) = g r Γ := by first | rfl | (unfold unK; rfl)
set_option autoImplicit true in
@[simp] theorem tstK_q1  : tstK  ((.d (.bool b), Γ)) = .ok (b, Γ) := by first | rfl | (unfold tstK; rfl)
set_option autoImplicit true in
@[simp] theorem notK_q1  : notK  ((b, Γ)) = .ok (!b, Γ) := by first | rfl | (unfold notK; rfl)
set_option autoImplicit true in
@[simp] theorem andK_q1 {g : FnT} : andK g ((true, Γ)) = g Γ := by first | rfl | (unfold andK; rfl)
set_option autoImplicit true in
@[simp] theorem andK_q2 {g : FnT} : andK g ((false, Γ)) = .ok (false, Γ) := by first | rfl | (unfold andK; rfl)
set_option autoImplicit true in
@[simp] theorem orK_q1 {g : FnT} : orK g ((true, Γ)) = .ok (true, Γ) := by first | rfl | (unfold orK; rfl)
set_option autoImplicit true in
@[simp] theorem orK_q2 {g : FnT} : orK g ((false, Γ)) = g Γ := by first | rfl | (unfold orK; rfl)
set_option autoImplicit true in
@[simp] theorem eNotK_q1  : eNotK  ((b, Γ)) = .ok (.d (.bool (!b)), Γ) := by first | rfl | (unfold eNotK; rfl)
set_option autoImplicit true in
@[simp] theorem eAndK_q1 {g : FnE} : eAndK g ((true, Γ)) = g Γ := by first | rfl | (unfold eAndK; rfl)
set_option autoImplicit true in
@[simp] theorem eAndK_q2 {g : FnE} : eAndK g ((false, Γ)) = .ok (.d (.bool false), Γ) := by first | rfl | (unfold eAndK; rfl)
set_option autoImplicit true in
@[simp] theorem eOrK_q1 {g : FnE} : eOrK g ((true, Γ)) = .ok (.d (.bool true), Γ) := by first | rfl | (unfold eOrK; rfl)
set_option autoImplicit true in
@[simp] theorem eOrK_q2 {g : FnE} : eOrK g ((false, Γ)) = g Γ := by first | rfl | (unfold eOrK; rfl)
set_option autoImplicit true in
@[simp] theorem eIfK_q1 {f : FnE} {g : FnE} : eIfK f g ((true, Γ)) = f Γ := by first | rfl | (unfold eIfK; rfl)
set_option autoImplicit true in
@[simp] theorem eIfK_q2 {f : FnE} {g : FnE} : eIfK f g ((false, Γ)) = g Γ := by first | rfl | (unfold eIfK; rfl)
set_option autoImplicit true in
@[simp] theorem consK2_q1 {r : RV} : consK2 r ((rs, Γ)) = .ok (r :: rs, Γ) := by first | rfl | (unfold consK2; rfl)
set_option autoImplicit true in
@[simp] theorem consK_q1 {g : FnA} : consK g ((r, Γ)) = (g Γ).bind (consK2 r) := by first | rfl | (unfold consK; rfl)
set_option autoImplicit true in
@[simp] theorem tupK2_q1  : tupK2  (some (xs, Γ)) = if xs.length ≤ lim then .ok (.d (.tuple xs), Γ) else .bad := by first | rfl | (unfold tupK2; rfl)
set_option autoImplicit true in
@[simp] theorem tupK2_q2  : tupK2  (none) = .bad := by first | rfl | (unfold tupK2; rfl)
set_option autoImplicit true in
@[simp] theorem tupK_q1  : tupK  ((rs, Γ)) = tupK2 (rvsFz rs Γ) := by first | rfl | (unfold tupK; rfl)
set_option autoImplicit true in
@[simp] theorem lstK2_q1  : lstK2  (some (xs, Γ)) = if xs.length ≤ lim then .ok (.ow xs, Γ) else .bad := by first | rfl | (unfold lstK2; rfl)
set_option autoImplicit true in
@[simp] theorem lstK2_q2  : lstK2  (none) = .bad := by first | rfl | (unfold lstK2; rfl)
set_option autoImplicit true in
@[simp] theorem lstK_q1  : lstK  ((rs, Γ)) = lstK2 (rvsFz rs Γ) := by first | rfl | (unfold lstK; rfl)
set_option autoImplicit true in
@[simp] theorem fzK_q1 {i : Nat} {Γ : Ga} : fzK i Γ (some (some (.ow xs))) = some (.list xs, Γ.set i (some (.fz (.list xs)))) := by first | rfl | (unfold fzK; rfl)
set_option autoImplicit true in
@[simp] theorem fzK_q2 {i : Nat} {Γ : Ga} : fzK i Γ (some (some (.fz d))) = some (d, Γ) := by first | rfl | (unfold fzK; rfl)
set_option autoImplicit true in
@[simp] theorem fzsK2_q1 {x : D} : fzsK2 x (some (xs, Γ)) = some (x :: xs, Γ) := by first | rfl | (unfold fzsK2; rfl)
set_option autoImplicit true in
@[simp] theorem fzsK2_q2 {x : D} : fzsK2 x (none) = none := by first | rfl | (unfold fzsK2; rfl)
set_option autoImplicit true in
@[simp] theorem fzsK_q1 {rs : List RV} : fzsK rs (some (x, Γ)) = fzsK2 x (rvsFz rs Γ) := by first | rfl | (unfold fzsK; rfl)
set_option autoImplicit true in
@[simp] theorem fzsK_q2 {rs : List RV} : fzsK rs (none) = none := by first | rfl | (unfold fzsK; rfl)
set_option autoImplicit true in
@[simp] theorem SR_then_q1 {g : FnS} : SR.then g (.nx Γ) = g Γ := by first | rfl | (unfold SR.then; rfl)
set_option autoImplicit true in
@[simp] theorem asgK2_q1  : asgK2  (some Γ) = .nx Γ := by first | rfl | (unfold asgK2; rfl)
set_option autoImplicit true in
@[simp] theorem asgK2_q2  : asgK2  (none) = .bad := by first | rfl | (unfold asgK2; rfl)
set_option autoImplicit true in
@[simp] theorem asgK_q1 {g : FnG} : asgK g ((r, Γ)) = asgK2 (g r Γ) := by first | rfl | (unfold asgK; rfl)
set_option autoImplicit true in
@[simp] theorem exK_q1  : exK  ((r0, Γ)) = .nx Γ := by first | rfl | (unfold exK; rfl)
set_option autoImplicit true in
@[simp] theorem retK2_q1  : retK2  (some (d, Γ)) = .ret d Γ := by first | rfl | (unfold retK2; rfl)
set_option autoImplicit true in
@[simp] theorem retK2_q2  : retK2  (none) = .bad := by first | rfl | (unfold retK2; rfl)
set_option autoImplicit true in
@[simp] theorem retK_q1  : retK  ((r, Γ)) = retK2 (rvFz Γ r) := by first | rfl | (unfold retK; rfl)
set_option autoImplicit true in
@[simp] theorem sIfK_q1 {f : FnS} {g : FnS} : sIfK f g ((true, Γ)) = f Γ := by first | rfl | (unfold sIfK; rfl)
set_option autoImplicit true in
@[simp] theorem sIfK_q2 {f : FnS} {g : FnS} : sIfK f g ((false, Γ)) = g Γ := by first | rfl | (unfold sIfK; rfl)
set_option autoImplicit true in
@[simp] theorem putK_q1 {i : Nat} {s : Sl} {Γ : Ga} : putK i s Γ (true) = some (Γ.set i (some s)) := by first | rfl | (unfold putK; rfl)
set_option autoImplicit true in
@[simp] theorem putK_q2 {i : Nat} {s : Sl} {Γ : Ga} : putK i s Γ (false) = none := by first | rfl | (unfold putK; rfl)
set_option autoImplicit true in
@[simp] theorem gNK_q1 {i : Nat} : gNK i (some (d, Γ)) = putK i (.fz d) Γ (freeAt Γ i) := by first | rfl | (unfold gNK; rfl)
set_option autoImplicit true in
@[simp] theorem gNK_q2 {i : Nat} : gNK i (none) = none := by first | rfl | (unfold gNK; rfl)
set_option autoImplicit true in
@[simp] theorem freeK_q1  : freeK  (some (some s)) = !s.pinned := by first | rfl | (unfold freeK; rfl)
set_option autoImplicit true in
@[simp] theorem freeK_q2  : freeK  (some none) = true := by first | rfl | (unfold freeK; rfl)
set_option autoImplicit true in
@[simp] theorem freeK_q3  : freeK  (none) = false := by first | rfl | (unfold freeK; rfl)
set_option autoImplicit true in
@[simp] theorem parK3_q1 {i : Nat} {j : Nat} {x : D} {y : D} {Γ : Ga} : parK3 i j x y Γ (true) = .nx ((Γ.set i (some (.fz x))).set j (some (.fz y))) := by first | rfl | (unfold parK3; rfl)
set_option autoImplicit true in
@[simp] theorem parK3_q2 {i : Nat} {j : Nat} {x : D} {y : D} {Γ : Ga} : parK3 i j x y Γ (false) = .bad := by first | rfl | (unfold parK3; rfl)
set_option autoImplicit true in
@[simp] theorem parK2_q1 {i : Nat} {j : Nat} : parK2 i j (some ([x, y], Γ1)) = parK3 i j x y Γ1 (freeAt Γ1 i && freeAt Γ1 j) := by first | rfl | (unfold parK2; rfl)
set_option autoImplicit true in
@[simp] theorem parK_q1 {i : Nat} {j : Nat} : parK i j ((rs, Γ)) = parK2 i j (rvsFz rs Γ) := by first | rfl | (unfold parK; rfl)
set_option autoImplicit true in
@[simp] theorem gcK_q1 {gs : FnGs} {r : List D} : gcK gs r (some Γ) = gs r Γ := by first | rfl | (unfold gcK; rfl)
set_option autoImplicit true in
@[simp] theorem gcK_q2 {gs : FnGs} {r : List D} : gcK gs r (none) = none := by first | rfl | (unfold gcK; rfl)
set_option autoImplicit true in
@[simp] theorem writeK_q1 {i : Nat} {Γ : Ga} {f : List D → Option (List D)} : writeK i Γ f (some (some (.ow xs))) = (f xs).map fun ys => Γ.set i (some (.ow ys)) := by first | rfl | (unfold writeK; rfl)
set_option autoImplicit true in
@[simp] theorem writeK_q2 {i : Nat} {Γ : Ga} {f : List D → Option (List D)} : writeK i Γ f (some (some (.io xs))) = (f xs).map fun ys => Γ.set i (some (.io ys)) := by first | rfl | (unfold writeK; rfl)
set_option autoImplicit true in
@[simp] theorem setK3_q1 {i : Nat} {k : Int} : setK3 i k (some (x, Γ2)) = asgK2 (slWrite Γ2 i fun xs => (ixN xs.length k).map fun j => xs.set j x) := by first | rfl | (unfold setK3; rfl)
set_option autoImplicit true in
@[simp] theorem setK3_q2 {i : Nat} {k : Int} : setK3 i k (none) = .bad := by first | rfl | (unfold setK3; rfl)
set_option autoImplicit true in
@[simp] theorem setK2_q1 {i : Nat} {r : RV} : setK2 i r ((.d (.int k), Γ)) = setK3 i k (rvFz Γ r) := by first | rfl | (unfold setK2; rfl)
set_option autoImplicit true in
@[simp] theorem setK1_q1 {i : Nat} {fk : FnE} {r : RV} {Γ : Ga} : setK1 i fk r Γ (true) = (fk Γ).toS (setK2 i r) := by first | rfl | (unfold setK1; rfl)
set_option autoImplicit true in
@[simp] theorem setK1_q2 {i : Nat} {fk : FnE} {r : RV} {Γ : Ga} : setK1 i fk r Γ (false) = .bad := by first | rfl | (unfold setK1; rfl)
set_option autoImplicit true in
@[simp] theorem setK_q1 {i : Nat} {fk : FnE} : setK i fk ((r, Γ)) = setK1 i fk r Γ (hasAt Γ i) := by first | rfl | (unfold setK; rfl)
set_option autoImplicit true in
@[simp] theorem metK2_q1 {out : Ga → RV → Rs (RV × Ga)} : metK2 out ((r, Γ)) = out Γ r := by first | rfl | (unfold metK2; rfl)
set_option autoImplicit true in
@[simp] theorem metK_q1 {fe : FnE} {out : Ga → RV → Rs (RV × Ga)} {Γ : Ga} : metK fe out Γ (true) = (eOp fe Γ).bind (metK2 out) := by first | rfl | (unfold metK; rfl)
set_option autoImplicit true in
@[simp] theorem metK_q2 {fe : FnE} {out : Ga → RV → Rs (RV × Ga)} {Γ : Ga} : metK fe out Γ (false) = .bad := by first | rfl | (unfold metK; rfl)
set_option autoImplicit true in
@[simp] theorem nonK_q1  : nonK  (some Γ) = .ok (.d .none, Γ) := by first | rfl | (unfold nonK; rfl)
set_option autoImplicit true in
@[simp] theorem nonK_q2  : nonK  (none) = .bad := by first | rfl | (unfold nonK; rfl)
set_option autoImplicit true in
@[simp] theorem appK_q1 {i : Nat} : appK i (some (x, Γ1)) = nonK (slWrite Γ1 i fun xs => if xs.length < lim then some (xs ++ [x]) else none) := by first | rfl | (unfold appK; rfl)
set_option autoImplicit true in
@[simp] theorem appK_q2 {i : Nat} : appK i (none) = .bad := by first | rfl | (unfold appK; rfl)
set_option autoImplicit true in
@[simp] theorem FR_val_q1  : FR.val  (.exc e) = .exc e := by first | rfl | (unfold FR.val; rfl)
set_option autoImplicit true in
@[simp] theorem FR_val_q2  : FR.val  (.bad) = .bad := by first | rfl | (unfold FR.val; rfl)
set_option autoImplicit true in
@[simp] theorem srVal_q1  : srVal  (.exc e) = .exc e := by first | rfl | (unfold srVal; rfl)
set_option autoImplicit true in
@[simp] theorem callV_q1 {rvs : List RV} {Γ : Ga} {as : List Sl} : callV rvs Γ as (.ok d) = backV as rvs none Γ Γ d := by first | rfl | (unfold callV; rfl)
set_option autoImplicit true in
@[simp] theorem callV_q2 {rvs : List RV} {Γ : Ga} {as : List Sl} : callV rvs Γ as (.exc e) = .exc e := by first | rfl | (unfold callV; rfl)
set_option autoImplicit true in
@[simp] theorem callV_q3 {rvs : List RV} {Γ : Ga} {as : List Sl} : callV rvs Γ as (.bad) = .bad := by first | rfl | (unfold callV; rfl)
set_option autoImplicit true in
@[simp] theorem callK2_q1 {run : FnR} {rvs : List RV} {Γ : Ga} : callK2 run rvs Γ (some as) = callV rvs Γ as (run as).val := by first | rfl | (unfold callK2; rfl)
set_option autoImplicit true in
@[simp] theorem callK2_q2 {run : FnR} {rvs : List RV} {Γ : Ga} : callK2 run rvs Γ (none) = .bad := by first | rfl | (unfold callK2; rfl)
set_option autoImplicit true in
@[simp] theorem callK_q1 {run : FnR} {np : Nat} : callK run np ((rvs, Γ)) = if rvs.length = np then callK2 run rvs Γ (mkArgs Γ rvs none) else .bad := by first | rfl | (unfold callK; rfl)
set_option autoImplicit true in
@[simp] theorem ioK3_q1 {as : List Sl} {rvs : List RV} {j : Nat} {Γ : Ga} {d : D} : ioK3 as rvs j Γ d (some Γ2) = backV as rvs (some j) Γ Γ2 d := by first | rfl | (unfold ioK3; rfl)
set_option autoImplicit true in
@[simp] theorem ioK3_q2 {as : List Sl} {rvs : List RV} {j : Nat} {Γ : Ga} {d : D} : ioK3 as rvs j Γ d (none) = .bad := by first | rfl | (unfold ioK3; rfl)
set_option autoImplicit true in
@[simp] theorem callIo_q1 {rvs : List RV} {Γ : Ga} {as : List Sl} {j : Nat} {i : Nat} : callIo rvs Γ as j i (.ok (d, ys)) = ioK3 as rvs j Γ d (ioK4 i Γ ys) := by first | rfl | (unfold callIo; rfl)
set_option autoImplicit true in
@[simp] theorem callIo_q2 {rvs : List RV} {Γ : Ga} {as : List Sl} {j : Nat} {i : Nat} : callIo rvs Γ as j i (.exc e) = .exc e := by first | rfl | (unfold callIo; rfl)
set_option autoImplicit true in
@[simp] theorem callIo_q3 {rvs : List RV} {Γ : Ga} {as : List Sl} {j : Nat} {i : Nat} : callIo rvs Γ as j i (.bad) = .bad := by first | rfl | (unfold callIo; rfl)
set_option autoImplicit true in
@[simp] theorem callIoK2_q1 {run : FnR} {rvs : List RV} {Γ : Ga} {j : Nat} {i : Nat} : callIoK2 run rvs Γ j i (some as) = callIo rvs Γ as j i ((run as).io j) := by first | rfl | (unfold callIoK2; rfl)
set_option autoImplicit true in
@[simp] theorem callIoK2_q2 {run : FnR} {rvs : List RV} {Γ : Ga} {j : Nat} {i : Nat} : callIoK2 run rvs Γ j i (none) = .bad := by first | rfl | (unfold callIoK2; rfl)
set_option autoImplicit true in
@[simp] theorem callIoK1_q1 {run : FnR} {rvs : List RV} {Γ : Ga} {j : Nat} : callIoK1 run rvs Γ j (some (.sl i)) = if (rvs.eraseIdx j).all (fun r => !isSl i r) then callIoK2 run rvs Γ j i (mkArgs Γ rvs (some j)) else .bad := by first | rfl | (unfold callIoK1; rfl)
set_option autoImplicit true in
@[simp] theorem callIoK_q1 {run : FnR} {np : Nat} {j : Nat} : callIoK run np j ((rvs, Γ)) = if rvs.length = np then callIoK1 run rvs Γ j rvs[j]? else .bad := by first | rfl | (unfold callIoK; rfl)
set_option autoImplicit true in
@[simp] theorem itK_q1 {Γ : Ga} : itK Γ (some (xs, lk)) = .ok (xs, lk, Γ) := by first | rfl | (unfold itK; rfl)
set_option autoImplicit true in
@[simp] theorem itK_q2 {Γ : Ga} : itK Γ (none) = .bad := by first | rfl | (unfold itK; rfl)
set_option autoImplicit true in
@[simp] theorem itemK_q1 {i : Nat} : itemK i (some (some (.ow xs))) = some (xs, some i) := by first | rfl | (unfold itemK; rfl)
set_option autoImplicit true in
@[simp] theorem itemK_q2 {i : Nat} : itemK i (some (some (.lk xs))) = some (xs, none) := by first | rfl | (unfold itemK; rfl)
set_option autoImplicit true in
@[simp] theorem itemK_q3 {i : Nat} : itemK i (some (some (.scr ns))) = some (ns.map .int, none) := by first | rfl | (unfold itemK; rfl)
set_option autoImplicit true in
@[simp] theorem anyK2_q1 {r : RV} {Γ : Ga} : anyK2 r Γ (some (.tuple xs)) = .ok (xs, none, Γ) := by first | rfl | (unfold anyK2; rfl)
set_option autoImplicit true in
@[simp] theorem iAnyK_q1  : iAnyK  ((r, Γ)) = anyK2 r Γ (r.get Γ) := by first | rfl | (unfold iAnyK; rfl)
set_option autoImplicit true in
@[simp] theorem enuK2_q1 {r : RV} {Γ : Ga} : enuK2 r Γ (some (.tuple xs)) = .ok (enuD 0 xs, none, Γ) := by first | rfl | (unfold enuK2; rfl)
set_option autoImplicit true in
@[simp] theorem enuK_q1  : enuK  (([r], Γ)) = enuK2 r Γ (r.get Γ) := by first | rfl | (unfold enuK; rfl)
set_option autoImplicit true in
@[simp] theorem rgK1_q1 {j : Int} {Γ : Ga} : rgK1 j Γ (true) = .ok (rgs 0 j.toNat, none, Γ) := by first | rfl | (unfold rgK1; rfl)
set_option autoImplicit true in
@[simp] theorem rgK1_q2 {j : Int} {Γ : Ga} : rgK1 j Γ (false) = .bad := by first | rfl | (unfold rgK1; rfl)
set_option autoImplicit true in
@[simp] theorem r1K_q1  : r1K  (([.d (.int j)], Γ)) = rgK1 j Γ (rgOk j) := by first | rfl | (unfold r1K; rfl)
set_option autoImplicit true in
@[simp] theorem rgK2_q1 {i : Int} {j : Int} {Γ : Ga} : rgK2 i j Γ (true) = .ok (rgs i (j - i).toNat, none, Γ) := by first | rfl | (unfold rgK2; rfl)
set_option autoImplicit true in
@[simp] theorem rgK2_q2 {i : Int} {j : Int} {Γ : Ga} : rgK2 i j Γ (false) = .bad := by first | rfl | (unfold rgK2; rfl)
set_option autoImplicit true in
@[simp] theorem r2K_q1  : r2K  (([.d (.int i), .d (.int j)], Γ)) = rgK2 i j Γ (rgOk i && rgOk j) := by first | rfl | (unfold r2K; rfl)
set_option autoImplicit true in
@[simp] theorem forK_q1 {g : FnG} {b : FnS} : forK g b ((xs, none, Γ)) = loopF g b xs Γ := by first | rfl | (unfold forK; rfl)
set_option autoImplicit true in
@[simp] theorem forK_q2 {g : FnG} {b : FnS} : forK g b ((xs, some i, Γ)) = unl i (loopF g b xs (shut i Γ)) := by first | rfl | (unfold forK; rfl)
set_option autoImplicit true in
@[simp] theorem loopK_q1 {g : FnG} {b : FnS} {xs : List D} : loopK g b xs (.nx Γ2) = loopF g b xs Γ2 := by first | rfl | (unfold loopK; rfl)
set_option autoImplicit true in
@[simp] theorem loopK_q2 {g : FnG} {b : FnS} {xs : List D} : loopK g b xs (.ct Γ2) = loopF g b xs Γ2 := by first | rfl | (unfold loopK; rfl)
set_option autoImplicit true in
@[simp] theorem loopK_q3 {g : FnG} {b : FnS} {xs : List D} : loopK g b xs (.bk Γ2) = .nx Γ2 := by first | rfl | (unfold loopK; rfl)
set_option autoImplicit true in
@[simp] theorem loopK_q4 {g : FnG} {b : FnS} {xs : List D} : loopK g b xs (.ret d Γ2) = .ret d Γ2 := by first | rfl | (unfold loopK; rfl)
set_option autoImplicit true in
@[simp] theorem loopK_q5 {g : FnG} {b : FnS} {xs : List D} : loopK g b xs (.exc e) = .exc e := by first | rfl | (unfold loopK; rfl)
set_option autoImplicit true in
@[simp] theorem loopK_q6 {g : FnG} {b : FnS} {xs : List D} : loopK g b xs (.bad) = .bad := by first | rfl | (unfold loopK; rfl)
set_option autoImplicit true in
@[simp] theorem loopK1_q1 {g : FnG} {b : FnS} {xs : List D} : loopK1 g b xs (some Γ) = loopK g b xs (b Γ) := by first | rfl | (unfold loopK1; rfl)
set_option autoImplicit true in
@[simp] theorem loopK1_q2 {g : FnG} {b : FnS} {xs : List D} : loopK1 g b xs (none) = .bad := by first | rfl | (unfold loopK1; rfl)
set_option autoImplicit true in
@[simp] theorem RV_lst_q1 {Γ : Ga} : RV.lst Γ (.d (.list xs)) = some xs := by first | rfl | (unfold RV.lst; rfl)
set_option autoImplicit true in
@[simp] theorem RV_lst_q2 {Γ : Ga} : RV.lst Γ (.ow xs) = some xs := by first | rfl | (unfold RV.lst; rfl)
set_option autoImplicit true in
@[simp] theorem addD_q1  : addD  (.int a) (.int b) = some (.int (a + b)) := by first | rfl | (unfold addD; rfl)
set_option autoImplicit true in
@[simp] theorem addD_q2  : addD  (.str a) (.str b) = if a.length + b.length ≤ lim then some (.str (a ++ b)) else none := by first | rfl | (unfold addD; rfl)
set_option autoImplicit true in
@[simp] theorem addD_q3  : addD  (.tuple a) (.tuple b) = if a.length + b.length ≤ lim then some (.tuple (a ++ b)) else none := by first | rfl | (unfold addD; rfl)
set_option autoImplicit true in
@[simp] theorem subD_q1  : subD  (.int a) (.int b) = some (.int (a - b)) := by first | rfl | (unfold subD; rfl)
set_option autoImplicit true in
@[simp] theorem fdivD_q1  : fdivD  (.int a) (.int b) = if fdivOk b then some (.int (a / b)) else none := by first | rfl | (unfold fdivD; rfl)
set_option autoImplicit true in
@[simp] theorem modD_q1  : modD  (.int a) (.int b) = if 0 < b then some (.int (a % b)) else none := by first | rfl | (unfold modD; rfl)
set_option autoImplicit true in
@[simp] theorem powD_q1  : powD  (.int a) (.int b) = if 0 ≤ b ∧ b ≤ 1000000 ∧ a.natAbs < 2 ^ 64 then some (.int (a ^ b.toNat)) else none := by first | rfl | (unfold powD; rfl)
set_option autoImplicit true in
@[simp] theorem negD_q1  : negD  (.int a) = some (.int (-a)) := by first | rfl | (unfold negD; rfl)
set_option autoImplicit true in
@[simp] theorem ltD_q1  : ltD  (.int a) (.int b) = some (decide (a < b)) := by first | rfl | (unfold ltD; rfl)
set_option autoImplicit true in
@[simp] theorem leD_q1  : leD  (.int a) (.int b) = some (decide (a ≤ b)) := by first | rfl | (unfold leD; rfl)
set_option autoImplicit true in
@[simp] theorem gtD_q1  : gtD  (.int a) (.int b) = some (decide (b < a)) := by first | rfl | (unfold gtD; rfl)
set_option autoImplicit true in
@[simp] theorem geD_q1  : geD  (.int a) (.int b) = some (decide (b ≤ a)) := by first | rfl | (unfold geD; rfl)
set_option autoImplicit true in
@[simp] theorem lenD_q1  : lenD  (.list xs) = some (.int xs.length) := by first | rfl | (unfold lenD; rfl)
set_option autoImplicit true in
@[simp] theorem lenD_q2  : lenD  (.tuple xs) = some (.int xs.length) := by first | rfl | (unfold lenD; rfl)
set_option autoImplicit true in
@[simp] theorem lenD_q3  : lenD  (.str z) = if z.length ≤ lim then some (.int z.length) else none := by first | rfl | (unfold lenD; rfl)
set_option autoImplicit true in
@[simp] theorem absD_q1  : absD  (.int i) = some (.int (if i < 0 then -i else i)) := by first | rfl | (unfold absD; rfl)
set_option autoImplicit true in
@[simp] theorem max2D_q1  : max2D  (.int i) (.int j) = some (.int (max i j)) := by first | rfl | (unfold max2D; rfl)
set_option autoImplicit true in
@[simp] theorem min2D_q1  : min2D  (.int i) (.int j) = some (.int (min i j)) := by first | rfl | (unfold min2D; rfl)
set_option autoImplicit true in
@[simp] theorem divmodD_q1  : divmodD  (.int i) (.int j) = if fdivOk j then some (.tuple [.int (i / j), .int (i % j)]) else none := by first | rfl | (unfold divmodD; rfl)
set_option autoImplicit true in
@[simp] theorem sumD_q1  : sumD  (.list xs) = (intsOf xs).map fun ns => .int ns.sum := by first | rfl | (unfold sumD; rfl)
set_option autoImplicit true in
@[simp] theorem noL_q1  : noL  (.tuple xs) = noLs xs := by first | rfl | (unfold noL; rfl)
set_option autoImplicit true in
@[simp] theorem noLs_q1  : noLs  ([]) = true := by first | rfl | (unfold noLs; rfl)
end
section
variable {Γ : Ga} {i j : Nat} {xs : List D} {ns : List Int} {g : FnS} {d : D} {e : Exc} {r s : RV} {t : Sl} {rs : List RV}
@[simp] theorem varK_ow : varK i Γ (some (some (.ow xs))) = .ok (.sl i, Γ) := rfl
@[simp] theorem varK_io : varK i Γ (some (some (.io xs))) = .ok (.sl i, Γ) := rfl
@[simp] theorem varK_lk : varK i Γ (some (some (.lk xs))) = .ok (.sl i, Γ) := rfl
@[simp] theorem varK_scr : varK i Γ (some (some (.scr ns))) = .ok (.sl i, Γ) := rfl
@[simp] theorem hasK_s : hasK (some (some t)) = true := rfl
@[simp] theorem ownK_ow : ownK (some (some (.ow xs))) = true := rfl
@[simp] theorem ownK_io : ownK (some (some (.io xs))) = true := rfl
@[simp] theorem then_ret : SR.then g (.ret d Γ) = .ret d Γ := rfl
@[simp] theorem then_exc : SR.then g (.exc e) = .exc e := rfl
@[simp] theorem then_bk : SR.then g (.bk Γ) = .bk Γ := rfl
@[simp] theorem then_ct : SR.then g (.ct Γ) = .ct Γ := rfl
@[simp] theorem then_bad : SR.then g .bad = .bad := rfl
@[simp] theorem srVal_nx : srVal (.nx Γ) = .ok .none := rfl
@[simp] theorem srVal_ret : srVal (.ret d Γ) = .ok d := rfl
@[simp] theorem srIo_nx : srIo j (.nx Γ) = outAt j .none Γ := rfl
@[simp] theorem srIo_ret : srIo j (.ret d Γ) = outAt j d Γ := rfl
@[simp] theorem srIo_exc : srIo j (.exc e) = .exc e := rfl
@[simp] theorem noL_int {k : Int} : noL (.int k) = true := by unfold noL; rfl
@[simp] theorem noL_bool {b : Bool} : noL (.bool b) = true := by unfold noL; rfl
@[simp] theorem noL_none : noL .none = true := by unfold noL; rfl
@[simp] theorem noL_str {z : Str} : noL (.str z) = true := by unfold noL; rfl
@[simp] theorem noL_list : noL (.list xs) = false := by unfold noL; rfl
@[simp] theorem noLs_cons {x : D} : noLs (x :: xs) = (noL x && noLs xs) := by rw [noLs]
@[simp] theorem is_none {x : D} : isND x .none = some (isNone x) := rfl
@[simp] theorem isnt_none {x : D} : isNotND x .none = some (!isNone x) := rfl
@[simp] theorem isNone_n : isNone .none = true := rfl
@[simp] theorem isNone_i {k : Int} : isNone (.int k) = false := rfl
@[simp] theorem isNone_b {b : Bool} : isNone (.bool b) = false := rfl
@[simp] theorem isNone_t : isNone (.tuple xs) = false := rfl
@[simp] theorem isNone_l : isNone (.list xs) = false := rfl
@[simp] theorem isi_ap {t : Ty} : isiD t d = some (.bool (isiB t d)) := rfl
@[simp] theorem isi_tt : isiB .tuple (.tuple xs) = true := rfl
@[simp] theorem isi_ti {k : Int} : isiB .tuple (.int k) = false := rfl
@[simp] theorem isi_ii {k : Int} : isiB .int (.int k) = true := rfl
@[simp] theorem isi_bi {k : Int} : isiB .bool (.int k) = false := rfl
@[simp] theorem isi_in : isiB .int .none = false := rfl
@[simp] theorem isi_it : isiB .int (.tuple xs) = false := rfl
@[simp] theorem isi_il : isiB .int (.list xs) = false := rfl
def lstOf : Option (Option Sl) → Option (List D)
  | some (some (.ow xs)) => some xs
  | some (some (.io xs)) => some xs
  | some (some (.lk xs)) => some xs
  | _ => none
@[simp] theorem lstOf_ow : lstOf (some (some (.ow xs))) = some xs := rfl
@[simp] theorem lstOf_io : lstOf (some (some (.io xs))) = some xs := rfl
@[simp] theorem lstOf_lk : lstOf (some (some (.lk xs))) = some xs := rfl
@[simp] theorem argSl_d {x : D} : argSl Γ (.d x) = some (.fz x) := rfl
def sendK : Option (Option Sl) → Option Sl
  | some (some (.ow xs)) => some (.fz (.list xs))
  | some (some (.io xs)) => some (.fz (.list xs))
  | some (some (.lk xs)) => some (.fz (.list xs))
  | some (some (.scr ns)) => some (.scr ns)
  | some (some (.ex a c)) => some (.ex a c)
  | some (some (.fz d)) => some (.fz d)
  | _ => none
@[simp] theorem sendK_ex {a : Addr} {c : Str} : sendK (some (some (.ex a c))) = some (.ex a c) := rfl
@[simp] theorem sendK_ow : sendK (some (some (.ow xs))) = some (.fz (.list xs)) := rfl
@[simp] theorem sendK_io : sendK (some (some (.io xs))) = some (.fz (.list xs)) := rfl
@[simp] theorem sendK_lk : sendK (some (some (.lk xs))) = some (.fz (.list xs)) := rfl
@[simp] theorem sendK_scr : sendK (some (some (.scr ns))) = some (.scr ns) := rfl
@[simp] theorem sendK_fz : sendK (some (some (.fz d))) = some (.fz d) := rfl
@[simp] theorem argSl_sl : argSl Γ (.sl i) = sendK Γ[i]? := by
  show (match Γ[i]? with
    | some (some (.ow xs)) => some (Sl.fz (.list xs))
    | some (some (.io xs)) => some (.fz (.list xs))
    | some (some (.lk xs)) => some (.fz (.list xs))
    | some (some (.scr ns)) => some (.scr ns)
    | some (some (.ex a c)) => some (.ex a c)
    | some (some (.fz d)) => some (.fz d)
    | _ => none) = _
  rcases Γ[i]? with _ | _ | s
  · rfl
  · rfl
  · cases s <;> rfl
def lendK : Option (Option Sl) → Option Sl
  | some (some (.ow xs)) => some (.io xs)
  | some (some (.io xs)) => some (.io xs)
  | _ => none
@[simp] theorem lendK_ow : lendK (some (some (.ow xs))) = some (.io xs) := rfl
@[simp] theorem lendK_io : lendK (some (some (.io xs))) = some (.io xs) := rfl
@[simp] theorem argIo_sl : argIo Γ (.sl i) = lendK Γ[i]? := by
  show (match Γ[i]? with
    | some (some (.ow xs)) => some (Sl.io xs)
    | some (some (.io xs)) => some (.io xs)
    | _ => none) = _
  rcases Γ[i]? with _ | _ | s
  · rfl
  · rfl
  · cases s <;> rfl
def mkK2 (s : Sl) : Option (List Sl) → Option (List Sl)
  | some as => some (s :: as)
  | none => none
def mkK (Γ : Ga) (rs : List RV) (io : Option Nat) : Option Sl → Option (List Sl)
  | some s => mkK2 s (mkArgs Γ rs io)
  | none => none
@[simp] theorem mkK2_s {s : Sl} {as : List Sl} : mkK2 s (some as) = some (s :: as) := rfl
@[simp] theorem mkK_s {s : Sl} {io : Option Nat} : mkK Γ rs io (some s) = mkK2 s (mkArgs Γ rs io) := rfl
@[simp] theorem mk_cons : mkArgs Γ (r :: rs) none = mkK Γ rs none (argSl Γ r) := by
  rw [mkArgs]
  cases argSl Γ r with
  | none => rfl
  | some s => show (mkArgs Γ rs none).map _ = mkK2 s (mkArgs Γ rs none); cases mkArgs Γ rs none <;> rfl
@[simp] theorem mk_cons0 : mkArgs Γ (r :: rs) (some 0) = mkK Γ rs none (argIo Γ r) := by
  rw [mkArgs]
  cases argIo Γ r with
  | none => rfl
  | some s => show (mkArgs Γ rs none).map _ = mkK2 s (mkArgs Γ rs none); cases mkArgs Γ rs none <;> rfl
@[simp] theorem mk_consn {n : Nat} : mkArgs Γ (r :: rs) (some (n + 1)) = mkK Γ rs (some n) (argSl Γ r) := by
  rw [mkArgs]
  cases argSl Γ r with
  | none => rfl
  | some s => show (mkArgs Γ rs (some n)).map _ = mkK2 s (mkArgs Γ rs (some n)); cases mkArgs Γ rs (some n) <;> rfl
def slPutK (i : Nat) (Γ : Ga) (ys : List D) : Option (Option Sl) → Option Ga
  | some (some (.ow _)) => some (Γ.set i (some (.ow ys)))
  | some (some (.io _)) => some (Γ.set i (some (.io ys)))
  | _ => none
@[simp] theorem slPutK_ow {ys : List D} : slPutK i Γ ys (some (some (.ow xs))) = some (Γ.set i (some (.ow ys))) := rfl
@[simp] theorem slPutK_io {ys : List D} : slPutK i Γ ys (some (some (.io xs))) = some (Γ.set i (some (.io ys))) := rfl
@[simp] theorem slPut_ap {ys : List D} : slPut Γ i ys = slPutK i Γ ys Γ[i]? := by
  unfold slPut
  rcases Γ[i]? with _ | _ | s
  · rfl
  · rfl
  · cases s <;> rfl
@[simp] theorem isSl_d {x : D} : isSl i (.d x) = false := rfl
@[simp] theorem isSl_s : isSl i (.sl j) = (i == j) := rfl
@[simp] theorem outAt_ap : outAt j d Γ = (match Γ[j]? with | some (some (.io xs)) => .ok (d, xs) | _ => .bad) := rfl
@[simp] theorem anyK2_t {xs : List D} : anyK2 r Γ (some (.tuple xs)) = .ok (xs, none, Γ) := rfl
@[simp] theorem anyK2_l {xs : List D} : anyK2 r Γ (some (.list xs)) = itK Γ (itemsL r Γ) := rfl
@[simp] theorem enuK2_t {xs : List D} : enuK2 r Γ (some (.tuple xs)) = .ok (enuD 0 xs, none, Γ) := rfl
@[simp] theorem enuK2_l {xs : List D} : enuK2 r Γ (some (.list xs)) = itK Γ ((itemsL r Γ).map fun p => (enuD 0 p.1, p.2)) := rfl
@[simp] theorem data_fz {x : D} : Sl.data (.fz x) = x := rfl
@[simp] theorem data_ow : Sl.data (.ow xs) = .list xs := rfl
@[simp] theorem data_io : Sl.data (.io xs) = .list xs := rfl
@[simp] theorem data_lk : Sl.data (.lk xs) = .list xs := rfl
@[simp] theorem data_scr : Sl.data (.scr ns) = .list (ns.map .int) := rfl
@[simp] theorem pin_fz {x : D} : Sl.pinned (.fz x) = false := rfl
@[simp] theorem pin_ow : Sl.pinned (.ow xs) = false := rfl
@[simp] theorem pin_io : Sl.pinned (.io xs) = true := rfl
@[simp] theorem pin_lk : Sl.pinned (.lk xs) = true := rfl
@[simp] theorem pin_scr : Sl.pinned (.scr ns) = false := rfl
end
theorem mul_dd {x y : D} {Γ : Ga} (h : RV.lst Γ (.d x) = none) : gMul (.d x) (.d y) Γ = g2K mulD Γ (some x) (some y) := by
  unfold gMul
  rw [h]
  show g2 mulD (.d x) (.d y) Γ = _
  rw [g2_ap]; rfl
theorem add_dd {x y : D} {Γ : Ga} (h : RV.lst Γ (.d x) = none) : gAdd (.d x) (.d y) Γ = g2K addD Γ (some x) (some y) := by
  unfold gAdd
  rw [h]
  show g2 addD (.d x) (.d y) Γ = _
  rw [g2_ap]; rfl
@[simp] theorem lst_int {Γ : Ga} {i : Int} : RV.lst Γ (.d (.int i)) = none := rfl
@[simp] theorem lst_tup {Γ : Ga} {xs : List D} : RV.lst Γ (.d (.tuple xs)) = none := rfl
@[simp] theorem lst_str {Γ : Ga} {z : Str} : RV.lst Γ (.d (.str z)) = none := rfl
@[simp] theorem mul_gi {i : Int} {y : D} {Γ : Ga} : gMul (.d (.int i)) (.d y) Γ = g2K mulD Γ (some (.int i)) (some y) := mul_dd lst_int
@[simp] theorem add_gi {i : Int} {y : D} {Γ : Ga} : gAdd (.d (.int i)) (.d y) Γ = g2K addD Γ (some (.int i)) (some y) := add_dd lst_int
@[simp] theorem add_gt {xs : List D} {y : D} {Γ : Ga} : gAdd (.d (.tuple xs)) (.d y) Γ = g2K addD Γ (some (.tuple xs)) (some y) := add_dd lst_tup
@[simp] theorem add_gs {z : Str} {y : D} {Γ : Ga} : gAdd (.d (.str z)) (.d y) Γ = g2K addD Γ (some (.str z)) (some y) := add_dd lst_str
@[simp] theorem mul_ii {i j : Int} (h : mulOk i j = true) : mulD (.int i) (.int j) = some (.int (i * j)) := by show (if mulOk i j = true then some (PyData.int (i * j)) else none) = _; rw [if_pos h]
theorem shp_of {d : D} (h : d.canLay0 = true) (q : d.depth ≤ 64) : SeqAt.shaped d = true := by unfold SeqAt.shaped; rw [h, decide_eq_true q]; rfl
/-- data of at most so many floors, without texts -/
inductive Shp : Nat → D → Prop
  | non {n : Nat} : Shp n .none
  | bl {n : Nat} (b : Bool) : Shp n (.bool b)
  | int {n : Nat} (i : Int) : Shp n (.int i)
  | st {n : Nat} {z : Str} (h : PyData.strOk z = true) : Shp n (.str z)
  | tup {n : Nat} {xs : List D} : (∀ x ∈ xs, Shp n x) → Shp (n + 1) (.tuple xs)
  | lst {n : Nat} {xs : List D} : (∀ x ∈ xs, Shp n x) → Shp (n + 1) (.list xs)
theorem lay_all : ∀ {xs : List D} {n : Nat}, (∀ x ∈ xs, x.canLay0 = true ∧ x.depth ≤ n) → PyData.canLayAll0 xs = true ∧ PyData.depthAll xs ≤ n
  | [], n, _ => by simp [PyData.canLayAll0, PyData.depthAll]
  | x :: xs, n, h => by
    have h1 := h x (by simp)
    have h2 := lay_all (xs := xs) (n := n) fun y hy => h y (by simp [hy])
    simp only [PyData.canLayAll0, PyData.depthAll, h1.1, h2.1, Bool.and_self, true_and]
    omega
theorem Shp.lay {n : Nat} {d : D} (h : Shp n d) : d.canLay0 = true ∧ d.depth ≤ n + 1 := by
  induction h with
  | non => simp [PyData.canLay0, PyData.depth]
  | bl b => simp [PyData.canLay0, PyData.depth]
  | int i => simp [PyData.canLay0, PyData.depth]
  | st h => simp [PyData.canLay0, PyData.depth, h]
  | tup h ih =>
    obtain ⟨a, b⟩ := lay_all ih
    simp only [PyData.canLay0, PyData.depth]
    exact ⟨a, by omega⟩
  | lst h ih =>
    obtain ⟨a, b⟩ := lay_all ih
    simp only [PyData.canLay0, PyData.depth]
    exact ⟨a, by omega⟩
theorem Shp.shaped {n : Nat} {d : D} (h : Shp n d) (l : n ≤ 63) : SeqAt.shaped d = true := shp_of h.lay.1 (by have := h.lay.2; omega)
theorem shp_int {i : Int} : SeqAt.shaped (.int i) = true := (Shp.int (n := 0) i).shaped (by decide)
theorem eq_shp {n m : Nat} {x y : D} (h : Shp n x) (q : Shp m y) (l : n ≤ 63) (k : m ≤ 63) : eqD x y = some (PyData.eqv x y) := by
  unfold eqD
  rw [h.shaped l, q.shaped k]
  rfl
@[simp] theorem eq_ii {i j : Int} : eqD (.int i) (.int j) = some (decide (i = j)) := by
  unfold eqD
  rw [if_pos (by simp [shp_int]), PyData.eqv]
  simp [BEq.beq]
@[simp] theorem ne_ii {i j : Int} : neD (.int i) (.int j) = some (!decide (i = j)) := by unfold neD; rw [eq_ii]; rfl
@[simp] theorem back_no {as : List Sl} {rvs : List RV} {io : Option Nat} {Γ0 Γ : Ga} {d : D} (h : noL d = true) : backV as rvs io Γ0 Γ d = .ok (.d d, Γ) := by unfold backV; rw [if_pos h]
@[simp] theorem mk_nil {Γ : Ga} {io : Option Nat} : mkArgs Γ [] io = some [] := by cases io <;> (unfold mkArgs; rfl)
end FL

/-! FU5: comprehensions evaluated; stores. -/
namespace FL
open PySem PySem.Spec L2
section
variable {Γ Γ1 : Ga} {fi : FnI} {vs : List Nat} {g : FnG} {t : FnT} {f : FnE}
theorem lcF_map {F : D → D} : ∀ (xs acc : List D) (Γ : Ga), (∀ x ∈ xs, ∃ Γ1, g (.d x) Γ = some Γ1 ∧ f Γ1 = .ok (.d (F x), Γ1) ∧ wipeG Γ1 vs = Γ) → acc.length + xs.length ≤ lim → lcF vs g tOk f xs acc Γ = .ok (acc ++ xs.map F, Γ)
  | [], acc, Γ, _, _ => by simp [lcF]
  | x :: xs, acc, Γ, h, l => by
    obtain ⟨Γ1, e1, e2, e3⟩ := h x (by simp)
    have l' : acc.length < lim := by rw [List.length_cons] at l; omega
    unfold lcF
    rw [e1]
    simp only [tOk, Rs.bind_ok, if_true, e2, fz_d]
    rw [if_pos l', e3, lcF_map xs (acc ++ [F x]) Γ (fun y hy => h y (by simp [hy])) (by rw [List.length_append, List.length_cons, List.length_nil]; rw [List.length_cons] at l; omega)]
    simp
theorem lcF_filt {F : D → D} {c : D → Bool} : ∀ (xs acc : List D) (Γ : Ga), (∀ x ∈ xs, ∃ Γ1, g (.d x) Γ = some Γ1 ∧ t Γ1 = .ok (c x, Γ1) ∧ (c x = true → f Γ1 = .ok (.d (F x), Γ1)) ∧ wipeG Γ1 vs = Γ) → acc.length + xs.length ≤ lim → lcF vs g t f xs acc Γ = .ok (acc ++ (xs.filter c).map F, Γ)
  | [], acc, Γ, _, _ => by simp [lcF]
  | x :: xs, acc, Γ, h, l => by
    obtain ⟨Γ1, e1, e0, e2, e3⟩ := h x (by simp)
    rw [List.length_cons] at l
    have l' : acc.length < lim := by omega
    unfold lcF
    rw [e1]
    simp only [e0, Rs.bind_ok]
    cases q : c x with
    | true =>
      simp only [if_true, e2 q, Rs.bind_ok, fz_d]
      rw [if_pos l', e3, lcF_filt xs (acc ++ [F x]) Γ (fun y hy => h y (by simp [hy])) (by rw [List.length_append, List.length_cons, List.length_nil]; omega)]
      simp [q]
    | false =>
      simp only [Bool.false_eq_true, if_false]
      rw [e3, lcF_filt xs acc Γ (fun y hy => h y (by simp [hy])) (by omega)]
      simp [q]
theorem wipeG_len : ∀ vs : List Nat, (wipeG Γ vs).length = Γ.length
  | [] => rfl
  | v :: vs => by unfold wipeG; rw [List.length_set, wipeG_len vs]
theorem wipeG_out {i : Nat} : ∀ {vs : List Nat}, i ∉ vs → (wipeG Γ vs)[i]? = Γ[i]?
  | [], _ => rfl
  | v :: vs, h => by
    unfold wipeG
    rw [List.getElem?_set_ne (by rintro rfl; simp at h), wipeG_out fun z => h (by simp [z])]
theorem mend_wipe : mend Γ (wipeG Γ vs) vs = Γ := by
  unfold mend
  rw [wipeG_len]
  apply List.ext_getElem?
  intro i
  rw [List.getElem?_map]
  by_cases h : i < Γ.length
  · rw [List.getElem?_range h]
    by_cases m : i ∈ vs
    · simp [m, h]
    · simp [m, wipeG_out m, h]
  · rw [List.getElem?_eq_none (by simp; omega), List.getElem?_eq_none (by omega)]; rfl
theorem eLc_map {F : D → D} {xs : List D} (hi : fi Γ = .ok (xs, none, Γ1)) (hp : vs.all (plainAt Γ1) = true) (h : ∀ x ∈ xs, ∃ Γ2, g (.d x) (wipeG Γ1 vs) = some Γ2 ∧ f Γ2 = .ok (.d (F x), Γ2) ∧ wipeG Γ2 vs = wipeG Γ1 vs) (l : xs.length ≤ lim) :
    eLc fi vs g tOk f Γ = .ok (.ow (xs.map F), Γ1) := by
  unfold eLc
  rw [hi]
  simp only [Rs.bind_ok]
  rw [if_pos hp, lcF_map xs [] _ h (by simpa using l)]
  simp only [mend_wipe, List.nil_append]
theorem eLc_filt {F : D → D} {c : D → Bool} {xs : List D} (hi : fi Γ = .ok (xs, none, Γ1)) (hp : vs.all (plainAt Γ1) = true) (h : ∀ x ∈ xs, ∃ Γ2, g (.d x) (wipeG Γ1 vs) = some Γ2 ∧ t Γ2 = .ok (c x, Γ2) ∧ (c x = true → f Γ2 = .ok (.d (F x), Γ2)) ∧ wipeG Γ2 vs = wipeG Γ1 vs) (l : xs.length ≤ lim) :
    eLc fi vs g t f Γ = .ok (.ow ((xs.filter c).map F), Γ1) := by
  unfold eLc
  rw [hi]
  simp only [Rs.bind_ok]
  rw [if_pos hp, lcF_filt xs [] _ h (by simpa using l)]
  simp only [mend_wipe, List.nil_append]
end
theorem lim_of {n : Nat} (h : n ≤ 1000000) : n ≤ lim := Nat.le_trans h (by decide)
theorem lim_of' {n : Nat} (h : n < 1000000) : n < lim := Nat.lt_of_lt_of_le h (by decide)
theorem eLc_mapk {Γ Γ1 : Ga} {fi : FnI} {vs : List Nat} {g : FnG} {f : FnE} {α : Type} {ks : List α} {d F : α → D} (hi : fi Γ = .ok (ks.map d, none, Γ1)) (hp : vs.all (plainAt Γ1) = true) (h : ∀ x ∈ ks, ∃ Γ2, g (.d (d x)) (wipeG Γ1 vs) = some Γ2 ∧ f Γ2 = .ok (.d (F x), Γ2) ∧ wipeG Γ2 vs = wipeG Γ1 vs) (l : ks.length ≤ 1000000) :
    eLc fi vs g tOk f Γ = .ok (.ow (ks.map F), Γ1) := by
  have lc : ∀ (ks : List α) (acc : List D), (∀ x ∈ ks, ∃ Γ2, g (.d (d x)) (wipeG Γ1 vs) = some Γ2 ∧ f Γ2 = .ok (.d (F x), Γ2) ∧ wipeG Γ2 vs = wipeG Γ1 vs) → acc.length + ks.length ≤ lim → lcF vs g tOk f (ks.map d) acc (wipeG Γ1 vs) = .ok (acc ++ ks.map F, wipeG Γ1 vs) := by
    intro ks
    induction ks with
    | nil => intro acc _ _; simp [lcF]
    | cons x ks ih =>
      intro acc h l
      obtain ⟨Γ2, e1, e2, e3⟩ := h x (by simp)
      rw [List.length_cons] at l
      have l' : acc.length < lim := by omega
      rw [List.map_cons]
      unfold lcF
      rw [e1]
      simp only [tOk, Rs.bind_ok, if_true, e2, fz_d]
      rw [if_pos l', e3, ih (acc ++ [F x]) (fun y hy => h y (by simp [hy])) (by rw [List.length_append, List.length_cons, List.length_nil]; omega)]
      simp
  unfold eLc
  rw [hi]
  simp only [Rs.bind_ok]
  rw [if_pos hp, lc ks [] h (by rw [List.length_nil, Nat.zero_add]; exact lim_of l)]
  simp only [mend_wipe, List.nil_append]
@[simp] theorem all_map {α : Type} {xs : List α} {p : α → Bool} : allD (.list (xs.map fun x => .bool (p x))) = some (.bool (xs.all p)) := by
  have : xs.map (fun x => PyData.bool (p x)) = (xs.map p).map .bool := by rw [List.map_map]; rfl
  rw [this]
  show (boolsOf ((xs.map p).map .bool)).map _ = _
  rw [boolsOf_map]
  simp
@[simp] theorem any_map {α : Type} {xs : List α} {p : α → Bool} : anyD (.list (xs.map fun x => .bool (p x))) = some (.bool (xs.any p)) := by
  have : xs.map (fun x => PyData.bool (p x)) = (xs.map p).map .bool := by rw [List.map_map]; rfl
  rw [this]
  show (boolsOf ((xs.map p).map .bool)).map _ = _
  rw [boolsOf_map]
  simp
theorem ints_map {α : Type} {xs : List α} {p : α → Int} : intsOf (xs.map fun x => .int (p x)) = some (xs.map p) := by
  have : xs.map (fun x => PyData.int (p x)) = (xs.map p).map .int := by rw [List.map_map]; rfl
  rw [this, intsOf_map]
@[simp] theorem tupleD_l {xs : List D} : tupleD (.list xs) = some (.tuple xs) := rfl
@[simp] theorem tupleD_t {xs : List D} : tupleD (.tuple xs) = some (.tuple xs) := rfl
theorem mx_some {r : List Int} {x : Int} : ∃ m, mxI (x :: r) = some m ∧ (m = x ∨ m ∈ r) ∧ x ≤ m ∧ ∀ y ∈ r, y ≤ m := ⟨_, rfl, (foldl_max r x).1, (foldl_max r x).2.1, (foldl_max r x).2.2⟩
theorem atI_nat {α : Type} {xs : List α} {n : Nat} {x : α} (h : xs[n]? = some x) : atI xs (n : Int) = some x := by
  have hl : n < xs.length := by
    rcases Nat.lt_or_ge n xs.length with l | l
    · exact l
    · rw [List.getElem?_eq_none l] at h; cases h
  unfold atI ixN
  rw [if_pos (Int.natCast_nonneg n), if_pos (by omega)]
  simpa using h
theorem ix_tup {α : Type} {ks : List α} {f : α → D} {n : Nat} {k : α} (h : ks[n]? = some k) : ixD (.tuple (ks.map f)) (.int (n : Int)) = some (f k) := by
  show atI (ks.map f) (n : Int) = some (f k)
  exact atI_nat (by rw [List.getElem?_map, h]; rfl)
theorem ix_lst {α : Type} {ks : List α} {f : α → D} {n : Nat} {k : α} (h : ks[n]? = some k) : ixD (.list (ks.map f)) (.int (n : Int)) = some (f k) := by
  show atI (ks.map f) (n : Int) = some (f k)
  exact atI_nat (by rw [List.getElem?_map, h]; rfl)
@[simp] theorem bitK {x : Option Sl} {d : D} (h : x = some (.fz d)) : freeK (some x) = true := by rw [h]; rfl
theorem bits_lt {n : Nat} {i : Int} (h1 : 0 ≤ i) (h2 : i < ((2 ^ n : Nat) : Int)) : bits n i := by unfold bits; omega
@[simp] theorem ixt_0 {a : D} {r : List D} : ixD (.tuple (a :: r)) (.int 0) = some a := atI_nat (xs := a :: r) (n := 0) rfl
@[simp] theorem ixt_1 {a b : D} {r : List D} : ixD (.tuple (a :: b :: r)) (.int 1) = some b := atI_nat (xs := a :: b :: r) (n := 1) rfl
@[simp] theorem ixt_2 {a b c : D} {r : List D} : ixD (.tuple (a :: b :: c :: r)) (.int 2) = some c := atI_nat (xs := a :: b :: c :: r) (n := 2) rfl
@[simp] theorem ixt_3 {a b c d : D} {r : List D} : ixD (.tuple (a :: b :: c :: d :: r)) (.int 3) = some d := atI_nat (xs := a :: b :: c :: d :: r) (n := 3) rfl
@[simp] theorem ixt_4 {a b c d e : D} {r : List D} : ixD (.tuple (a :: b :: c :: d :: e :: r)) (.int 4) = some e := atI_nat (xs := a :: b :: c :: d :: e :: r) (n := 4) rfl
@[simp] theorem ixl_0 {a : D} {r : List D} : ixD (.list (a :: r)) (.int 0) = some a := atI_nat (xs := a :: r) (n := 0) rfl
@[simp] theorem ixl_1 {a b : D} {r : List D} : ixD (.list (a :: b :: r)) (.int 1) = some b := atI_nat (xs := a :: b :: r) (n := 1) rfl
@[simp] theorem ixl_2 {a b c : D} {r : List D} : ixD (.list (a :: b :: c :: r)) (.int 2) = some c := atI_nat (xs := a :: b :: c :: r) (n := 2) rfl
@[simp] theorem ixl_3 {a b c d : D} {r : List D} : ixD (.list (a :: b :: c :: d :: r)) (.int 3) = some d := atI_nat (xs := a :: b :: c :: d :: r) (n := 3) rfl
@[simp] theorem ixl_4 {a b c d e : D} {r : List D} : ixD (.list (a :: b :: c :: d :: e :: r)) (.int 4) = some e := atI_nat (xs := a :: b :: c :: d :: e :: r) (n := 4) rfl
theorem rgOk_b {i : Int} (h : -1000000000 ≤ i) (l : i ≤ 1000000000) : rgOk i = true := by
  unfold rgOk
  rw [Bool.and_eq_true, decide_eq_true_eq, decide_eq_true_eq]
  exact ⟨Int.le_trans (by decide) h, Int.lt_of_le_of_lt l (by decide)⟩
theorem rgOk_n {n : Nat} (h : n ≤ 1000000) : rgOk ((n : Nat) : Int) = true := rgOk_b (by omega) (by omega)
theorem rgOk_1 : rgOk 1 = true := rgOk_b (by decide) (by decide)
theorem r2_ap {fa : FnA} {Γ Γ1 : Ga} {i j : Int} (h : fa Γ = .ok ([.d (.int i), .d (.int j)], Γ1)) (hi : rgOk i = true) (hj : rgOk j = true) : iR2 fa Γ = .ok (rgs i (j - i).toNat, none, Γ1) := by
  unfold iR2
  rw [h]
  simp only [Rs.bind_ok]
  rw [hi, hj]
  rfl
@[simp] theorem lim_s : lim = 16777216 := rfl
@[simp] theorem ioK4_s {i : Nat} {Γ : Ga} {ys : List D} : ioK4 i Γ ys = if noLs ys then slPut Γ i ys else none := rfl
end FL

/-! FU6: what may be shown; kinds and stores; the box. -/
namespace FL
open PySem PySem.Spec L2
mutual
/-- none, truths, numbers of less than 1920 bits, lists and tuples of such -/
def numOk : D → Bool
  | .none => true
  | .bool _ => true
  | .int i => decide (i.natAbs.log2 < 1920)
  | .list xs => numsOk xs
  | .tuple xs => numsOk xs
  | .str z => decide ((PyData.shown (.str z)).length ≤ 1921)
  | .dict _ => false
def numsOk : List D → Bool
  | [] => true
  | x :: xs => numOk x && numsOk xs
end
mutual
def wt : D → Nat
  | .list xs => wts xs + 3
  | .tuple xs => wts xs + 3
  | _ => 1921
def wts : List D → Nat
  | [] => 0
  | x :: xs => wt x + 2 + wts xs
end
theorem app_len (a b : Str) : (a ++ b).length = a.length + b.length := Str.length_append a b
theorem from_len : ∀ (ts : List Str) (k : Nat) (acc : Str), (textFrom k acc ts).length ≤ acc.length + (ts.map fun t => t.length + 2).sum
  | [], k, acc => by simp [textFrom]
  | t :: r, k, acc => by
    have ih := from_len r (k + 1) (acc ++ (if k > 0 then ", " else "" : String) ++ t)
    rw [List.map_cons, List.sum_cons]
    refine Nat.le_trans ih ?_
    rw [app_len, app_len]
    have : (Str.ofString (if k > 0 then ", " else "" : String)).length ≤ 2 := by split <;> decide
    omega
theorem join_len : ∀ (ts : List Str), (Str.join ", " ts).length ≤ (ts.map fun t => t.length + 2).sum := fun ts => by
  cases ts with
  | nil => exact Nat.zero_le _
  | cons t r =>
    have := join_length_add (t :: r) (by simp)
    have q : ∀ l : List Str, piled l = (l.map fun t => t.length + 2).sum := fun l => by
      induction l with
      | nil => rfl
      | cons x l ih => simp [piled] at ih ⊢
    rw [q] at this
    omega
mutual
theorem shown_wt : ∀ (d : D), numOk d = true → d.showable = true ∧ d.hasDict = false ∧ d.shown.length ≤ wt d
  | .none, _ => by simp only [PyData.showable, PyData.hasDict, PyData.shown, wt]; decide
  | .bool b, _ => by cases b <;> (simp only [PyData.showable, PyData.hasDict, PyData.shown, wt]; decide)
  | .int i, h => by
    unfold numOk at h
    have h' := of_decide_eq_true h
    refine ⟨by simp only [PyData.showable]; exact h, by simp only [PyData.hasDict], ?_⟩
    simp only [PyData.shown, wt]
    exact PyProof.Rows.int_text_len_1921 h'
  | .str z, h => by
    unfold numOk at h
    have h' := of_decide_eq_true h
    refine ⟨by simp only [PyData.showable], by simp only [PyData.hasDict], ?_⟩
    unfold wt
    exact h'
  | .dict _, h => by unfold numOk at h; cases h
  | .list xs, h => by
    unfold numOk at h
    obtain ⟨a, b, c⟩ := shown_wts xs h
    refine ⟨by simp only [PyData.showable]; exact a, by simp only [PyData.hasDict]; exact b, ?_⟩
    simp only [PyData.shown, wt, listText]
    rw [app_len]
    have := from_len (PyData.shownAll xs) 0 "["
    have q1 : (Str.ofString "[").length = 1 := by decide
    have q2 : (Str.ofString "]").length = 1 := by decide
    omega
  | .tuple xs, h => by
    unfold numOk at h
    obtain ⟨a, b, c⟩ := shown_wts xs h
    refine ⟨by simp only [PyData.showable]; exact a, by simp only [PyData.hasDict]; exact b, ?_⟩
    simp only [PyData.shown, wt, tupleText]
    rw [app_len, app_len]
    have := join_len (PyData.shownAll xs)
    have q1 : (Str.ofString "(").length = 1 := by decide
    have q2 : (Str.ofString (if (PyData.shownAll xs).length == 1 then ",)" else ")" : String)).length ≤ 2 := by split <;> decide
    omega
theorem shown_wts : ∀ (xs : List D), numsOk xs = true → PyData.showableAll xs = true ∧ PyData.hasDictAll xs = false ∧ ((PyData.shownAll xs).map fun t => t.length + 2).sum ≤ wts xs
  | [], _ => by simp [PyData.showableAll, PyData.hasDictAll, PyData.shownAll, wts]
  | x :: xs, h => by
    unfold numsOk at h
    rw [Bool.and_eq_true] at h
    obtain ⟨a, b, c⟩ := shown_wt x h.1
    obtain ⟨a2, b2, c2⟩ := shown_wts xs h.2
    refine ⟨by simp only [PyData.showableAll, a, a2, Bool.and_self], by simp only [PyData.hasDictAll, b, b2, Bool.or_self], ?_⟩
    simp only [PyData.shownAll, wts, List.map_cons, List.sum_cons]
    omega
end
theorem shwOk_of {n : Nat} {d : D} (h : numOk d = true) (s : Shp n d) (hn : n ≤ 90) (w : wt d ≤ 1000000) : shwOk d = true := by
  obtain ⟨a, b, c⟩ := shown_wt d h
  have dp := s.lay.2
  unfold shwOk
  simp only [Bool.and_eq_true, Bool.not_eq_true', decide_eq_true_eq]
  exact ⟨⟨⟨a, b⟩, by omega⟩, Nat.le_trans c (lim_of w)⟩
theorem numsOk_of {xs : List D} (h : ∀ x ∈ xs, numOk x = true) : numsOk xs = true := by
  induction xs with
  | nil => unfold numsOk; rfl
  | cons x xs ih => unfold numsOk; rw [h x (by simp), ih fun y hy => h y (by simp [hy])]; rfl
theorem wts_of {xs : List D} {a : Nat} (h : ∀ x ∈ xs, wt x ≤ a) : wts xs ≤ (a + 2) * xs.length := by
  induction xs with
  | nil => unfold wts; omega
  | cons x xs ih =>
    have h1 := h x (by simp)
    have h2 := ih fun y hy => h y (by simp [hy])
    unfold wts
    rw [List.length_cons, Nat.mul_add, Nat.mul_one]
    omega
/-! comparing -/
@[simp] theorem eqS_ii {i j : Int} : eqS (.int i) (.int j) = some (decide (i = j)) := eq_ii
@[simp] theorem neS_ii {i j : Int} : neS (.int i) (.int j) = some (!decide (i = j)) := by unfold neS; rw [eqS_ii]; rfl
@[simp] theorem eqS_ss {a b : Str} : eqS (.str a) (.str b) = some (decide (a = b)) := rfl
@[simp] theorem neS_ss {a b : Str} : neS (.str a) (.str b) = some (!decide (a = b)) := rfl
theorem eqS_shp {n m : Nat} {x y : D} (h : Shp n x) (q : Shp m y) (l : n ≤ 63) (k : m ≤ 63) : eqS x y = some (PyData.eqv x y) := by
  cases h with
  | st hs =>
    cases q with
    | st ht =>
      show some (decide _) = _
      rw [PyData.eqv]
      refine congrArg some ?_
      rw [Bool.eq_iff_iff]
      simp
    | _ => rw [← eq_shp (.st hs) (by first | exact .non | exact .bl _ | exact .int _ | exact .tup ‹_› | exact .lst ‹_›) l k]; rfl
  | _ => rw [← eq_shp (by first | exact .non | exact .bl _ | exact .int _ | exact .tup ‹_› | exact .lst ‹_›) q l k]; rfl
theorem neS_shp {n m : Nat} {x y : D} (h : Shp n x) (q : Shp m y) (l : n ≤ 63) (k : m ≤ 63) : neS x y = some (!PyData.eqv x y) := by unfold neS; rw [eqS_shp h q l k]; rfl
theorem repr_l {xs : List D} (h : shwOk (.list xs) = true) : reprD (.list xs) = some (.str (PyData.shown (.list xs))) := by
  show (if shwOk (.list xs) then some (PyData.str (PyData.shown (.list xs))) else none) = _
  rw [if_pos h]
theorem repr_t {xs : List D} (h : shwOk (.tuple xs) = true) : reprD (.tuple xs) = some (.str (PyData.shown (.tuple xs))) := by
  show (if shwOk (.tuple xs) then some (PyData.str (PyData.shown (.tuple xs))) else none) = _
  rw [if_pos h]
/-! kinds -/
structure Kn where
  w : Int
  v : Int
  m : Option Int
def mD : Option Int → D
  | none => .none
  | some i => .int i
def Kn.d (k : Kn) : D := .tuple [.int k.w, .int k.v, mD k.m]
@[simp] theorem kn0 (k : Kn) : ixD k.d (.int 0) = some (.int k.w) := by unfold Kn.d; simp
@[simp] theorem kn1 (k : Kn) : ixD k.d (.int 1) = some (.int k.v) := by unfold Kn.d; simp
@[simp] theorem kn2 (k : Kn) : ixD k.d (.int 2) = some (mD k.m) := by unfold Kn.d; simp
structure Kn.ok (k : Kn) : Prop where
  w1 : 1 ≤ k.w
  v0 : 0 ≤ k.v
  m0 : ∀ x, k.m = some x → 0 ≤ x
theorem Kn.shp (k : Kn) : Shp 1 k.d := by
  refine .tup fun y hy => ?_
  simp at hy
  rcases hy with rfl | rfl | rfl
  · exact .int _
  · exact .int _
  · cases k.m with
    | none => exact .non
    | some i => exact .int i
theorem noL_kn (k : Kn) : noL k.d = true := by
  unfold Kn.d
  rcases k with ⟨w, v, _ | m⟩ <;> simp [mD]
theorem noLs_kn (ks : List Kn) : noLs (ks.map Kn.d) = true := by
  induction ks with
  | nil => simp
  | cons k ks ih => simp [ih, noL_kn]
@[simp] theorem isNone_m (m : Option Int) : isNone (mD m) = m.isNone := by cases m <;> rfl
end FL

/-! FU7: comprehensions over what is written as a map. -/
namespace FL
open PySem PySem.Spec L2
section
variable {α : Type} {Γ Γ1 Γ0 : Ga} {fi : FnI} {vs : List Nat} {g : FnG} {t : FnT} {f : FnE} {ks : List α} {d F : α → D} {c : α → Bool}
theorem lcF_k : ∀ (ks : List α) (acc : List D), (∀ x ∈ ks, ∃ Γ2, g (.d (d x)) (wipeG Γ1 vs) = some Γ2 ∧ t Γ2 = .ok (c x, Γ2) ∧ (c x = true → f Γ2 = .ok (.d (F x), Γ2)) ∧ wipeG Γ2 vs = wipeG Γ1 vs) → acc.length + ks.length ≤ lim → lcF vs g t f (ks.map d) acc (wipeG Γ1 vs) = .ok (acc ++ (ks.filter c).map F, wipeG Γ1 vs) := by
  intro ks
  induction ks with
  | nil => intro acc _ _; simp -implicitDefEqProofs [lcF]
  | cons x ks ih =>
    intro acc h l
    obtain ⟨Γ2, e1, e0, e2, e3⟩ := h x (by simp)
    rw [List.length_cons] at l
    have l' : acc.length < lim := by omega
    rw [List.map_cons]
    unfold lcF
    rw [e1]
    simp only [e0, bind_ok_s]
    cases q : c x with
    | true =>
      simp only [if_true, e2 q, bind_ok_s, fz_d]
      rw [if_pos l', e3, ih (acc ++ [F x]) (fun y hy => h y (by simp [hy])) (by rw [List.length_append, List.length_cons, List.length_nil]; omega), List.filter_cons_of_pos q]
      simp
    | false =>
      simp only [Bool.false_eq_true, if_false]
      rw [e3, ih acc (fun y hy => h y (by simp [hy])) (by omega), List.filter_cons_of_neg (by simp [q])]
/-- a comprehension with an if -/
theorem eLc_if (hi : fi Γ = .ok (ks.map d, none, Γ1)) (hp : vs.all (plainAt Γ1) = true) (h : ∀ x ∈ ks, ∃ Γ2, g (.d (d x)) (wipeG Γ1 vs) = some Γ2 ∧ t Γ2 = .ok (c x, Γ2) ∧ (c x = true → f Γ2 = .ok (.d (F x), Γ2)) ∧ wipeG Γ2 vs = wipeG Γ1 vs) (l : ks.length ≤ 1000000) :
    eLc fi vs g t f Γ = .ok (.ow ((ks.filter c).map F), Γ1) := by
  unfold eLc
  rw [hi]
  simp only [bind_ok_s]
  rw [if_pos hp, lcF_k ks [] h (by rw [List.length_nil, Nat.zero_add]; exact lim_of l)]
  simp only [mend_wipe, List.nil_append]
/-- .. over a name's own list, shut meanwhile -/
theorem eLc_lk {i : Nat} (hi : fi Γ = .ok (ks.map d, some i, Γ0)) (hs : shut i Γ0 = Γ1) (hu : unlk i Γ1 = some Γ0) (hp : vs.all (plainAt Γ1) = true) (h : ∀ x ∈ ks, ∃ Γ2, g (.d (d x)) (wipeG Γ1 vs) = some Γ2 ∧ t Γ2 = .ok (c x, Γ2) ∧ (c x = true → f Γ2 = .ok (.d (F x), Γ2)) ∧ wipeG Γ2 vs = wipeG Γ1 vs) (l : ks.length ≤ 1000000) :
    eLc fi vs g t f Γ = .ok (.ow ((ks.filter c).map F), Γ0) := by
  unfold eLc
  rw [hi]
  simp only [bind_ok_s]
  rw [hs, if_pos hp, lcF_k ks [] h (by rw [List.length_nil, Nat.zero_add]; exact lim_of l)]
  simp only [mend_wipe, List.nil_append, hu]
end
theorem filter_t {α : Type} {l : List α} : l.filter (fun _ => true) = l := by simp
theorem rgs0 {n : Nat} : rgs 0 n = (List.range n).map fun (i : Nat) => PyData.int (i : Int) := by
  unfold rgs
  exact List.map_congr_left fun i _ => by rw [Int.zero_add]
theorem enu_range (xs : List D) : enuD 0 xs = (List.range xs.length).map fun (i : Nat) => PyData.tuple [.int (i : Int), xs.getD i .none] := by
  apply List.ext_getElem?
  intro i
  rw [enuD_get, List.getElem?_map]
  by_cases h : i < xs.length
  · rw [List.getElem?_range h]
    simp [h, List.getD, Nat.zero_add]
  · rw [List.getElem?_eq_none (by omega), List.getElem?_eq_none (by simp; omega)]
    rfl
theorem eqv_int {i j : Int} : PyData.eqv (.int i) (.int j) = decide (i = j) := by rw [PyData.eqv]; simp [BEq.beq]
theorem notIn_ints {i : Nat} {G : List Nat} : notInD (.int (i : Int)) (.list (G.map fun (j : Nat) => PyData.int (j : Int))) = some (!decide (i ∈ G)) := by
  unfold notInD
  have e : inD (.int (i : Int)) (.list (G.map fun (j : Nat) => PyData.int (j : Int))) = some (decide (i ∈ G)) := by
    show (if SeqAt.shaped (.int (i : Int)) && SeqAt.shaped (.list (G.map fun (j : Nat) => PyData.int (j : Int))) then some ((G.map fun (j : Nat) => PyData.int (j : Int)).any fun z => PyData.eqv z (.int (i : Int))) else none) = _
    rw [shp_int, (Shp.lst (n := 0) (xs := G.map fun (j : Nat) => PyData.int (j : Int)) fun x hx => by obtain ⟨j, _, rfl⟩ := List.mem_map.mp hx; exact .int _).shaped (by decide)]
    rw [if_pos (by rfl)]
    congr 1
    rw [Bool.eq_iff_iff]
    simp only [List.any_map, List.any_eq_true, decide_eq_true_eq, Function.comp, eqv_int]
    constructor
    · rintro ⟨j, hj, e⟩
      have : j = i := by omega
      exact this ▸ hj
    · exact fun h => ⟨i, h, rfl⟩
  rw [e]; rfl
theorem lt_of_get {α : Type} {l : List α} {i : Nat} {x : α} (h : l[i]? = some x) : i < l.length := by
  rcases Nat.lt_or_ge i l.length with q | q
  · exact q
  · rw [List.getElem?_eq_none q] at h; cases h
theorem ne_nil {α : Type} {l : List α} {F : α → D} (hs : ∀ x ∈ l, Shp 8 (F x)) : neS (.list (l.map F)) (.list []) = some (!l.isEmpty) := by
  rw [neS_shp (n := 9) (m := 1) (.lst fun x hx => by obtain ⟨y, hy, rfl⟩ := List.mem_map.mp hx; exact hs y hy) (.lst fun x hx => by simp at hx) (by decide) (by decide)]
  cases l with
  | nil => rw [List.map_nil, PyData.eqv, PyData.eqvAll]; rfl
  | cons x l => rw [List.map_cons, PyData.eqv, PyData.eqvAll]; rfl
end FL

/-! FU8: while; the greatest divisor. -/
namespace FL
open PySem PySem.Spec L2
section
variable {t : FnT} {b : FnS}
/-- a while that comes to its end: a number that falls at each turn -/
theorem while_run (P : Nat → Ga → Prop) (Q : Ga → Prop) (step : ∀ n Γ, P n Γ → (t Γ = .ok (false, Γ) ∧ Q Γ) ∨ ∃ Γ2, t Γ = .ok (true, Γ) ∧ b Γ = .nx Γ2 ∧ ∃ m, m < n ∧ P m Γ2) : ∀ n Γ, P n Γ → ∃ Γ', sWhile t b Γ = .nx Γ' ∧ Q Γ' := by
  have go : ∀ n Γ, P n Γ → ∃ k Γ', whileN t b k Γ = .nx Γ' ∧ Q Γ' := fun n => by
    induction n using Nat.strongRecOn with
    | _ n ih =>
      intro Γ h
      rcases step n Γ h with ⟨e, q⟩ | ⟨Γ2, e, eb, m, hm, h2⟩
      · refine ⟨1, Γ, ?_, q⟩
        unfold whileN
        rw [e]; rfl
      · obtain ⟨k, Γ', e2, q⟩ := ih m hm Γ2 h2
        refine ⟨k + 1, Γ', ?_, q⟩
        unfold whileN
        rw [e, toS_ok]
        simp only [if_true, eb]
        exact e2
  intro n Γ h
  obtain ⟨k, Γ', e, q⟩ := go n Γ h
  exact ⟨Γ', by rw [sWhile_eq (n := k) (by rw [e]; rfl), e], q⟩
end
abbrev gcdT : FnT := tst (eBin (gB gtD) (eVar 1) (eC (.int 0)))
abbrev gcdB : FnS := sPar 0 1 (aCons (eVar 1) (aCons (eBin (g2 modD) (eVar 0) (eVar 1)) aNil))
theorem gcd_run {a b : Int} (ha : 0 ≤ a) (hb : 0 ≤ b) : sWhile gcdT gcdB [some (.fz (.int a)), some (.fz (.int b))] = .nx [some (.fz (.int (Int.gcd a b : Nat))), some (.fz (.int 0))] := by
  obtain ⟨Γ', e, q⟩ := while_run (t := gcdT) (b := gcdB) (fun n Γ => ∃ x y : Int, 0 ≤ x ∧ 0 ≤ y ∧ y.toNat = n ∧ Int.gcd x y = Int.gcd a b ∧ Γ = [some (.fz (.int x)), some (.fz (.int y))]) (fun Γ => Γ = [some (.fz (.int (Int.gcd a b : Nat))), some (.fz (.int 0))])
    (fun n Γ ⟨x, y, hx, hy, hn, hg, hΓ⟩ => by
      subst hΓ
      by_cases c : 0 < y
      · refine .inr ⟨[some (.fz (.int y)), some (.fz (.int (x % y)))], by simp -implicitDefEqProofs [c], by simp -implicitDefEqProofs [c], (x % y).toNat, ?_, y, x % y, hy, Int.emod_nonneg _ (by omega), rfl, ?_, rfl⟩
        · have := Int.emod_lt_of_pos x c
          have := Int.emod_nonneg x (Int.ne_of_gt c)
          omega
        · rw [← hg]
          obtain ⟨x', rfl⟩ := Int.eq_ofNat_of_zero_le hx
          obtain ⟨y', rfl⟩ := Int.eq_ofNat_of_zero_le hy
          rw [← Int.natCast_emod]
          show Nat.gcd y' (x' % y') = Nat.gcd x' y'
          rw [Nat.gcd_comm x' y', Nat.gcd_rec y' x', Nat.gcd_comm]
      · have y0 : y = 0 := by omega
        subst y0
        have e : ((Int.gcd a b : Nat) : Int) = x := by rw [← hg, Int.gcd_zero_right]; omega
        exact .inl ⟨by simp -implicitDefEqProofs, by rw [e]⟩) b.toNat _ ⟨a, b, ha, hb, rfl, rfl, rfl⟩
  rw [e, q]
end FL

/-! TA: typed readings: data as typed values, each reading's value by a rule. -/
namespace FL
open PySem PySem.Spec L2
/-! ### typed values as data -/
section
variable {α β γ δ ε : Type}
def dA : D → D := fun x => x
def dU : Unit → D := fun _ => .none
def dO (e : α → D) : Option α → D
  | none => .none
  | some x => e x
def dP1 (e : α → D) : α → D := fun x => .tuple [e x]
def dP2 (e : α → D) (f : β → D) : α × β → D := fun p => .tuple [e p.1, f p.2]
def dP3 (e : α → D) (f : β → D) (g : γ → D) : α × β × γ → D := fun p => .tuple [e p.1, f p.2.1, g p.2.2]
def dP4 (e : α → D) (f : β → D) (g : γ → D) (h : δ → D) : α × β × γ × δ → D := fun p => .tuple [e p.1, f p.2.1, g p.2.2.1, h p.2.2.2]
def dT (e : α → D) : List α → D := fun l => .tuple (l.map e)
def dL (e : α → D) : List α → D := fun l => .list (l.map e)
/-- no list in it -/
def NL (e : α → D) : Prop := ∀ x, noL (e x) = true
theorem nl_int : NL PyData.int := fun _ => by simp
theorem nl_bool : NL PyData.bool := fun _ => by simp
theorem nl_str : NL PyData.str := fun _ => by simp
theorem nl_U : NL dU := fun _ => by simp [dU]
theorem nl_O {e : α → D} (h : NL e) : NL (dO e) := fun x => by cases x with
  | none => simp [dO]
  | some y => exact h y
theorem nls_map {e : α → D} (h : NL e) : ∀ l : List α, noLs (l.map e) = true
  | [] => by simp [noLs]
  | x :: l => by rw [List.map_cons, noLs_cons, h x, nls_map h l]; rfl
theorem nl_T {e : α → D} (h : NL e) : NL (dT e) := fun l => by unfold dT; rw [noL_q1, nls_map h]
theorem nl_P1 {e : α → D} (h : NL e) : NL (dP1 e) := fun p => by unfold dP1; simp [h p]
theorem nl_P2 {e : α → D} {f : β → D} (h : NL e) (h2 : NL f) : NL (dP2 e f) := fun p => by unfold dP2; simp [h p.1, h2 p.2]
theorem nl_P3 {e : α → D} {f : β → D} {g : γ → D} (h : NL e) (h2 : NL f) (h3 : NL g) : NL (dP3 e f g) := fun p => by unfold dP3; simp [h p.1, h2 p.2.1, h3 p.2.2]
theorem nl_P4 {e : α → D} {f : β → D} {g : γ → D} {k : δ → D} (h : NL e) (h2 : NL f) (h3 : NL g) (h4 : NL k) : NL (dP4 e f g k) := fun p => by unfold dP4; simp [h p.1, h2 p.2.1, h3 p.2.2.1, h4 p.2.2.2]
/-- how deep -/
def SH (n : Nat) (e : α → D) : Prop := ∀ x, Shp n (e x)
theorem Shp.up {n : Nat} {d : D} (h : Shp n d) : Shp (n + 1) d := by
  induction h with
  | non => exact .non
  | bl b => exact .bl b
  | int i => exact .int i
  | st h => exact .st h
  | tup _ ih => exact .tup ih
  | lst _ ih => exact .lst ih
theorem Shp.le {n m : Nat} {d : D} (h : Shp n d) (l : n ≤ m) : Shp m d := by
  induction l with
  | refl => exact h
  | step _ ih => exact ih.up
theorem sh_int : SH 0 PyData.int := fun i => .int i
theorem shp_strs {l : List Str} (h : ∀ z ∈ l, PyData.strOk z = true) : Shp 1 (dL PyData.str l) := .lst fun x hx => by
  obtain ⟨z, hz, rfl⟩ := List.mem_map.mp hx
  exact .st (h z hz)
theorem sh_bool : SH 0 PyData.bool := fun i => .bl i
theorem sh_U : SH 0 dU := fun i => .non
theorem sh_O {e : α → D} {n : Nat} (h : SH n e) : SH n (dO e) := fun x => by cases x with
  | none => exact .non
  | some y => exact h y
theorem sh_T {e : α → D} {n : Nat} (h : SH n e) : SH (n + 1) (dT e) := fun l => .tup fun x hx => by
  obtain ⟨y, _, rfl⟩ := List.mem_map.mp hx; exact h y
theorem sh_L {e : α → D} {n : Nat} (h : SH n e) : SH (n + 1) (dL e) := fun l => .lst fun x hx => by
  obtain ⟨y, _, rfl⟩ := List.mem_map.mp hx; exact h y
theorem sh_P1 {e : α → D} {n : Nat} (h : SH n e) : SH (n + 1) (dP1 e) := fun p => .tup fun x hx => by
  simp at hx; subst hx; exact h p
theorem sh_P2 {e : α → D} {f : β → D} {n m : Nat} (h : SH n e) (h2 : SH m f) : SH (max n m + 1) (dP2 e f) := fun p => .tup fun x hx => by
  simp at hx; rcases hx with rfl | rfl
  · exact (h _).le (by omega)
  · exact (h2 _).le (by omega)
theorem sh_P3 {e : α → D} {f : β → D} {g : γ → D} {n m k : Nat} (h : SH n e) (h2 : SH m f) (h3 : SH k g) : SH (max n (max m k) + 1) (dP3 e f g) := fun p => .tup fun x hx => by
  simp at hx; rcases hx with rfl | rfl | rfl
  · exact (h _).le (by omega)
  · exact (h2 _).le (by omega)
  · exact (h3 _).le (by omega)
theorem sh_P4 {e : α → D} {f : β → D} {g : γ → D} {q : δ → D} {n m k j : Nat} (h : SH n e) (h2 : SH m f) (h3 : SH k g) (h4 : SH j q) : SH (max n (max m (max k j)) + 1) (dP4 e f g q) := fun p => .tup fun x hx => by
  simp at hx; rcases hx with rfl | rfl | rfl | rfl
  · exact (h _).le (by omega)
  · exact (h2 _).le (by omega)
  · exact (h3 _).le (by omega)
  · exact (h4 _).le (by omega)
/-- equal just where the data are; never None -/
def EQ [DecidableEq α] (e : α → D) : Prop := ∀ a b, PyData.eqv (e a) (e b) = decide (a = b)
def NN (e : α → D) : Prop := ∀ x, (PyData.eqv (e x) .none = false ∧ PyData.eqv .none (e x) = false) ∧ isNone (e x) = false
theorem nn_int : NN PyData.int := fun x => ⟨⟨by rw [PyData.eqv]; all_goals simp, by rw [PyData.eqv]; all_goals simp⟩, rfl⟩
theorem nn_bool : NN PyData.bool := fun x => ⟨⟨by cases x <;> (rw [PyData.eqv]; all_goals simp), by cases x <;> (rw [PyData.eqv]; all_goals simp)⟩, rfl⟩
theorem nn_str : NN PyData.str := fun x => ⟨⟨by rw [PyData.eqv]; all_goals simp, by rw [PyData.eqv]; all_goals simp⟩, rfl⟩
theorem nn_tup {e : α → List D} : NN (fun x => PyData.tuple (e x)) := fun x => ⟨⟨by rw [PyData.eqv]; all_goals simp, by rw [PyData.eqv]; all_goals simp⟩, rfl⟩
theorem nn_lst {e : α → List D} : NN (fun x => PyData.list (e x)) := fun x => ⟨⟨by rw [PyData.eqv]; all_goals simp, by rw [PyData.eqv]; all_goals simp⟩, rfl⟩
theorem nn_T {e : α → D} : NN (dT e) := nn_tup
theorem nn_L {e : α → D} : NN (dL e) := nn_lst
theorem nn_P1 {e : α → D} : NN (dP1 e) := nn_tup
theorem nn_P2 {e : α → D} {f : β → D} : NN (dP2 e f) := nn_tup
theorem nn_P3 {e : α → D} {f : β → D} {g : γ → D} : NN (dP3 e f g) := nn_tup
theorem nn_P4 {e : α → D} {f : β → D} {g : γ → D} {h : δ → D} : NN (dP4 e f g h) := nn_tup
theorem eq_int : EQ PyData.int := fun a b => eqv_int
theorem eq_str : EQ PyData.str := fun a b => by rw [PyData.eqv]; rw [Bool.eq_iff_iff]; simp
theorem eq_bool : EQ PyData.bool := fun a b => by cases a <;> cases b <;> (rw [PyData.eqv]; all_goals simp)
theorem eq_U : EQ dU := fun a b => by unfold dU; rw [PyData.eqv]; simp
theorem eq_O [DecidableEq α] {e : α → D} (h : EQ e) (n : NN e) : EQ (dO e) := fun a b => by
  cases a with
  | none => cases b with
    | none => show PyData.eqv .none .none = _; rw [PyData.eqv]; simp
    | some y => show PyData.eqv .none (e y) = _; rw [(n y).1.2]; simp
  | some x => cases b with
    | none => show PyData.eqv (e x) .none = _; rw [(n x).1.1]; simp
    | some y => show PyData.eqv (e x) (e y) = _; rw [h x y]; simp
theorem eqAll_map [DecidableEq α] {e : α → D} (h : EQ e) : ∀ a b : List α, PyData.eqvAll (a.map e) (b.map e) = decide (a = b)
  | [], [] => by rw [List.map_nil, PyData.eqvAll]; simp
  | [], y :: b => by rw [List.map_nil, List.map_cons, PyData.eqvAll]; all_goals simp
  | x :: a, [] => by rw [List.map_nil, List.map_cons, PyData.eqvAll]; all_goals simp
  | x :: a, y :: b => by
    rw [List.map_cons, List.map_cons, PyData.eqvAll, h x y, eqAll_map h a b, Bool.eq_iff_iff]
    simp
theorem eq_T [DecidableEq α] {e : α → D} (h : EQ e) : EQ (dT e) := fun a b => by unfold dT; rw [PyData.eqv]; exact eqAll_map h a b
theorem eq_L [DecidableEq α] {e : α → D} (h : EQ e) : EQ (dL e) := fun a b => by unfold dL; rw [PyData.eqv]; exact eqAll_map h a b
theorem eq_P1 [DecidableEq α] {e : α → D} (h : EQ e) : EQ (dP1 e) := fun a b => by
  unfold dP1
  rw [PyData.eqv, PyData.eqvAll, PyData.eqvAll, h, Bool.eq_iff_iff]
  simp
theorem eq_P2 [DecidableEq α] [DecidableEq β] {e : α → D} {f : β → D} (h : EQ e) (h2 : EQ f) : EQ (dP2 e f) := fun a b => by
  unfold dP2
  rw [PyData.eqv, PyData.eqvAll, PyData.eqvAll, PyData.eqvAll, h, h2, Bool.eq_iff_iff]
  simp [Prod.ext_iff]
theorem eq_P3 [DecidableEq α] [DecidableEq β] [DecidableEq γ] {e : α → D} {f : β → D} {g : γ → D} (h : EQ e) (h2 : EQ f) (h3 : EQ g) : EQ (dP3 e f g) := fun a b => by
  unfold dP3
  rw [PyData.eqv, PyData.eqvAll, PyData.eqvAll, PyData.eqvAll, PyData.eqvAll, h, h2, h3, Bool.eq_iff_iff]
  simp [Prod.ext_iff]
theorem eq_P4 [DecidableEq α] [DecidableEq β] [DecidableEq γ] [DecidableEq δ] {e : α → D} {f : β → D} {g : γ → D} {k : δ → D} (h : EQ e) (h2 : EQ f) (h3 : EQ g) (h4 : EQ k) : EQ (dP4 e f g k) := fun a b => by
  unfold dP4
  rw [PyData.eqv, PyData.eqvAll, PyData.eqvAll, PyData.eqvAll, PyData.eqvAll, PyData.eqvAll, h, h2, h3, h4, Bool.eq_iff_iff]
  simp [Prod.ext_iff]
/-- atoms -/
def FT1 (e : α → D) : Prop := ∀ x, flatD (e x) = true
theorem ft1_int : FT1 PyData.int := fun _ => rfl
theorem ft1_bool : FT1 PyData.bool := fun _ => rfl
theorem ft1_str : FT1 PyData.str := fun _ => rfl
theorem ft1_O {e : α → D} (h : FT1 e) : FT1 (dO e) := fun x => by cases x with
  | none => rfl
  | some y => exact h y
end
/-! ### words of typed values -/
instance : Inhabited D := ⟨.none⟩
def gI {α : Type} [Inhabited α] (l : List α) (i : Int) : α := l.getD i.toNat default
def lastI {α : Type} [Inhabited α] (l : List α) : α := l.getLastD default
def cutL {α : Type} (l : List α) (lo hi : Option Int) : List α := (l.drop (HT.sIx l.length 0 lo)).take (HT.sIx l.length l.length hi - HT.sIx l.length 0 lo)
def absI (i : Int) : Int := if i < 0 then -i else i
def rngI (lo hi : Int) : List Int := (List.range (hi - lo).toNat).map fun (i : Nat) => lo + (i : Int)
def enuF {α : Type} : Nat → List α → List (Int × α)
  | _, [] => []
  | i, x :: xs => ((i : Int), x) :: enuF (i + 1) xs
abbrev enuL {α : Type} (l : List α) : List (Int × α) := enuF 0 l
def maxL (l : List Int) : Int := (mxI l).getD 0
def minL (l : List Int) : Int := (mnI l).getD 0
def b2i (b : Bool) : Int := if b then 1 else 0
def setI {α : Type} (l : List α) (i : Int) (x : α) : List α := l.set i.toNat x
def remI (l : List Int) (k : Int) : List Int := l.erase k
def idxD (l : List Int) (k : Int) : Int := (((idxI l k).getD 0 : Nat) : Int)
def repT (d : D) : Str := match reprD d with
  | some (.str t) => t
  | _ => ""
/-! data read as typed values -/
def isInt : D → Bool
  | .int _ => true
  | _ => false
def asInt : D → Int
  | .int i => i
  | _ => 0
def asBool : D → Bool
  | .bool i => i
  | _ => false
def asStr : D → Str
  | .str i => i
  | _ => ""
def asTup : D → List D
  | .tuple xs => xs
  | _ => []
def asLst : D → List D
  | .list xs => xs
  | _ => []
def asOI : D → Option Int
  | .int i => some i
  | _ => none
def asK : D → Int × Int × Option Int
  | .tuple [a, b, c] => (asInt a, asInt b, asOI c)
  | _ => (0, 0, none)
def asS : D → List (Int × Int × Option Int)
  | .tuple xs => xs.map asK
  | _ => []
def getO {α : Type} [Inhabited α] (m : Option α) : α := m.getD default
def lenA (d : D) : Int := match lenD d with
  | some (.int n) => n
  | _ => 0
theorem map_dA (l : List D) : l.map dA = l := by
  have : (dA : D → D) = id := rfl
  rw [this, List.map_id]
theorem c_int {d : D} (h : isInt d = true) : dA d = .int (asInt d) := by cases d <;> first | rfl | cases h
theorem c_bool {d : D} (h : isiB .bool d = true) : dA d = .bool (asBool d) := by cases d <;> first | rfl | cases h
theorem c_str {d : D} (h : isiB .str d = true) : dA d = .str (asStr d) := by cases d <;> first | rfl | cases h
theorem c_tup {d : D} (h : isiB .tuple d = true) : dA d = dT dA (asTup d) := by
  cases d with
  | tuple xs => show PyData.tuple xs = .tuple (xs.map dA); rw [map_dA]
  | _ => cases h
theorem c_lst {d : D} (h : isiB .list d = true) : dA d = dL dA (asLst d) := by
  cases d with
  | list xs => show PyData.list xs = .list (xs.map dA); rw [map_dA]
  | _ => cases h
theorem c_opt {α : Type} [Inhabited α] {e : α → D} {m : Option α} (h : m ≠ none) : dO e m = e (getO m) := by
  cases m with
  | none => exact absurd rfl h
  | some x => rfl
theorem z_lenA {d : D} (h : (lenD d).isSome = true) : lenD d = some (.int (lenA d)) := by
  unfold lenA
  cases d with
  | str z => unfold lenD at h ⊢; split at h <;> simp_all
  | list xs => rfl
  | tuple xs => rfl
  | _ => cases h
theorem z_lenS {z : Str} (h : z.length ≤ 16777216) : lenD (.str z) = some (.int z.length) := by rw [lenD_q3, if_pos h]
@[simp] theorem asOI_dO (m : Option Int) : asOI (dO .int m) = m := by cases m <;> rfl
@[simp] theorem asK_k (k : Int × Int × Option Int) : asK (dP3 .int .int (dO .int) k) = k := by
  show (k.1, k.2.1, asOI (dO .int k.2.2)) = k
  rw [asOI_dO]
@[simp] theorem asS_s (l : List (Int × Int × Option Int)) : asS (dT (dP3 .int .int (dO .int)) l) = l := by
  show (l.map (dP3 .int .int (dO .int))).map asK = l
  rw [List.map_map]
  have : (asK ∘ dP3 PyData.int PyData.int (dO .int)) = id := funext fun k => asK_k k
  rw [this, List.map_id]
@[simp] theorem asInt_i (i : Int) : asInt (.int i) = i := rfl
@[simp] theorem isInt_i (i : Int) : isInt (.int i) = true := rfl
@[simp] theorem getO_s {α : Type} [Inhabited α] (x : α) : getO (some x) = x := rfl
theorem cut_map {α : Type} {e : α → D} {l : List α} {lo hi : Option Int} : cutD (l.map e) lo hi = (cutL l lo hi).map e := by
  unfold cutD cutL
  rw [List.length_map, List.map_take, List.map_drop]
theorem enu_map {α : Type} {e : α → D} : ∀ (k : Nat) (l : List α), enuD k (l.map e) = (enuF k l).map (dP2 PyData.int e)
  | _, [] => rfl
  | k, x :: l => by rw [List.map_cons]; unfold enuD enuF; rw [enu_map (k + 1) l]; rfl
theorem zip_map {α β : Type} {e : α → D} {f : β → D} : ∀ (l : List α) (m : List β), zipD (l.map e) (m.map f) = (l.zip m).map (dP2 e f)
  | [], m => by simp [zipD]
  | x :: l, [] => by simp [zipD]
  | x :: l, y :: m => by rw [List.map_cons, List.map_cons]; unfold zipD; rw [zip_map l m]; rfl
theorem rgs_rng {lo hi : Int} : rgs lo (hi - lo).toNat = (rngI lo hi).map PyData.int := by
  unfold rgs rngI
  rw [List.map_map]
  rfl
theorem atI_map {α : Type} [Inhabited α] {e : α → D} {l : List α} {i : Int} (h : 0 ≤ i ∧ i < l.length) : atI (l.map e) i = some (e (gI l i)) := by
  obtain ⟨n, rfl⟩ := Int.eq_ofNat_of_zero_le h.1
  have : n < l.length := by omega
  refine atI_nat ?_
  rw [List.getElem?_map]
  unfold gI
  simp [this]
theorem atI_last {α : Type} [Inhabited α] {e : α → D} {l : List α} (h : l ≠ []) : atI (l.map e) (-1) = some (e (lastI l)) := by
  obtain ⟨m, x, rfl⟩ : ∃ m x, l = m ++ [x] := ⟨l.dropLast, l.getLast h, (List.dropLast_concat_getLast h).symm⟩
  unfold atI lastI
  have : ixN (m.length + 1) (-1) = some m.length := by
    unfold ixN
    rw [if_neg (by decide), if_pos (by omega)]
    congr 1
    omega
  simp [this]
end FL

/-! TB: typed readings: expressions. -/
namespace FL
open PySem PySem.Spec L2
/-- may fail -/
abbrev Ex (α : Type) := Except Exc α
def exB {α β : Type} (m : Ex α) (f : α → Ex β) : Ex β := match m with
  | .ok a => f a
  | .error e => .error e
@[simp] theorem exB_ok {α β : Type} {a : α} {f : α → Ex β} : exB (.ok a) f = f a := rfl
@[simp] theorem exB_er {α β : Type} {e : Exc} {f : α → Ex β} : exB (.error e : Ex α) f = .error e := rfl
def exRs {α β : Type} (m : Ex α) (f : α → β) : Rs β := match m with
  | .ok a => .ok (f a)
  | .error e => .exc e
def toRs {α : Type} (e : α → D) (m : Ex α) : Rs D := exRs m e
def getOk {α : Type} [Inhabited α] (m : Ex α) : α := match m with
  | .ok a => a
  | .error _ => default
@[simp] theorem getOk_ok {α : Type} [Inhabited α] {a : α} : getOk (.ok a) = a := rfl
def isOk {α : Type} (m : Ex α) : Bool := match m with
  | .ok _ => true
  | .error _ => false
@[simp] theorem isOk_ok {α : Type} {a : α} : isOk (.ok a : Ex α) = true := rfl
@[simp] theorem isOk_er {α : Type} {a : Exc} : isOk (.error a : Ex α) = false := rfl
def isFz : Sl → Bool
  | .fz _ => true
  | _ => false
section
variable {Γ Γ1 Γ2 Γ3 : Ga} {f g h : FnE} {fa ga : FnA} {t u : FnT} {i : Nat} {d d' x y z : D} {ra rb rv : RV} {xs ys : List D}
theorem r_c : eC x Γ = .ok (.d x, Γ) := rfl
theorem r_var (h : Γ[i]? = some (some (.fz d))) : eVar i Γ = .ok (.d d, Γ) := by unfold eVar; rw [h]
theorem r_vsl {s : Sl} (h : Γ[i]? = some (some s)) (hs : isFz s = false) : eVar i Γ = .ok (.sl i, Γ) := by
  unfold eVar; rw [h]
  cases s <;> first | rfl | cases hs
theorem r_conv (h : f Γ = .ok (.d d, Γ1)) (e : d = d') : f Γ = .ok (.d d', Γ1) := e ▸ h
theorem r_cnvo (h : f Γ = .ok (.ow xs, Γ1)) (e : xs = ys) : f Γ = .ok (.ow ys, Γ1) := e ▸ h
theorem r_op (h : f Γ = .ok (rv, Γ1)) : eOp f Γ = .ok (rv.fz, Γ1) := by unfold eOp; rw [h]; rfl
theorem r_opd (h : f Γ = .ok (.d d, Γ1)) : eOp f Γ = .ok (.d d, Γ1) := r_op h
theorem r_opw (h : f Γ = .ok (.ow xs, Γ1)) : eOp f Γ = .ok (.d (.list xs), Γ1) := r_op h
theorem r_ops (h : f Γ = .ok (.sl i, Γ1)) : eOp f Γ = .ok (.sl i, Γ1) := r_op h
theorem r_bin {gg : RV → RV → Ga → Rs (RV × Ga)} {r : Rs (RV × Ga)} (h1 : eOp f Γ = .ok (ra, Γ1)) (h2 : eOp g Γ1 = .ok (rb, Γ2)) (h3 : gg ra rb Γ2 = r) : eBin gg f g Γ = r := by
  unfold eBin; rw [h1]; simp only [bind_ok_s]; rw [h2]; exact h3
theorem r_un {gg : RV → Ga → Rs (RV × Ga)} {r : Rs (RV × Ga)} (h1 : eOp f Γ = .ok (ra, Γ1)) (h3 : gg ra Γ1 = r) : eUn gg f Γ = r := by
  unfold eUn; rw [h1]; exact h3
theorem q_g2 {op : D → D → Option D} (hx : ra.get Γ = some x) (hy : rb.get Γ = some y) (hz : op x y = some z) : g2 op ra rb Γ = .ok (.d z, Γ) := by
  unfold g2; rw [hx, hy]; simp only [hz]
theorem q_gB {op : D → D → Option Bool} {b : Bool} (hx : ra.get Γ = some x) (hy : rb.get Γ = some y) (hz : op x y = some b) : gB op ra rb Γ = .ok (.d (.bool b), Γ) :=
  q_g2 hx hy (by simp only [hz, Option.map_some])
theorem q_g1 {op : D → Option D} (hx : ra.get Γ = some x) (hz : op x = some z) : g1 op ra Γ = .ok (.d z, Γ) := by
  unfold g1; rw [hx]; simp only [hz]
/-! arithmetic -/
theorem q_addI {a b : Int} : gAdd (.d (.int a)) (.d (.int b)) Γ = .ok (.d (.int (a + b)), Γ) := rfl
theorem q_addL {α : Type} {e : α → D} {l m : List α} (hx : ra.lst Γ = some (l.map e)) (hy : rb.lst Γ = some (m.map e)) (hl : l.length + m.length ≤ 16777216) : gAdd ra rb Γ = .ok (.ow ((l ++ m).map e), Γ) := by
  unfold gAdd; rw [hx, hy]
  simp only [List.length_map]
  rw [if_pos hl, List.map_append]
theorem q_addT {α : Type} {e : α → D} {l m : List α} (hl : l.length + m.length ≤ 16777216) : gAdd (.d (dT e l)) (.d (dT e m)) Γ = .ok (.d (dT e (l ++ m)), Γ) := by
  show g2 addD (.d (dT e l)) (.d (dT e m)) Γ = _
  refine q_g2 rfl rfl ?_
  unfold dT
  rw [addD_q3, List.length_map, List.length_map, if_pos hl, List.map_append]
theorem q_addF {a b : List D} (hl : Nat.ble (a.length + b.length) 16777216 = true) : gAdd (.d (.tuple a)) (.d (.tuple b)) Γ = .ok (.d (.tuple (a ++ b)), Γ) := by
  show g2 addD (.d (.tuple a)) (.d (.tuple b)) Γ = _
  refine q_g2 rfl rfl ?_
  rw [addD_q3, if_pos (Nat.le_of_ble_eq_true hl)]
theorem q_addS {a b : Str} (hl : a.length + b.length ≤ 16777216) : gAdd (.d (.str a)) (.d (.str b)) Γ = .ok (.d (.str (a ++ b)), Γ) := by
  show g2 addD (.d (.str a)) (.d (.str b)) Γ = _
  refine q_g2 rfl rfl ?_
  rw [addD_q2, if_pos hl]
theorem q_mulI {a b : Int} (h : mulOk a b = true) : gMul (.d (.int a)) (.d (.int b)) Γ = .ok (.d (.int (a * b)), Γ) := by
  show g2 mulD (.d (.int a)) (.d (.int b)) Γ = _
  refine q_g2 rfl rfl ?_
  show (if mulOk a b then some (PyData.int (a * b)) else none) = _
  rw [if_pos h]
theorem q_mulL {α : Type} {e : α → D} {l : List α} {k : Int} (hx : ra.lst Γ = some (l.map e)) (hc : k < 1000000 ∧ -1000000 ≤ k ∧ l.length * k.toNat ≤ 16777216) : gMul ra (.d (.int k)) Γ = .ok (.ow ((List.replicate k.toNat l).flatten.map e), Γ) := by
  unfold gMul; rw [hx]
  simp only [get_d, List.length_map]
  rw [if_pos ⟨by omega, by omega, hc.2.2⟩, List.map_flatten, List.map_replicate]
theorem q_mulT {α : Type} {e : α → D} {l : List α} {k : Int} (hc : l ≠ [] ∧ 2 ≤ k ∧ k ≤ 1000 ∧ l.length ≤ 1000) : gMul (.d (dT e l)) (.d (.int k)) Γ = .ok (.d (dT e (List.replicate k.toNat l).flatten), Γ) := by
  show g2 mulD (.d (dT e l)) (.d (.int k)) Γ = _
  refine q_g2 rfl rfl ?_
  obtain ⟨h1, h2, h3, h4⟩ := hc
  have h1' : (l.map e).isEmpty = false := by cases l with
    | nil => exact absurd rfl h1
    | cons a b => rfl
  show (if !(l.map e).isEmpty && decide (2 ≤ k) && decide (k ≤ 1000) && decide ((l.map e).length ≤ 1000) then some (PyData.tuple (List.replicate k.toNat (l.map e)).flatten) else none) = _
  rw [if_pos (by simp [h1', h2, h3, h4])]
  unfold dT
  rw [List.map_flatten, List.map_replicate]
theorem z_fdiv {a b : Int} (h : fdivOk b = true) : fdivD (.int a) (.int b) = some (.int (a / b)) := by rw [fdivD_q1, if_pos h]
theorem z_mod {a b : Int} (h : 0 < b) : modD (.int a) (.int b) = some (.int (a % b)) := by rw [modD_q1, if_pos h]
theorem z_pow {a b : Int} (h : 0 ≤ b ∧ b ≤ 1000000 ∧ a.natAbs < 18446744073709551616) : powD (.int a) (.int b) = some (.int (a ^ b.toNat)) := by rw [powD_q1, if_pos h]
theorem z_dm {a b : Int} (h : fdivOk b = true) : divmodD (.int a) (.int b) = some (dP2 .int .int (a / b, a % b)) := by rw [divmodD_q1, if_pos h]; rfl
/-! subscripts -/
theorem z_ixT {α : Type} [Inhabited α] {e : α → D} {l : List α} {i : Int} (h : 0 ≤ i ∧ i < l.length) : ixD (dT e l) (.int i) = some (e (gI l i)) := atI_map h
theorem z_ixL {α : Type} [Inhabited α] {e : α → D} {l : List α} {i : Int} (h : 0 ≤ i ∧ i < l.length) : ixD (dL e l) (.int i) = some (e (gI l i)) := atI_map h
theorem z_laT {α : Type} [Inhabited α] {e : α → D} {l : List α} (h : l ≠ []) : ixD (dT e l) (.int (-1)) = some (e (lastI l)) := atI_last h
theorem z_laL {α : Type} [Inhabited α] {e : α → D} {l : List α} (h : l ≠ []) : ixD (dL e l) (.int (-1)) = some (e (lastI l)) := atI_last h
/-! comparing -/
theorem z_eq {α : Type} [DecidableEq α] {e : α → D} {n : Nat} {a b : α} (he : EQ e) (hs : SH n e) (hn : Nat.ble n 63 = true) : eqS (e a) (e b) = some (decide (a = b)) := by
  rw [eqS_shp (hs a) (hs b) (Nat.le_of_ble_eq_true hn) (Nat.le_of_ble_eq_true hn), he]
theorem z_ne {α : Type} [DecidableEq α] {e : α → D} {n : Nat} {a b : α} (he : EQ e) (hs : SH n e) (hn : Nat.ble n 63 = true) : neS (e a) (e b) = some (!decide (a = b)) := by
  unfold neS; rw [z_eq he hs hn]; rfl
theorem z_eqs {a b : Str} : eqS (.str a) (.str b) = some (decide (a = b)) := rfl
theorem z_nes {a b : Str} : neS (.str a) (.str b) = some (!decide (a = b)) := rfl
/-- is it in the list -/
def memB {α : Type} [DecidableEq α] (a : α) (l : List α) : Bool := decide (a ∈ l)
theorem any_mem {α : Type} [DecidableEq α] {e : α → D} {a : α} {l : List α} (he : EQ e) : ((l.map e).any fun z => PyData.eqv z (e a)) = memB a l := by
  unfold memB
  rw [Bool.eq_iff_iff, List.any_map]
  simp only [List.any_eq_true, Function.comp, decide_eq_true_eq]
  constructor
  · rintro ⟨z, hz, h⟩
    rw [he] at h
    have : z = a := of_decide_eq_true h
    rw [← this]; exact hz
  · exact fun h => ⟨a, h, by rw [he]; simp⟩
theorem z_inL {α : Type} [DecidableEq α] {e : α → D} {n : Nat} {a : α} {l : List α} (he : EQ e) (hs : SH n e) (hn : Nat.ble n 62 = true) : inD (e a) (dL e l) = some (memB a l) := by
  have hn' := Nat.le_of_ble_eq_true hn
  show (if SeqAt.shaped (e a) && SeqAt.shaped (dL e l) then some ((l.map e).any fun z => PyData.eqv z (e a)) else none) = _
  rw [(hs a).shaped (by omega), (sh_L hs l).shaped (by omega), if_pos (by rfl), any_mem he]
theorem z_inT {α : Type} [DecidableEq α] {e : α → D} {a : α} {l : List α} (he : EQ e) (hs : FT1 e) : inD (e a) (dT e l) = some (memB a l) := by
  show (if flatD (e a) && (l.map e).all flatD then some ((l.map e).any fun z => PyData.eqv z (e a)) else none) = _
  rw [hs a, if_pos (by simp [List.all_map]; exact fun x _ => hs x), any_mem he]
theorem z_nin {x y : D} {b : Bool} (h : inD x y = some b) : notInD x y = some (!b) := by unfold notInD; rw [h]; rfl
theorem isNone_O {α : Type} {e : α → D} {m : Option α} (h : NN e) : isNone (dO e m) = m.isNone := by
  cases m with
  | none => rfl
  | some x => exact (h x).2
theorem z_isO {α : Type} {e : α → D} {m : Option α} (h : NN e) : isND (dO e m) .none = some m.isNone := by
  show some (isNone _) = _; rw [isNone_O h]
theorem z_inO {α : Type} {e : α → D} {m : Option α} (h : NN e) : isNotND (dO e m) .none = some (!m.isNone) := by
  show some (!isNone _) = _; rw [isNone_O h]
theorem z_isN {α : Type} {e : α → D} {m : α} (h : NN e) : isND (e m) .none = some false := by
  show some (isNone _) = _; rw [(h m).2]
theorem z_inN {α : Type} {e : α → D} {m : α} (h : NN e) : isNotND (e m) .none = some true := by
  show some (!isNone _) = _; rw [(h m).2]; rfl
/-! built-ins -/
theorem z_lenT {α : Type} {e : α → D} {l : List α} : lenD (dT e l) = some (.int l.length) := by unfold dT; rw [lenD_q2, List.length_map]
theorem z_lenL {α : Type} {e : α → D} {l : List α} : lenD (dL e l) = some (.int l.length) := by unfold dL; rw [lenD_q1, List.length_map]
theorem z_sum {l : List Int} : sumD (dL .int l) = some (.int l.sum) := by unfold dL; rw [sumD_q1, intsOf_map]; rfl
theorem z_all {l : List Bool} : allD (dL .bool l) = some (.bool (l.all id)) := by show (boolsOf (l.map .bool)).map _ = _; rw [boolsOf_map]; rfl
theorem z_any {l : List Bool} : anyD (dL .bool l) = some (.bool (l.any id)) := by show (boolsOf (l.map .bool)).map _ = _; rw [boolsOf_map]; rfl
theorem z_max {l : List Int} (h : l ≠ []) : maxD (dL .int l) = some (.int (maxL l)) := by
  show ((intsOf (l.map .int)).bind mxI).map _ = _
  rw [intsOf_map]
  cases l with
  | nil => exact absurd rfl h
  | cons x r => rfl
theorem z_min {l : List Int} (h : l ≠ []) : minD (dL .int l) = some (.int (minL l)) := by
  show ((intsOf (l.map .int)).bind mnI).map _ = _
  rw [intsOf_map]
  cases l with
  | nil => exact absurd rfl h
  | cons x r => rfl
theorem z_tup {α : Type} {e : α → D} {l : List α} : tupleD (dL e l) = some (dT e l) := rfl
theorem z_tupT {α : Type} {e : α → D} {l : List α} : tupleD (dT e l) = some (dT e l) := rfl
theorem q_list {α : Type} {e : α → D} {l : List α} (hx : ra.get Γ = some (dT e l) ∨ ra.get Γ = some (dL e l)) : gList ra Γ = .ok (.ow (l.map e), Γ) := by
  unfold gList
  rcases hx with hx | hx <;> (rw [hx]; rfl)
theorem z_repr (h : (reprD x).isSome = true) : reprD x = some (.str (repT x)) := by
  unfold repT
  cases q : reprD x with
  | none => rw [q] at h; cases h
  | some w => obtain ⟨t, rfl⟩ := repr_str q; rfl
/-! tests -/
theorem r_tst {b : Bool} (h : f Γ = .ok (.d (.bool b), Γ1)) : tst f Γ = .ok (b, Γ1) := by unfold tst; rw [h]; rfl
theorem r_fnot {b : Bool} (h : t Γ = .ok (b, Γ1)) : fNot t Γ = .ok (!b, Γ1) := by unfold fNot; rw [h]; rfl
theorem r_fand {a b : Bool} (h : t Γ = .ok (a, Γ1)) (h2 : a = true → u Γ1 = .ok (b, Γ1)) : fAnd t u Γ = .ok (a && b, Γ1) := by
  unfold fAnd; rw [h]
  cases a with
  | true => simp only [bind_ok_s, if_true]; rw [h2 rfl]; rfl
  | false => rfl
theorem r_for {a b : Bool} (h : t Γ = .ok (a, Γ1)) (h2 : a = false → u Γ1 = .ok (b, Γ1)) : fOr t u Γ = .ok (a || b, Γ1) := by
  unfold fOr; rw [h]
  cases a with
  | true => rfl
  | false => simp only [bind_ok_s, Bool.false_eq_true, if_false]; rw [h2 rfl]; rfl
theorem r_enot {b : Bool} (h : f Γ = .ok (.d (.bool b), Γ1)) : eNot f Γ = .ok (.d (.bool (!b)), Γ1) := by unfold eNot; rw [r_tst h]; rfl
theorem r_eand {a b : Bool} (h : f Γ = .ok (.d (.bool a), Γ1)) (h2 : a = true → g Γ1 = .ok (.d (.bool b), Γ1)) : eAnd f g Γ = .ok (.d (.bool (a && b)), Γ1) := by
  unfold eAnd; rw [r_tst h]
  cases a with
  | true => simp only [bind_ok_s, if_true]; rw [h2 rfl]; rfl
  | false => rfl
theorem r_eor {a b : Bool} (h : f Γ = .ok (.d (.bool a), Γ1)) (h2 : a = false → g Γ1 = .ok (.d (.bool b), Γ1)) : eOr f g Γ = .ok (.d (.bool (a || b)), Γ1) := by
  unfold eOr; rw [r_tst h]
  cases a with
  | true => rfl
  | false => simp only [bind_ok_s, Bool.false_eq_true, if_false]; rw [h2 rfl]; rfl
theorem r_eif {α : Type} {e : α → D} {c : Bool} {v w : α} (h : t Γ = .ok (c, Γ1)) (h2 : c = true → f Γ1 = .ok (.d (e v), Γ2)) (h3 : c = false → g Γ1 = .ok (.d (e w), Γ2)) : eIf t f g Γ = .ok (.d (e (if c then v else w)), Γ2) := by
  unfold eIf; rw [h]
  cases c with
  | true => simp only [bind_ok_s, if_true]; exact h2 rfl
  | false => simp only [bind_ok_s, Bool.false_eq_true, if_false]; exact h3 rfl
/-! arguments, displays -/
theorem r_nil : aNil Γ = .ok ([], Γ) := rfl
theorem r_cons {r : RV} {rs : List RV} (h1 : eOp f Γ = .ok (r, Γ1)) (h2 : ga Γ1 = .ok (rs, Γ2)) : aCons f ga Γ = .ok (r :: rs, Γ2) := by
  unfold aCons; rw [h1]; simp only [bind_ok_s]; rw [h2]; rfl
theorem r_tup {rs : List RV} (h : ga Γ = .ok (rs, Γ1)) (hf : rvsFz rs Γ1 = some (xs, Γ2)) (hl : Nat.ble xs.length 16777216 = true) : eTup ga Γ = .ok (.d (.tuple xs), Γ2) := by
  unfold eTup; rw [h]; simp only [bind_ok_s]; rw [hf]; simp only [lim_s]; rw [if_pos (Nat.le_of_ble_eq_true hl)]
theorem r_lst {α : Type} (e : α → D) (l : List α) {rs : List RV} (h : ga Γ = .ok (rs, Γ1)) (hf : rvsFz rs Γ1 = some (l.map e, Γ2)) (hl : Nat.ble l.length 16777216 = true) : eLst ga Γ = .ok (.ow (l.map e), Γ2) := by
  unfold eLst; rw [h]; simp only [bind_ok_s]; rw [hf]; simp only [List.length_map, lim_s]; rw [if_pos (Nat.le_of_ble_eq_true hl)]
/-! slices -/
theorem r_on : oNone Γ = .ok (none, Γ) := rfl
theorem r_os {k : Int} (h : f Γ = .ok (.d (.int k), Γ1)) : oSome f Γ = .ok (some k, Γ1) := by unfold oSome; rw [h]; rfl
theorem r_slL {α : Type} {e : α → D} {l : List α} {lo hi : FnO} {a b : Option Int} (h : eOp f Γ = .ok (rv, Γ1)) (h1 : lo Γ1 = .ok (a, Γ2)) (h2 : hi Γ2 = .ok (b, Γ3)) (hx : rv.lst Γ3 = some (l.map e)) : eSl f lo hi Γ = .ok (.ow ((cutL l a b).map e), Γ3) := by
  unfold eSl; rw [h]; simp only [bind_ok_s]; rw [h1]; simp only [bind_ok_s]; rw [h2]; simp only [bind_ok_s]; rw [hx]; simp only [cut_map]
theorem r_slT {α : Type} {e : α → D} {l : List α} {lo hi : FnO} {a b : Option Int} (h : f Γ = .ok (.d (dT e l), Γ1)) (h1 : lo Γ1 = .ok (a, Γ2)) (h2 : hi Γ2 = .ok (b, Γ3)) : eSl f lo hi Γ = .ok (.d (dT e (cutL l a b)), Γ3) := by
  unfold eSl; rw [r_opd h]; simp only [bind_ok_s]; rw [h1]; simp only [bind_ok_s]; rw [h2]; simp only [bind_ok_s]
  show Rs.ok (RV.d (.tuple (cutD (l.map e) a b)), Γ3) = _
  rw [cut_map]; rfl
theorem r_slF {lo hi : FnO} {a b : Option Int} (h : f Γ = .ok (.d (.tuple xs), Γ1)) (h1 : lo Γ1 = .ok (a, Γ2)) (h2 : hi Γ2 = .ok (b, Γ3)) : eSl f lo hi Γ = .ok (.d (.tuple (cutD xs a b)), Γ3) := by
  unfold eSl; rw [r_opd h]; simp only [bind_ok_s]; rw [h1]; simp only [bind_ok_s]; rw [h2]; rfl
/-! calls -/
theorem all_nil : ([] : List Sl).all Sl.flat = true := rfl
theorem all_cons {a : Sl} {as : List Sl} (h : Sl.flat a = true) (hs : as.all Sl.flat = true) : (a :: as).all Sl.flat = true := by rw [List.all_cons, h, hs]; rfl
theorem r_call {run : FnR} {np : Nat} {rvs : List RV} {as : List Sl} (ha : fa Γ = .ok (rvs, Γ1)) (hl : rvs.length = np) (hm : mkArgs Γ1 rvs none = some as) (hv : (run as).val = .ok d) (hn : noL d = true) : eCall run np none fa Γ = .ok (.d d, Γ1) := by
  rw [eCall_ap, ha]
  simp only [bind_ok_s, callK_q1]
  rw [if_pos hl, hm]
  simp only [callK2_q1, hv, callV_q1]
  unfold backV
  rw [if_pos hn]
theorem back_fl {as : List Sl} {rvs : List RV} {io : Option Nat} {Γ0 Γ : Ga} {ds : List D} (h : as.all Sl.flat = true) (q : noLs ds = true) : backV as rvs io Γ0 Γ (.list ds) = .ok (.ow ds, Γ) := by
  unfold backV
  rw [if_neg (by simp)]
  simp only [h, q, Bool.and_self, if_true]
theorem r_callL {α : Type} {e : α → D} {l : List α} {run : FnR} {np : Nat} {rvs : List RV} {as : List Sl} (ha : fa Γ = .ok (rvs, Γ1)) (hl : rvs.length = np) (hm : mkArgs Γ1 rvs none = some as) (hv : (run as).val = .ok (dL e l)) (hf : as.all Sl.flat = true) (hn : NL e) : eCall run np none fa Γ = .ok (.ow (l.map e), Γ1) := by
  rw [eCall_ap, ha]
  simp only [bind_ok_s, callK_q1]
  rw [if_pos hl, hm]
  simp only [callK2_q1, hv, callV_q1]
  exact back_fl hf (nls_map hn l)
theorem r_callD {run : FnR} {np : Nat} {rvs : List RV} {as : List Sl} (ha : fa Γ = .ok (rvs, Γ1)) (hl : rvs.length = np) (hm : mkArgs Γ1 rvs none = some as) (hv : (run as).val = .ok d) (hp : plainAll rvs none Γ1 = true) (hd : (∃ l, d = .list l ∧ noLs l = false) ∨ ((∀ l, d ≠ .list l) ∨ as.all Sl.flat = false)) : eCall run np none fa Γ = .ok (.d d, Γ1) := by
  rw [eCall_ap, ha]
  simp only [bind_ok_s, callK_q1]
  rw [if_pos hl, hm]
  simp only [callK2_q1, hv, callV_q1]
  unfold backV
  split
  · rfl
  · cases d with
    | list l =>
      have : (as.all Sl.flat && noLs l) = false := by
        rcases hd with ⟨l', e, q⟩ | q | q
        · cases e; rw [q, Bool.and_false]
        · exact absurd rfl (q l)
        · rw [q, Bool.false_and]
      simp only [this, hp, if_true, Bool.false_eq_true, if_false]
    | _ => simp only [hp, if_true]
theorem r_callIo {run : FnR} {np j : Nat} {rvs : List RV} {as : List Sl} (ha : fa Γ = .ok (rvs, Γ1)) (hl : rvs.length = np) (hr : rvs[j]? = some (.sl i)) (hu : (rvs.eraseIdx j).all (fun r => !isSl i r) = true) (hm : mkArgs Γ1 rvs (some j) = some as)
    (hv : (run as).io j = .ok (d, ys)) (hy : noLs ys = true) (hp : slPut Γ1 i ys = some Γ2) (hn : noL d = true) : eCall run np (some j) fa Γ = .ok (.d d, Γ2) := by
  rw [eCallIo_ap, ha]
  simp only [bind_ok_s, callIoK_q1]
  rw [if_pos hl, hr]
  simp only [callIoK1_q1]
  rw [if_pos hu, hm]
  simp only [callIoK2_q1, hv, callIo_q1]
  unfold ioK4
  rw [if_pos hy, hp]
  simp only [ioK3_q1]
  unfold backV
  rw [if_pos hn]
theorem r_callIoL {α : Type} {e : α → D} {l : List α} {run : FnR} {np j : Nat} {rvs : List RV} {as : List Sl} (ha : fa Γ = .ok (rvs, Γ1)) (hl : rvs.length = np) (hr : rvs[j]? = some (.sl i)) (hu : (rvs.eraseIdx j).all (fun r => !isSl i r) = true) (hm : mkArgs Γ1 rvs (some j) = some as)
    (hv : (run as).io j = .ok (dL e l, ys)) (hy : noLs ys = true) (hp : slPut Γ1 i ys = some Γ2) (hf : as.all Sl.flat = true) (hn : NL e) : eCall run np (some j) fa Γ = .ok (.ow (l.map e), Γ2) := by
  rw [eCallIo_ap, ha]
  simp only [bind_ok_s, callIoK_q1]
  rw [if_pos hl, hr]
  simp only [callIoK1_q1]
  rw [if_pos hu, hm]
  simp only [callIoK2_q1, hv, callIo_q1]
  unfold ioK4
  rw [if_pos hy, hp]
  simp only [ioK3_q1]
  exact back_fl hf (nls_map hn l)
theorem r_callF {run : FnR} {np : Nat} {rvs : List RV} {as : List Sl} (ha : fa Γ = .ok (rvs, Γ1)) (hl : rvs.length = np) (hm : mkArgs Γ1 rvs none = some as) (hv : (run as).val = .ok d) (hp : plainAll rvs none Γ1 = true) : eCallF run np none fa Γ = .ok (.d d, Γ1) := by
  have hp' : ((List.range rvs.length).all fun j => decide (none = some j) || ((rvs[j]?).map (plainRv Γ1)).getD true) = true := hp
  cases q : run as with
  | bad => rw [q] at hv; cases hv
  | exc e => rw [q] at hv; cases hv
  | ok d' outs =>
    rw [q] at hv
    have e : d' = d := by cases hv; rfl
    subst e
    unfold eCallF eCallB
    rw [ha]
    simp only [Rs.bind_ok]
    rw [if_pos ⟨hl, rfl⟩, hm]
    simp only [q, ioBack]
    split
    · rfl
    · cases d' <;> simp only [Bool.not_true, Bool.false_and, Bool.false_eq_true, if_false, hp', if_true]
theorem r_callIoF {run : FnR} {np j : Nat} {rvs : List RV} {as : List Sl} (ha : fa Γ = .ok (rvs, Γ1)) (hl : rvs.length = np) (hr : rvs[j]? = some (.sl i)) (hu : (rvs.eraseIdx j).all (fun r => !isSl i r) = true) (hm : mkArgs Γ1 rvs (some j) = some as)
    (hv : (run as).io j = .ok (d, ys)) (hy : noLs ys = true) (hp : slPut Γ1 i ys = some Γ2) (hq : plainAll rvs (some j) Γ1 = true) : eCallF run np (some j) fa Γ = .ok (.d d, Γ2) := by
  have hq' : ((List.range rvs.length).all fun k => decide (some j = some k) || ((rvs[k]?).map (plainRv Γ1)).getD true) = true := hq
  have fine : ioFine rvs (some j) = true := by
    unfold ioFine
    simp only [hr]
    exact hu
  cases q : run as with
  | bad => rw [q] at hv; cases hv
  | exc e => rw [q] at hv; cases hv
  | ok d' outs =>
    rw [q] at hv
    have ib : ioBack rvs (some j) outs Γ1 = some Γ2 ∧ d' = d := by
      replace hv : (match outs[j]? with | some (some (Sl.io xs)) => Rs.ok (d', xs) | _ => Rs.bad) = .ok (d, ys) := hv
      unfold ioBack
      split at hv
      · rename_i zs hz
        cases hv
        simp only [hr, hu, hz, hy, if_true, hp]
        exact ⟨trivial, trivial⟩
      · cases hv
    obtain ⟨ib, e⟩ := ib
    subst e
    unfold eCallF eCallB
    rw [ha]
    simp only [Rs.bind_ok]
    rw [if_pos ⟨hl, fine⟩, hm]
    simp only [q, ib]
    split
    · rfl
    · cases d' <;> simp only [Bool.not_true, Bool.false_and, Bool.false_eq_true, if_false, hq', if_true]
/-- a call that may fail -/
theorem r_callX {α : Type} {e : α → D} {m : Ex α} {run : FnR} {np : Nat} {rvs : List RV} {as : List Sl} (ha : fa Γ = .ok (rvs, Γ1)) (hl : rvs.length = np) (hm : mkArgs Γ1 rvs none = some as) (hv : (run as).val = toRs e m) (hn : NL e) : eCall run np none fa Γ = exRs m (fun v => (.d (e v), Γ1)) := by
  cases m with
  | ok v => exact r_call ha hl hm hv (hn v)
  | error x =>
    rw [eCall_ap, ha]
    simp only [bind_ok_s, callK_q1]
    rw [if_pos hl, hm]
    simp only [callK2_q1, hv, toRs, exRs, callV_q2]
theorem r_callXL {α : Type} {e : α → D} {m : Ex (List α)} {run : FnR} {np : Nat} {rvs : List RV} {as : List Sl} (ha : fa Γ = .ok (rvs, Γ1)) (hl : rvs.length = np) (hm : mkArgs Γ1 rvs none = some as) (hv : (run as).val = toRs (dL e) m) (hf : as.all Sl.flat = true) (hn : NL e) : eCall run np none fa Γ = exRs m (fun v => (.ow (v.map e), Γ1)) := by
  cases m with
  | ok v => exact r_callL ha hl hm hv hf hn
  | error x =>
    rw [eCall_ap, ha]
    simp only [bind_ok_s, callK_q1]
    rw [if_pos hl, hm]
    simp only [callK2_q1, hv, toRs, exRs, callV_q2]
theorem x_ok {α : Type} [Inhabited α] {e : α → D} {m : Ex α} {r : Rs D} (hv : r = toRs e m) (h : isOk m = true) : r = .ok (e (getOk m)) := by
  cases m with
  | ok v => exact hv
  | error x => cases h
/-! what is walked -/
theorem r_iR1 {n : Int} (h : ga Γ = .ok ([.d (.int n)], Γ1)) (c : rgOk n = true) : iR1 ga Γ = .ok ((rngI 0 n).map .int, none, Γ1) := by
  unfold iR1; rw [h]; simp only [bind_ok_s]; rw [if_pos c, ← rgs_rng, Int.sub_zero]
theorem r_iR2 {m n : Int} (h : ga Γ = .ok ([.d (.int m), .d (.int n)], Γ1)) (c : rgOk m = true ∧ rgOk n = true) : iR2 ga Γ = .ok ((rngI m n).map .int, none, Γ1) := by
  rw [r2_ap h c.1 c.2, rgs_rng]
theorem r_iT {α : Type} {e : α → D} {l : List α} (h : eOp f Γ = .ok (rv, Γ1)) (hg : rv.get Γ1 = some (dT e l)) : iAny f Γ = .ok (l.map e, none, Γ1) := by
  unfold iAny; rw [h]; simp only [bind_ok_s]; rw [hg]; rfl
theorem r_iL {lk : Option Nat} (h : eOp f Γ = .ok (rv, Γ1)) (hg : rv.get Γ1 = some (.list ys)) (hi : itemsL rv Γ1 = some (xs, lk)) : iAny f Γ = .ok (xs, lk, Γ1) := by
  unfold iAny; rw [h]; simp only [bind_ok_s]; rw [hg]; simp only; rw [hi]
theorem r_enT {α : Type} {e : α → D} {l : List α} (h : ga Γ = .ok ([rv], Γ1)) (hg : rv.get Γ1 = some (dT e l)) : iEnu ga Γ = .ok ((enuL l).map (dP2 PyData.int e), none, Γ1) := by
  unfold iEnu; rw [h]; simp only [bind_ok_s]; rw [hg]; unfold dT; simp only; rw [enu_map]
theorem r_enL {α : Type} {e : α → D} {l : List α} {lk : Option Nat} (h : ga Γ = .ok ([rv], Γ1)) (hg : rv.get Γ1 = some (.list ys)) (hi : itemsL rv Γ1 = some (l.map e, lk)) : iEnu ga Γ = .ok ((enuL l).map (dP2 PyData.int e), lk, Γ1) := by
  unfold iEnu; rw [h]; simp only [bind_ok_s]; rw [hg]; simp only; rw [hi]; simp only; rw [enu_map]
theorem r_zTT {α β : Type} {e : α → D} {k : β → D} {l : List α} {m : List β} (h : ga Γ = .ok ([ra, rb], Γ1)) (hg : ra.get Γ1 = some (dT e l)) (hk : rb.get Γ1 = some (dT k m)) : iZp ga Γ = .ok ((l.zip m).map (dP2 e k), none, Γ1) := by
  unfold iZp; rw [h]; simp only [bind_ok_s]; rw [hg, hk]; unfold dT; simp only; rw [zip_map]
theorem r_zLL {α β : Type} {e : α → D} {k : β → D} {l : List α} {m : List β} {l1 l2 lk : Option Nat} (h : ga Γ = .ok ([ra, rb], Γ1)) (hg : ra.get Γ1 = some (.list xs)) (hi : itemsL ra Γ1 = some (l.map e, l1)) (hj : itemsL rb Γ1 = some (m.map k, l2)) (hl : lkOr l1 l2 = some lk) : iZp ga Γ = .ok ((l.zip m).map (dP2 e k), lk, Γ1) := by
  unfold iZp; rw [h]; simp only [bind_ok_s]; rw [hg]; simp only; rw [hi, hj]; simp only; rw [hl]; simp only; rw [zip_map]
/-! methods -/
theorem r_app {α : Type} {e : α → D} {l : List α} {v : α} (h : eOp f Γ = .ok (rv, Γ1)) (ho : ownAt Γ i = true) (hf : rvFz Γ1 rv = some (e v, Γ2)) (hs : Γ2[i]? = some (some (.ow (l.map e)))) (hl : l.length < 16777216) : eMet i f (outApp i) Γ = .ok (.d .none, Γ2.set i (some (.ow ((l ++ [v]).map e)))) := by
  unfold eMet; rw [if_pos ho, h]
  simp only [bind_ok_s]
  unfold outApp slWrite
  rw [hf]
  simp only [hs]
  rw [List.length_map, if_pos hl, List.map_append]
  rfl
theorem r_appio {α : Type} {e : α → D} {l : List α} {v : α} (h : eOp f Γ = .ok (rv, Γ1)) (ho : ownAt Γ i = true) (hf : rvFz Γ1 rv = some (e v, Γ2)) (hs : Γ2[i]? = some (some (.io (l.map e)))) (hl : l.length < 16777216) : eMet i f (outApp i) Γ = .ok (.d .none, Γ2.set i (some (.io ((l ++ [v]).map e)))) := by
  unfold eMet; rw [if_pos ho, h]
  simp only [bind_ok_s]
  unfold outApp slWrite
  rw [hf]
  simp only [hs]
  rw [List.length_map, if_pos hl, List.map_append]
  rfl
theorem r_ext {α : Type} {e : α → D} {l m : List α} (h : eOp f Γ = .ok (rv, Γ1)) (ho : ownAt Γ i = true) (hf : rvFz Γ1 rv = some (dL e m, Γ2)) (hs : Γ2[i]? = some (some (.ow (l.map e)))) (hl : l.length + m.length ≤ 16777216) : eMet i f (outExt i) Γ = .ok (.d .none, Γ2.set i (some (.ow ((l ++ m).map e)))) := by
  unfold eMet; rw [if_pos ho, h]
  simp only [bind_ok_s]
  unfold outExt slWrite
  rw [hf]
  unfold dL
  simp only [hs]
  rw [List.length_map, List.length_map, if_pos hl, List.map_append]
  rfl
theorem r_rem {l : List Int} {k : Int} (h : f Γ = .ok (.d (.int k), Γ1)) (ho : ownAt Γ i = true) (hs : Γ1[i]? = some (some (.ow (l.map .int)))) (hm : k ∈ l) : eMet i f (outRem i) Γ = .ok (.d .none, Γ1.set i (some (.ow ((remI l k).map .int)))) := by
  unfold eMet; rw [if_pos ho, r_opd h]
  simp only [bind_ok_s]
  unfold outRem slWrite
  simp only [hs]
  unfold remInt
  rw [intsOf_map]
  simp only
  rw [if_pos hm]
  rfl
theorem r_idx {l : List Int} {k : Int} (h : f Γ = .ok (.d (.int k), Γ1)) (ho : ownAt Γ i = true) (hs : ownList Γ1[i]? = some (l.map .int)) (hm : k ∈ l) : eMet i f (outIdx i) Γ = .ok (.d (.int (idxD l k)), Γ1) := by
  unfold eMet; rw [if_pos ho, r_opd h]
  simp only [bind_ok_s]
  unfold outIdx
  rw [hs]
  simp only [Option.bind_some, intsOf_map]
  unfold idxD
  have : ∃ j, idxI l k = some j := by
    clear hs
    induction l with
    | nil => cases hm
    | cons a r ih =>
      unfold idxI
      by_cases c : a = k
      · exact ⟨0, by rw [if_pos c]⟩
      · rw [if_neg c]
        rcases List.mem_cons.mp hm with q | q
        · exact absurd q.symm c
        · obtain ⟨j, hj⟩ := ih q
          exact ⟨j + 1, by rw [hj]; rfl⟩
  obtain ⟨j, hj⟩ := this
  rw [hj]
  rfl
end
end FL

/-! TC: typed readings: comprehensions, statements, loops. -/
namespace FL
open PySem PySem.Spec L2
/-! ### how a typed block ends -/
def exM {α β : Type} (f : α → β) (m : Ex α) : Ex β := match m with
  | .ok v => .ok (f v)
  | .error e => .error e
@[simp] theorem exM_ok {α β : Type} {f : α → β} {v : α} : exM f (.ok v) = .ok (f v) := rfl
@[simp] theorem exM_er {α β : Type} {f : α → β} {v : Exc} : exM f (.error v) = .error v := rfl
theorem exM_eqT {α β : Type} {f : α → β} {m : Ex α} {e : α → D} {e' : β → D} (h : ∀ v, e v = e' (f v)) : (match m with | .ok v => Rs.ok (e v) | .error x => Rs.exc x) = toRs e' (exM f m) := by
  cases m with
  | ok v => show Rs.ok (e v) = Rs.ok (e' (f v)); rw [h]
  | error x => rfl
theorem exM_eq {α β : Type} {f : α → β} {m : Ex α} {e : α → D} {e' : β → D} (h : ∀ v, e v = e' (f v)) : toRs e m = toRs e' (exM f m) := by
  cases m with
  | ok v => show Rs.ok (e v) = Rs.ok (e' (f v)); rw [h]
  | error x => rfl
theorem nb_ok {α : Type} {e : α → D} {v : α} : (fun (t : α) => Rs.ok (e t)) v ≠ .bad := fun h => by cases h
theorem nb_ex {α : Type} {e : α → D} {v : Ex α} : toRs e v ≠ .bad := fun h => by cases v <;> cases h
theorem isi_O {m : Option Int} : PyData.bool (isiB .int (dO PyData.int m)) = .bool (!m.isNone) := by cases m <;> rfl
inductive TO (σ ρ : Type) where
  | nx (s : σ) | bk (s : σ) | ret (v : ρ)
inductive LR where
  | nx (Γ : Ga) | bk (Γ : Ga) | res (r : Rs D)
def srNx : SR → Rs Ga
  | .nx Γ => .ok Γ
  | .ct Γ => .ok Γ
  | _ => .bad
def srT : SR → LR
  | .nx Γ => .nx Γ
  | .ct Γ => .nx Γ
  | .bk Γ => .bk Γ
  | .ret d _ => .res (.ok d)
  | .exc e => .res (.exc e)
  | .bad => .res .bad
def mkT {σ ρ : Type} (E : σ → Ga) (r : ρ → Rs D) : TO σ ρ → LR
  | .nx s => .nx (E s)
  | .bk s => .bk (E s)
  | .ret v => .res (r v)
section
variable {σ ρ α τ : Type}
def okF (ok : σ → α → Prop) (step : σ → α → σ) : List α → σ → Prop
  | [], _ => True
  | x :: xs, s => ok s x ∧ okF ok step xs (step s x)
def forT (step : σ → α → TO σ ρ) : List α → σ → TO σ ρ
  | [], s => .nx s
  | x :: xs, s => match step s x with
    | .nx s' => forT step xs s'
    | .bk s' => .nx s'
    | .ret v => .ret v
def okT (ok : σ → α → Prop) (step : σ → α → TO σ ρ) : List α → σ → Prop
  | [], _ => True
  | x :: xs, s => ok s x ∧ ∀ s', step s x = .nx s' → okT ok step xs s'
theorem okT_triv {step : σ → α → TO σ ρ} : ∀ (l : List α) (s : σ), okT (fun _ _ => True) step l s
  | [], _ => trivial
  | x :: l, s => ⟨trivial, fun s' _ => okT_triv l s'⟩
def elT (r : TO σ ρ) (a : σ → τ) (b : ρ → τ) : τ := match r with
  | .nx s => a s
  | .bk s => a s
  | .ret v => b v
@[simp] theorem elT_nx {s : σ} {a : σ → τ} {b : ρ → τ} : elT (.nx s) a b = a s := rfl
@[simp] theorem elT_ret {v : ρ} {a : σ → τ} {b : ρ → τ} : elT (.ret v : TO σ ρ) a b = b v := rfl
def whl (c : σ → Bool) (step : σ → σ) : Nat → σ → Option σ
  | 0, _ => none
  | n + 1, s => if c s then whl c step n (step s) else some s
def okW (c : σ → Bool) (step : σ → σ) (ok : σ → Prop) : Nat → σ → Prop
  | 0, _ => True
  | n + 1, s => ok s ∧ (c s = true → okW c step ok n (step s))
def whT (c : σ → Bool) (step : σ → TO σ ρ) : Nat → σ → Option (TO σ ρ)
  | 0, _ => none
  | n + 1, s => if c s then (match step s with
      | .nx s' => whT c step n s'
      | .bk s' => some (.nx s')
      | .ret v => some (.ret v)) else some (.nx s)
def okWT (c : σ → Bool) (step : σ → TO σ ρ) (ok : σ → Prop) : Nat → σ → Prop
  | 0, _ => True
  | n + 1, s => ok s ∧ (c s = true → ∀ s', step s = .nx s' → okWT c step ok n s')
/-- a comprehension that writes -/
def lcS {β : Type} (c : σ → α → Bool) (v : σ → α → β × σ) : List α → σ → List β × σ
  | [], s => ([], s)
  | x :: xs, s => if c s x then (let p := v s x; let q := lcS c v xs p.2; (p.1 :: q.1, q.2)) else lcS c v xs s
theorem lcS_cons {β : Type} {c : σ → α → Bool} {v : σ → α → β × σ} {x : α} {xs : List α} {s : σ} : lcS c v (x :: xs) s = if c s x then ((v s x).1 :: (lcS c v xs (v s x).2).1, (lcS c v xs (v s x).2).2) else lcS c v xs s := rfl
def okS {β : Type} (c : σ → α → Bool) (v : σ → α → β × σ) (ok : σ → α → Prop) : List α → σ → Prop
  | [], _ => True
  | x :: xs, s => ok s x ∧ okS c v ok xs (if c s x then (v s x).2 else s)
end
/-! ### comprehensions -/
section
variable {α β σ : Type} {Γ Γ1 Γ0 : Ga} {fi : FnI} {vs : List Nat} {g : FnG} {t : FnT} {f : FnE}
theorem lc_steps {E : σ → Ga} {dx : α → D} {e : β → D} {c : σ → α → Bool} {v : σ → α → β × σ} {ok : σ → α → Prop}
    (h : ∀ s x, ok s x → ∃ Γ2, g (.d (dx x)) (E s) = some Γ2 ∧ t Γ2 = .ok (c s x, Γ2) ∧ (c s x = true → ∃ rv Γ3 Γ4, f Γ2 = .ok (rv, Γ3) ∧ rvFz Γ3 rv = some (e (v s x).1, Γ4) ∧ wipeG Γ4 vs = E (v s x).2) ∧ (c s x = false → wipeG Γ2 vs = E s)) :
    ∀ (l : List α) (s : σ) (acc : List D), okS c v ok l s → acc.length + l.length ≤ 16777216 → lcF vs g t f (l.map dx) acc (E s) = .ok (acc ++ (lcS c v l s).1.map e, E (lcS c v l s).2)
  | [], s, acc, _, _ => by simp [lcF, lcS]
  | x :: l, s, acc, hk, hl => by
    obtain ⟨h1, h2⟩ := hk
    obtain ⟨Γ2, e1, e2, e3, e4⟩ := h s x h1
    rw [List.length_cons] at hl
    rw [List.map_cons]
    unfold lcF
    rw [e1]
    simp only [e2, bind_ok_s]
    cases q : c s x with
    | true =>
      obtain ⟨rv, Γ3, Γ4, a1, a2, a3⟩ := e3 q
      simp only [if_true, a1, bind_ok_s, a2]
      rw [q] at h2
      simp only [if_true] at h2
      rw [if_pos (by rw [lim_s]; omega), a3, lc_steps h l _ (acc ++ [e (v s x).1]) h2 (by rw [List.length_append, List.length_cons, List.length_nil]; omega)]
      rw [lcS_cons, if_pos q]
      simp
    | false =>
      rw [q] at h2
      simp only [Bool.false_eq_true, if_false] at h2 ⊢
      rw [e4 q, lc_steps h l s acc h2 (by omega)]
      rw [lcS_cons, if_neg (by rw [q]; decide)]
theorem lcS_pure {c : α → Bool} {v : α → β} : ∀ (l : List α), lcS (σ := Unit) (fun _ x => c x) (fun _ x => (v x, ())) l () = ((l.filter c).map v, ())
  | [] => rfl
  | x :: l => by
    rw [lcS_cons, lcS_pure l]
    cases q : c x with
    | true => rw [List.filter_cons_of_pos q, if_pos rfl]; rfl
    | false => rw [List.filter_cons_of_neg (by simp [q]), if_neg (by decide)]
theorem okF_triv {σ α : Type} {step : σ → α → σ} : ∀ (l : List α) (s : σ), okF (fun _ _ => True) step l s
  | [], _ => trivial
  | x :: l, s => ⟨trivial, okF_triv l _⟩
theorem okS_pure {c : α → Bool} {v : α → β} {ok : α → Prop} : ∀ (l : List α), (∀ x ∈ l, ok x) → okS (σ := Unit) (fun _ x => c x) (fun _ x => (v x, ())) (fun _ x => ok x) l ()
  | [], _ => trivial
  | x :: l, h => ⟨h x (by simp), by
    have := okS_pure (c := c) (v := v) l fun y hy => h y (by simp [hy])
    cases c x <;> exact this⟩
/-- pure -/
theorem r_lc {dx : α → D} (e : β → D) (c : α → Bool) (v : α → β) {l : List α} (hi : fi Γ = .ok (l.map dx, none, Γ1)) (hp : vs.all (plainAt Γ1) = true) (hw : wipeG Γ1 vs = Γ1) (hm : mend Γ1 Γ1 vs = Γ1) (hl : l.length ≤ 16777216)
    (h : ∀ x, x ∈ l → ∃ Γ2, g (.d (dx x)) Γ1 = some Γ2 ∧ t Γ2 = .ok (c x, Γ2) ∧ (c x = true → ∃ rv Γ3 Γ4, f Γ2 = .ok (rv, Γ3) ∧ rvFz Γ3 rv = some (e (v x), Γ4) ∧ wipeG Γ4 vs = Γ1) ∧ (c x = false → wipeG Γ2 vs = Γ1)) :
    eLc fi vs g t f Γ = .ok (.ow (((l.filter c).map v).map e), Γ1) := by
  unfold eLc
  rw [hi]
  simp only [bind_ok_s]
  have key := lc_steps (g := g) (t := t) (f := f) (vs := vs) (E := fun _ : Unit => Γ1) (dx := dx) (e := e) (c := fun _ x => c x) (v := fun _ x => (v x, ())) (ok := fun _ x => x ∈ l)
    (fun s x hx => by obtain ⟨Γ2, a, b, c1, d⟩ := h x hx; exact ⟨Γ2, a, b, c1, d⟩) l () [] (okS_pure l fun x hx => hx) (by rw [List.length_nil, Nat.zero_add]; exact hl)
  rw [lcS_pure] at key
  rw [if_pos hp, hw, key]
  simp only [hm, List.nil_append]
/-- over a name's own list -/
theorem r_lcl {dx : α → D} (e : β → D) (c : α → Bool) (v : α → β) {l : List α} {i : Nat} (hi : fi Γ = .ok (l.map dx, some i, Γ0)) (hs : shut i Γ0 = Γ1) (hu : unlk i Γ1 = some Γ0) (hp : vs.all (plainAt Γ1) = true) (hw : wipeG Γ1 vs = Γ1) (hm : mend Γ1 Γ1 vs = Γ1) (hl : l.length ≤ 16777216)
    (h : ∀ x, x ∈ l → ∃ Γ2, g (.d (dx x)) Γ1 = some Γ2 ∧ t Γ2 = .ok (c x, Γ2) ∧ (c x = true → ∃ rv Γ3 Γ4, f Γ2 = .ok (rv, Γ3) ∧ rvFz Γ3 rv = some (e (v x), Γ4) ∧ wipeG Γ4 vs = Γ1) ∧ (c x = false → wipeG Γ2 vs = Γ1)) :
    eLc fi vs g t f Γ = .ok (.ow (((l.filter c).map v).map e), Γ0) := by
  unfold eLc
  rw [hi]
  simp only [bind_ok_s]
  have key := lc_steps (g := g) (t := t) (f := f) (vs := vs) (E := fun _ : Unit => Γ1) (dx := dx) (e := e) (c := fun _ x => c x) (v := fun _ x => (v x, ())) (ok := fun _ x => x ∈ l)
    (fun s x hx => by obtain ⟨Γ2, a, b, c1, d⟩ := h x hx; exact ⟨Γ2, a, b, c1, d⟩) l () [] (okS_pure l fun x hx => hx) (by rw [List.length_nil, Nat.zero_add]; exact hl)
  rw [lcS_pure] at key
  rw [hs, if_pos hp, hw, key]
  simp only [hm, List.nil_append, hu]
theorem r_lc0 {dx : α → D} (e : β → D) (v : α → β) {l : List α} (hi : fi Γ = .ok (l.map dx, none, Γ1)) (hp : vs.all (plainAt Γ1) = true) (hw : wipeG Γ1 vs = Γ1) (hm : mend Γ1 Γ1 vs = Γ1) (hl : l.length ≤ 16777216)
    (h : ∀ x, x ∈ l → ∃ Γ2, g (.d (dx x)) Γ1 = some Γ2 ∧ ∃ rv Γ3 Γ4, f Γ2 = .ok (rv, Γ3) ∧ rvFz Γ3 rv = some (e (v x), Γ4) ∧ wipeG Γ4 vs = Γ1) :
    eLc fi vs g tOk f Γ = .ok (.ow ((l.map v).map e), Γ1) := by
  have := r_lc (vs := vs) (g := g) (t := tOk) (f := f) e (fun _ => true) v hi hp hw hm hl (fun x hx => by
    obtain ⟨Γ2, a, b⟩ := h x hx
    exact ⟨Γ2, a, rfl, fun _ => b, fun q => nomatch q⟩)
  rw [filter_t] at this
  exact this
theorem r_lcl0 {dx : α → D} (e : β → D) (v : α → β) {l : List α} {i : Nat} (hi : fi Γ = .ok (l.map dx, some i, Γ0)) (hs : shut i Γ0 = Γ1) (hu : unlk i Γ1 = some Γ0) (hp : vs.all (plainAt Γ1) = true) (hw : wipeG Γ1 vs = Γ1) (hm : mend Γ1 Γ1 vs = Γ1) (hl : l.length ≤ 16777216)
    (h : ∀ x, x ∈ l → ∃ Γ2, g (.d (dx x)) Γ1 = some Γ2 ∧ ∃ rv Γ3 Γ4, f Γ2 = .ok (rv, Γ3) ∧ rvFz Γ3 rv = some (e (v x), Γ4) ∧ wipeG Γ4 vs = Γ1) :
    eLc fi vs g tOk f Γ = .ok (.ow ((l.map v).map e), Γ0) := by
  have := r_lcl (vs := vs) (g := g) (t := tOk) (f := f) e (fun _ => true) v hi hs hu hp hw hm hl (fun x hx => by
    obtain ⟨Γ2, a, b⟩ := h x hx
    exact ⟨Γ2, a, rfl, fun _ => b, fun q => nomatch q⟩)
  rw [filter_t] at this
  exact this
/-- one that writes -/
theorem r_lcS {dx : α → D} (e : β → D) (E : σ → Ga) (c : σ → α → Bool) (v : σ → α → β × σ) (ok : σ → α → Prop) {l : List α} (s0 : σ) (hi : fi Γ = .ok (l.map dx, none, E s0)) (hp : vs.all (plainAt (E s0)) = true) (hw : wipeG (E s0) vs = E s0) (hm : ∀ s, mend (E s0) (E s) vs = E s) (hl : l.length ≤ 16777216) (hok : okS c v ok l s0)
    (h : ∀ s x, ok s x → ∃ Γ2, g (.d (dx x)) (E s) = some Γ2 ∧ t Γ2 = .ok (c s x, Γ2) ∧ (c s x = true → ∃ rv Γ3 Γ4, f Γ2 = .ok (rv, Γ3) ∧ rvFz Γ3 rv = some (e (v s x).1, Γ4) ∧ wipeG Γ4 vs = E (v s x).2) ∧ (c s x = false → wipeG Γ2 vs = E s)) :
    eLc fi vs g t f Γ = .ok (.ow ((lcS c v l s0).1.map e), E (lcS c v l s0).2) := by
  unfold eLc
  rw [hi]
  simp only [bind_ok_s]
  rw [if_pos hp, hw, lc_steps h l s0 [] hok (by rw [List.length_nil, Nat.zero_add]; exact hl)]
  simp only [hm, List.nil_append]
theorem r_lcSl {dx : α → D} (e : β → D) (E U : σ → Ga) (c : σ → α → Bool) (v : σ → α → β × σ) (ok : σ → α → Prop) {l : List α} {i : Nat} (s0 : σ) (hi : fi Γ = .ok (l.map dx, some i, Γ0)) (hs : shut i Γ0 = E s0) (hu : ∀ s, unlk i (E s) = some (U s)) (hp : vs.all (plainAt (E s0)) = true) (hw : wipeG (E s0) vs = E s0) (hm : ∀ s, mend (E s0) (E s) vs = E s) (hl : l.length ≤ 16777216) (hok : okS c v ok l s0)
    (h : ∀ s x, ok s x → ∃ Γ2, g (.d (dx x)) (E s) = some Γ2 ∧ t Γ2 = .ok (c s x, Γ2) ∧ (c s x = true → ∃ rv Γ3 Γ4, f Γ2 = .ok (rv, Γ3) ∧ rvFz Γ3 rv = some (e (v s x).1, Γ4) ∧ wipeG Γ4 vs = E (v s x).2) ∧ (c s x = false → wipeG Γ2 vs = E s)) :
    eLc fi vs g t f Γ = .ok (.ow ((lcS c v l s0).1.map e), U (lcS c v l s0).2) := by
  unfold eLc
  rw [hi]
  simp only [bind_ok_s]
  rw [hs, if_pos hp, hw, lc_steps h l s0 [] hok (by rw [List.length_nil, Nat.zero_add]; exact hl)]
  simp only [hm, List.nil_append, hu]
end
/-! ### statements -/
section
variable {β τ α σ ρ : Type} {fin : SR → β} {o : β} {mk : τ → β} {Γ Γ1 Γ2 : Ga} {f h : FnE} {fa : FnA} {t : FnT} {g : FnG} {k A B : FnS} {rv : RV} {vs : List Nat} {i j : Nat} {d x y : D}
theorem k_asg (h : f Γ = .ok (rv, Γ1)) (hg : g rv Γ1 = some Γ2) (hk : fin (k Γ2) = o) : fin (sSeq (sAsg f g) k Γ) = o := by
  unfold sSeq sAsg; rw [h]; simp only [toS_ok]; rw [hg]; exact hk
theorem g_fz (hf : freeAt Γ i = true) : gN i (.d d) Γ = some (Γ.set i (some (.fz d))) := by rw [gN_d, hf]; rfl
theorem g_ow {xs : List D} (hf : freeAt Γ i = true) : gN i (.ow xs) Γ = some (Γ.set i (some (.ow xs))) := by rw [gN_ow, hf]; rfl
theorem g_sl (h : rvFz Γ (.sl j) = some (d, Γ1)) (hf : freeAt Γ1 i = true) : gN i (.sl j) Γ = some (Γ1.set i (some (.fz d))) := by rw [gN_sl, h, gNK_q1, hf]; rfl
theorem g_t {gs : FnGs} {ds : List D} (h : gs ds Γ = some Γ1) : gT gs (.d (.tuple ds)) Γ = some Γ1 := h
theorem g_n : gsNil [] Γ = some Γ := rfl
theorem g_c {gs : FnGs} {ds : List D} (h : g (.d d) Γ = some Γ1) (h2 : gs ds Γ1 = some Γ2) : gsCons g gs (d :: ds) Γ = some Γ2 := by rw [gsCons_ap, h]; exact h2
theorem k_par {rs : List RV} (h : fa Γ = .ok (rs, Γ1)) (hf : rvsFz rs Γ1 = some ([x, y], Γ2)) (hi : (freeAt Γ2 i && freeAt Γ2 j) = true) (hk : fin (k ((Γ2.set i (some (.fz x))).set j (some (.fz y)))) = o) : fin (sSeq (sPar i j fa) k Γ) = o := by
  unfold sSeq sPar; rw [h]; simp only [toS_ok]; rw [hf]; simp only; rw [if_pos hi]; exact hk
theorem k_expr (h : f Γ = .ok (rv, Γ1)) (hk : fin (k Γ1) = o) : fin (sSeq (sExpr f) k Γ) = o := by
  unfold sSeq sExpr; rw [h]; exact hk
theorem k_setIx {γ : Type} {e : γ → D} {l : List γ} {n : Int} {v : γ} {fk : FnE} {Γ3 : Ga} {ra : RV} (h : eOp f Γ = .ok (ra, Γ1)) (ha : hasAt Γ1 i = true) (hn : fk Γ1 = .ok (.d (.int n), Γ2)) (hf : rvFz Γ2 ra = some (e v, Γ3)) (hs : Γ3[i]? = some (some (.ow (l.map e)))) (hr : 0 ≤ n ∧ n < l.length)
    (hk : fin (k (Γ3.set i (some (.ow ((setI l n v).map e))))) = o) : fin (sSeq (sSetIx i fk f) k Γ) = o := by
  unfold sSeq sSetIx; rw [h]; simp only [toS_ok]; rw [if_pos ha, hn]; simp only [toS_ok, hf]
  unfold slWrite
  simp only [hs, List.length_map]
  have : ixN l.length n = some n.toNat := by unfold ixN; rw [if_pos hr.1, if_pos hr.2]
  rw [this]
  simp only [Option.map_some, ← List.map_set]
  exact hk
theorem k_setIo {γ : Type} {e : γ → D} {l : List γ} {n : Int} {v : γ} {fk : FnE} {Γ3 : Ga} {ra : RV} (h : eOp f Γ = .ok (ra, Γ1)) (ha : hasAt Γ1 i = true) (hn : fk Γ1 = .ok (.d (.int n), Γ2)) (hf : rvFz Γ2 ra = some (e v, Γ3)) (hs : Γ3[i]? = some (some (.io (l.map e)))) (hr : 0 ≤ n ∧ n < l.length)
    (hk : fin (k (Γ3.set i (some (.io ((setI l n v).map e))))) = o) : fin (sSeq (sSetIx i fk f) k Γ) = o := by
  unfold sSeq sSetIx; rw [h]; simp only [toS_ok]; rw [if_pos ha, hn]; simp only [toS_ok, hf]
  unfold slWrite
  simp only [hs, List.length_map]
  have : ixN l.length n = some n.toNat := by unfold ixN; rw [if_pos hr.1, if_pos hr.2]
  rw [this]
  simp only [Option.map_some, ← List.map_set]
  exact hk
theorem k_w (hp : dropG vs Γ = some Γ1) (hk : fin (k Γ1) = o) : fin (sW vs k Γ) = o := by
  unfold sW; rw [hp]; exact hk
theorem k_if {c : Bool} {ta tb : τ} (h : t Γ = .ok (c, Γ1)) (h2 : c = true → fin (A Γ1) = mk ta) (h3 : c = false → fin (B Γ1) = mk tb) : fin (sIf t A B Γ) = mk (if c then ta else tb) := by
  unfold sIf; rw [h]; simp only [toS_ok]
  cases c with
  | true => simp only [if_true]; exact h2 rfl
  | false => simp only [Bool.false_eq_true, if_false]; exact h3 rfl
/-- a test with an «and» that writes -/
theorem k_ifand {u : FnT} (h : fin (sIf t (sIf u A B) B Γ) = o) : fin (sIf (fAnd t u) A B Γ) = o := by
  rw [← h]
  unfold sIf fAnd
  cases q : t Γ with
  | bad => rfl
  | exc e => rfl
  | ok p =>
    obtain ⟨c, Γ1⟩ := p
    cases c <;> rfl
theorem k_ifor {u : FnT} (h : fin (sIf t A (sIf u A B) Γ) = o) : fin (sIf (fOr t u) A B Γ) = o := by
  rw [← h]
  unfold sIf fOr
  cases q : t Γ with
  | bad => rfl
  | exc e => rfl
  | ok p =>
    obtain ⟨c, Γ1⟩ := p
    cases c <;> rfl
theorem k_skip (hk : fin (k Γ) = o) : fin (sSeq sNil k Γ) = o := hk
theorem take_ow {xs : List D} (h : Γ[i]? = some (some (.ow xs))) : eTake i Γ = .ok (.ow xs, Γ.set i none) := by unfold eTake; rw [h]
theorem z_some {α : Type} [Inhabited α] {m : Option α} (h : m.isSome = true) : m = some (m.getD default) := by cases m with
  | none => cases h
  | some x => rfl
/-! ends -/
theorem k_ret (h : f Γ = .ok (rv, Γ1)) (hf : rvFz Γ1 rv = some (d, Γ2)) : srVal (sRet f Γ) = .ok d := by
  unfold sRet; rw [h]; simp only [toS_ok]; rw [hf]; rfl
theorem k_retIo {xs : List D} (h : f Γ = .ok (rv, Γ1)) (hf : rvFz Γ1 rv = some (d, Γ2)) (hx : Γ2[j]? = some (some (.io xs))) : srIo j (sRet f Γ) = .ok (d, xs) := by
  unfold sRet; rw [h]; simp only [toS_ok]; rw [hf]; simp only [srIo_ret]; unfold outAt; rw [hx]
theorem k_retT (h : f Γ = .ok (rv, Γ1)) (hf : rvFz Γ1 rv = some (d, Γ2)) : srT (sRet f Γ) = .res (.ok d) := by
  unfold sRet; rw [h]; simp only [toS_ok]; rw [hf]; rfl
theorem k_retX {e : α → D} {m : Ex α} (h : f Γ = exRs m (fun v => (.d (e v), Γ1))) : srVal (sRet f Γ) = toRs e m := by
  unfold sRet; rw [h]; cases m <;> rfl
theorem k_retXL {e : α → D} {m : Ex (List α)} (h : f Γ = exRs m (fun v => (.ow (v.map e), Γ1))) : srVal (sRet f Γ) = toRs (dL e) m := by
  unfold sRet; rw [h]; cases m <;> rfl
theorem k_retXT {e : α → D} {m : Ex α} (h : f Γ = exRs m (fun v => (.d (e v), Γ1))) : srT (sRet f Γ) = .res (toRs e m) := by
  unfold sRet; rw [h]; cases m <;> rfl
def exC (m : Ex α) (a : α → τ) (b : Exc → τ) : τ := match m with
  | .ok v => a v
  | .error e => b e
@[simp] theorem exC_ok {v : α} {a : α → τ} {b : Exc → τ} : exC (.ok v) a b = a v := rfl
@[simp] theorem exC_er {e : Exc} {a : α → τ} {b : Exc → τ} : exC (.error e : Ex α) a b = b e := rfl
theorem k_exX {m : Ex α} {w : α → RV × Ga} {a : α → τ} {b : Exc → τ} (h : f Γ = exRs m w) (hk : ∀ v, m = .ok v → fin (k (w v).2) = mk (a v)) (he : ∀ e, fin (.exc e) = mk (b e)) : fin (sSeq (sExpr f) k Γ) = mk (exC m a b) := by
  unfold sSeq sExpr; rw [h]
  cases m with
  | ok v => exact hk v rfl
  | error e => exact he e
theorem k_asX {m : Ex α} {w : α → RV × Ga} {a : α → τ} {b : Exc → τ} {G2 : α → Ga} (h : f Γ = exRs m w) (hg : ∀ v, g (w v).1 (w v).2 = some (G2 v)) (hk : ∀ v, m = .ok v → fin (k (G2 v)) = mk (a v)) (he : ∀ e, fin (.exc e) = mk (b e)) : fin (sSeq (sAsg f g) k Γ) = mk (exC m a b) := by
  unfold sSeq sAsg; rw [h]
  cases m with
  | ok v =>
    show fin (match (match g (w v).1 (w v).2 with | some Γ' => SR.nx Γ' | none => .bad) with | .nx Γ' => k Γ' | r => r) = _
    rw [hg]; exact hk v rfl
  | error e => exact he e
/-! ### loops -/
theorem loop_fold {E : σ → Ga} {step : σ → α → σ} {ok : σ → α → Prop} {dx : α → D} {b : FnS} (hb : ∀ s x, ok s x → ∃ Γ3, g (.d (dx x)) (E s) = some Γ3 ∧ srNx (b Γ3) = .ok (E (step s x))) :
    ∀ (l : List α) (s : σ), okF ok step l s → loopF g b (l.map dx) (E s) = .nx (E (l.foldl step s))
  | [], s, _ => rfl
  | x :: l, s, h => by
    obtain ⟨h1, h2⟩ := h
    obtain ⟨Γ3, e1, e2⟩ := hb s x h1
    rw [List.map_cons, loop_cons, e1]
    simp only [loopK1_q1]
    rw [List.foldl_cons, ← loop_fold hb l _ h2]
    cases q : b Γ3 with
    | nx Γ4 => rw [q] at e2; cases e2; rfl
    | ct Γ4 => rw [q] at e2; cases e2; rfl
    | _ => rw [q] at e2; cases e2
theorem k_for {fi : FnI} {b : FnS} {dx : α → D} {l : List α} (E : σ → Ga) (step : σ → α → σ) (ok : σ → α → Prop) (s0 : σ) (hi : fi Γ = .ok (l.map dx, none, Γ1)) (h0 : Γ1 = E s0)
    (hb : ∀ s x, ok s x → ∃ Γ3, g (.d (dx x)) (E s) = some Γ3 ∧ srNx (b Γ3) = .ok (E (step s x))) (hok : okF ok step l s0) (hk : fin (k (E (l.foldl step s0))) = o) : fin (sSeq (sFor fi g b) k Γ) = o := by
  unfold sSeq; rw [sFor_ap, hi]
  simp only [toS_ok, forK_q1]
  rw [h0, loop_fold hb l s0 hok]
  exact hk
theorem k_forL {fi : FnI} {b : FnS} {dx : α → D} {l : List α} (E U : σ → Ga) (step : σ → α → σ) (ok : σ → α → Prop) (s0 : σ) (hi : fi Γ = .ok (l.map dx, some i, Γ1)) (h0 : shut i Γ1 = E s0) (hu : ∀ s, unlk i (E s) = some (U s))
    (hb : ∀ s x, ok s x → ∃ Γ3, g (.d (dx x)) (E s) = some Γ3 ∧ srNx (b Γ3) = .ok (E (step s x))) (hok : okF ok step l s0) (hk : fin (k (U (l.foldl step s0))) = o) : fin (sSeq (sFor fi g b) k Γ) = o := by
  unfold sSeq; rw [sFor_ap, hi]
  simp only [toS_ok, forK_q2]
  rw [h0, loop_fold hb l s0 hok]
  unfold unl
  simp only [hu]
  exact hk
theorem loop_t {E : σ → Ga} {step : σ → α → TO σ ρ} {ok : σ → α → Prop} {dx : α → D} {b : FnS} {r : ρ → Rs D} (hb : ∀ s x, ok s x → ∃ Γ3, g (.d (dx x)) (E s) = some Γ3 ∧ srT (b Γ3) = mkT E r (step s x)) :
    ∀ (l : List α) (s : σ), okT ok step l s → srT (loopF g b (l.map dx) (E s)) = mkT E r (forT step l s)
  | [], s, _ => rfl
  | x :: l, s, h => by
    obtain ⟨h1, h2⟩ := h
    obtain ⟨Γ3, e1, e2⟩ := hb s x h1
    rw [List.map_cons, loop_cons, e1]
    simp only [loopK1_q1]
    unfold forT
    cases p : step s x with
    | nx s' =>
      rw [p] at e2
      simp only
      rw [← loop_t hb l s' (h2 s' p)]
      cases q : b Γ3 with
      | nx Γ4 => rw [q] at e2; cases e2; rfl
      | ct Γ4 => rw [q] at e2; cases e2; rfl
      | _ => rw [q] at e2; cases e2
    | bk s' =>
      rw [p] at e2
      cases q : b Γ3 with
      | bk Γ4 => rw [q] at e2; cases e2; rfl
      | _ => rw [q] at e2; cases e2
    | ret v =>
      rw [p] at e2
      simp only [mkT] at e2 ⊢
      rw [← e2]
      cases q : b Γ3 with
      | nx Γ4 => rw [q] at e2; cases e2
      | ct Γ4 => rw [q] at e2; cases e2
      | bk Γ4 => rw [q] at e2; cases e2
      | ret d' Γ4 => rfl
      | exc e => rfl
      | bad => rfl
/-- what comes of a result within a frame -/
def FinR (fin : SR → β) (w : Rs D → β) : Prop := ∀ (r : SR) (x : Rs D), srT r = .res x → fin r = w x
theorem finr_val : FinR srVal (fun x => x) := fun r x h => by
  cases r <;> first | (cases h; rfl) | cases h
theorem finr_t : FinR srT .res := fun r x h => h
theorem nx_of {r : SR} {Γ : Ga} {g : FnG} {b : FnS} {xs : List D} {Γ0 : Ga} (h : srT (loopF g b xs Γ0) = .nx Γ) : loopF g b xs Γ0 = .nx Γ := by
  have noct : ∀ (xs : List D) (Γ0 : Ga) (Γ' : Ga), loopF g b xs Γ0 ≠ .ct Γ' := fun xs => by
    induction xs with
    | nil => intro Γ0 Γ' h; cases h
    | cons x xs ih =>
      intro Γ0 Γ' h
      rw [loop_cons] at h
      cases q : g (.d x) Γ0 with
      | none => rw [q] at h; cases h
      | some Γ1 =>
        rw [q] at h
        simp only [loopK1_q1] at h
        cases q2 : b Γ1 with
        | nx Γ2 => rw [q2] at h; exact ih _ _ h
        | ct Γ2 => rw [q2] at h; exact ih _ _ h
        | _ => rw [q2] at h; cases h
  cases q : loopF g b xs Γ0 with
  | nx Γ' => rw [q] at h; cases h; rfl
  | ct Γ' => exact absurd q (noct _ _ _)
  | _ => rw [q] at h; cases h
theorem forT_bk {step : σ → α → TO σ ρ} : ∀ (l : List α) (s s' : σ), forT step l s ≠ .bk s'
  | [], s, s', h => by cases h
  | x :: l, s, s', h => by
    unfold forT at h
    cases q : step s x with
    | nx s2 => rw [q] at h; exact forT_bk l s2 s' h
    | bk s2 => rw [q] at h; cases h
    | ret v => rw [q] at h; cases h
theorem k_forT {fi : FnI} {b : FnS} {dx : α → D} {l : List α} {w : Rs D → β} (fr : FinR fin w) (r : ρ → Rs D) (E : σ → Ga) (step : σ → α → TO σ ρ) (ok : σ → α → Prop) (s0 : σ) {a : σ → τ} {c : ρ → τ} (hi : fi Γ = .ok (l.map dx, none, Γ1)) (h0 : Γ1 = E s0)
    (hb : ∀ s x, ok s x → ∃ Γ3, g (.d (dx x)) (E s) = some Γ3 ∧ srT (b Γ3) = mkT E r (step s x)) (hok : okT ok step l s0) (hk : ∀ s, forT step l s0 = .nx s → fin (k (E s)) = mk (a s)) (hr : ∀ v, w (r v) = mk (c v)) : fin (sSeq (sFor fi g b) k Γ) = mk (elT (forT step l s0) a c) := by
  unfold sSeq; rw [sFor_ap, hi]
  simp only [toS_ok, forK_q1]
  rw [h0]
  have e := loop_t hb l s0 hok
  cases q : forT step l s0 with
  | nx s =>
    rw [q] at e
    rw [nx_of (r := .bad) e]
    exact hk s q
  | bk s => exact absurd q (forT_bk l s0 s)
  | ret v =>
    rw [q] at e
    simp only [mkT] at e
    rw [elT_ret, ← hr v]
    refine fr _ _ ?_
    cases q2 : loopF g b (l.map dx) (E s0) with
    | nx Γ4 => rw [q2] at e; cases e
    | _ => rw [q2] at e; exact e
theorem k_forTL {fi : FnI} {b : FnS} {dx : α → D} {l : List α} {w : Rs D → β} (fr : FinR fin w) (r : ρ → Rs D) (E U : σ → Ga) (step : σ → α → TO σ ρ) (ok : σ → α → Prop) (s0 : σ) {a : σ → τ} {c : ρ → τ} (hi : fi Γ = .ok (l.map dx, some i, Γ1)) (h0 : shut i Γ1 = E s0) (hu : ∀ s, unlk i (E s) = some (U s)) (hbr : ∀ v e, r v ≠ .bad ∧ r v ≠ .exc e)
    (hb : ∀ s x, ok s x → ∃ Γ3, g (.d (dx x)) (E s) = some Γ3 ∧ srT (b Γ3) = mkT E r (step s x) ∧ (∀ d Γ4, b Γ3 = .ret d Γ4 → (unlk i Γ4).isSome = true)) (hok : okT ok step l s0) (hk : ∀ s, forT step l s0 = .nx s → fin (k (U s)) = mk (a s)) (hr : ∀ v, w (r v) = mk (c v)) : fin (sSeq (sFor fi g b) k Γ) = mk (elT (forT step l s0) a c) := by
  have hret : ∀ (l : List α) (s : σ), okT ok step l s → ∀ d Γ4, loopF g b (l.map dx) (E s) = .ret d Γ4 → (unlk i Γ4).isSome = true := fun l => by
    induction l with
    | nil => intro s _ d Γ4 h; cases h
    | cons x l ih =>
      intro s ho d Γ4 h
      obtain ⟨h1, h2⟩ := ho
      obtain ⟨Γ3, e1, e2, e3⟩ := hb s x h1
      rw [List.map_cons, loop_cons, e1] at h
      simp only [loopK1_q1] at h
      cases p : step s x with
      | nx s' =>
        rw [p] at e2
        cases q : b Γ3 with
        | nx Γ5 => rw [q] at e2 h; cases e2; exact ih s' (h2 s' p) _ _ h
        | ct Γ5 => rw [q] at e2 h; cases e2; exact ih s' (h2 s' p) _ _ h
        | _ => rw [q] at e2; cases e2
      | bk s' =>
        rw [p] at e2
        cases q : b Γ3 with
        | bk Γ5 => rw [q] at h; cases h
        | _ => rw [q] at e2; cases e2
      | ret v =>
        rw [p] at e2
        cases q : b Γ3 with
        | ret d' Γ5 => rw [q] at h; cases h; exact e3 _ _ q
        | nx Γ5 => rw [q] at e2; cases e2
        | ct Γ5 => rw [q] at e2; cases e2
        | bk Γ5 => rw [q] at e2; cases e2
        | exc e => rw [q] at h; cases h
        | bad => rw [q] at h; cases h
  unfold sSeq; rw [sFor_ap, hi]
  simp only [toS_ok, forK_q2]
  rw [h0]
  have e := loop_t (fun s x h => by obtain ⟨Γ3, a, b, _⟩ := hb s x h; exact ⟨Γ3, a, b⟩) l s0 hok
  cases q : forT step l s0 with
  | nx s =>
    rw [q] at e
    rw [nx_of (r := .bad) e]
    unfold unl
    simp only [hu]
    exact hk s q
  | bk s => exact absurd q (forT_bk l s0 s)
  | ret v =>
    rw [q] at e
    simp only [mkT] at e
    rw [elT_ret, ← hr v]
    refine fr _ _ ?_
    cases q2 : loopF g b (l.map dx) (E s0) with
    | nx Γ4 => rw [q2] at e; cases e
    | ct Γ4 => rw [q2] at e; cases e
    | bk Γ4 => rw [q2] at e; cases e
    | ret d Γ4 =>
      rw [q2] at e
      have hs := hret l s0 hok d Γ4 q2
      unfold unl
      simp only
      cases q3 : unlk i Γ4 with
      | none => rw [q3] at hs; cases hs
      | some Γ5 => exact e
    | exc x => rw [q2] at e; exact absurd (LR.res.inj e).symm (hbr v x).2
    | bad => rw [q2] at e; exact absurd (LR.res.inj e).symm (hbr v ⟨"", none⟩).1
/-! while -/
theorem whl_run {b : FnS} {E : σ → Ga} {c : σ → Bool} {step : σ → σ} {ok : σ → Prop} (ht : ∀ s, ok s → t (E s) = .ok (c s, E s)) (hb : ∀ s, ok s → c s = true → srNx (b (E s)) = .ok (E (step s))) :
    ∀ (n : Nat) (s s' : σ), okW c step ok n s → whl c step n s = some s' → whileN t b n (E s) = .nx (E s')
  | 0, s, s', _, h => by cases h
  | n + 1, s, s', ho, h => by
    obtain ⟨h1, h2⟩ := ho
    unfold whl at h
    unfold whileN
    rw [ht s h1, toS_ok]
    cases q : c s with
    | false => rw [q] at h; cases h; rfl
    | true =>
      rw [q] at h
      simp only [if_true] at h ⊢
      rw [← whl_run ht hb n (step s) s' (h2 q) h]
      have e := hb s h1 q
      cases q2 : b (E s) with
      | nx Γ4 => rw [q2] at e; cases e; rfl
      | ct Γ4 => rw [q2] at e; cases e; rfl
      | _ => rw [q2] at e; cases e
theorem k_while {b : FnS} (E : σ → Ga) (c : σ → Bool) (step : σ → σ) (ok : σ → Prop) (n : Nat) (s0 : σ) (h0 : Γ = E s0) (ht : ∀ s, ok s → t (E s) = .ok (c s, E s)) (hb : ∀ s, ok s → c s = true → srNx (b (E s)) = .ok (E (step s)))
    (hok : okW c step ok n s0) (hw : (whl c step n s0).isSome = true) (hk : fin (k (E ((whl c step n s0).getD s0))) = o) : fin (sSeq (sWhile t b) k Γ) = o := by
  unfold sSeq
  cases q : whl c step n s0 with
  | none => rw [q] at hw; cases hw
  | some s' =>
    have e := whl_run ht hb n s0 s' hok q
    rw [q, Option.getD_some] at hk
    rw [h0, sWhile_eq (n := n) (by rw [e]; rfl), e]
    exact hk
theorem whT_run {b : FnS} {E : σ → Ga} {c : σ → Bool} {step : σ → TO σ ρ} {ok : σ → Prop} {r : ρ → Rs D} (ht : ∀ s, ok s → t (E s) = .ok (c s, E s)) (hb : ∀ s, ok s → c s = true → srT (b (E s)) = mkT E r (step s)) :
    ∀ (n : Nat) (s : σ) (x : TO σ ρ), okWT c step ok n s → whT c step n s = some x → (∃ s', x = .nx s' ∧ whileN t b n (E s) = .nx (E s')) ∨ ∃ v, x = .ret v ∧ srT (whileN t b n (E s)) = .res (r v)
  | 0, s, x, _, h => by cases h
  | n + 1, s, x, ho, h => by
    obtain ⟨h1, h2⟩ := ho
    unfold whT at h
    unfold whileN
    rw [ht s h1, toS_ok]
    cases q : c s with
    | false => rw [q] at h; cases h; exact .inl ⟨s, rfl, rfl⟩
    | true =>
      rw [q] at h
      simp only [if_true] at h ⊢
      have e := hb s h1 q
      cases p : step s with
      | nx s' =>
        rw [p] at h e
        simp only at h
        have ih := whT_run ht hb n s' x (h2 q s' p) h
        cases q2 : b (E s) with
        | nx Γ4 => rw [q2] at e; cases e; exact ih
        | ct Γ4 => rw [q2] at e; cases e; exact ih
        | _ => rw [q2] at e; cases e
      | bk s' =>
        rw [p] at h e
        cases h
        cases q2 : b (E s) with
        | bk Γ4 => rw [q2] at e; cases e; exact .inl ⟨s', rfl, rfl⟩
        | _ => rw [q2] at e; cases e
      | ret v =>
        rw [p] at h e
        cases h
        refine .inr ⟨v, rfl, ?_⟩
        simp only [mkT] at e
        rw [← e]
        cases q2 : b (E s) with
        | nx Γ4 => rw [q2] at e; cases e
        | ct Γ4 => rw [q2] at e; cases e
        | bk Γ4 => rw [q2] at e; cases e
        | _ => rfl
theorem k_whT {b : FnS} {w : Rs D → β} (fr : FinR fin w) (r : ρ → Rs D) (E : σ → Ga) (c : σ → Bool) (step : σ → TO σ ρ) (ok : σ → Prop) (n : Nat) (s0 : σ) {a : σ → τ} {z : ρ → τ} (h0 : Γ = E s0) (hnb : ∀ v, r v ≠ .bad) (ht : ∀ s, ok s → t (E s) = .ok (c s, E s)) (hb : ∀ s, ok s → c s = true → srT (b (E s)) = mkT E r (step s))
    (hok : okWT c step ok n s0) (hw : (whT c step n s0).isSome = true) (hk : ∀ s, fin (k (E s)) = mk (a s)) (hr : ∀ v, w (r v) = mk (z v)) : fin (sSeq (sWhile t b) k Γ) = mk (elT ((whT c step n s0).getD (.nx s0)) a z) := by
  unfold sSeq
  cases q : whT c step n s0 with
  | none => rw [q] at hw; cases hw
  | some x =>
    rw [h0, Option.getD_some]
    rcases whT_run ht hb n s0 x hok q with ⟨s', rfl, e⟩ | ⟨v, rfl, e⟩
    · rw [sWhile_eq (n := n) (by rw [e]; rfl), e]
      exact hk s'
    · have nb : (whileN t b n (E s0)).isBad = false := by
        cases q2 : whileN t b n (E s0) with
        | bad => rw [q2] at e; exact absurd (LR.res.inj e).symm (hnb v)
        | _ => rfl
      rw [sWhile_eq nb, elT_ret, ← hr v]
      refine fr _ _ ?_
      cases q2 : whileN t b n (E s0) with
      | nx Γ4 => rw [q2] at e; cases e
      | _ => rw [q2] at e; exact e
end
end FL

/-! TD: plain words: loops by what stays true, kinds, places. -/
namespace FL
open PySem PySem.Spec L2
section
variable {σ ρ α β : Type}
theorem okF_idx {ok : σ → α → Prop} {step : σ → α → σ} (I : Nat → σ → Prop) : ∀ (l : List α) (n : Nat) (s : σ), I n s → (∀ i s x, l[i]? = some x → I (n + i) s → ok s x ∧ I (n + i + 1) (step s x)) → okF ok step l s ∧ I (n + l.length) (l.foldl step s)
  | [], n, s, h0, _ => ⟨trivial, h0⟩
  | x :: l, n, s, h0, h => by
    obtain ⟨a, b⟩ := h 0 s x rfl h0
    obtain ⟨c, d⟩ := okF_idx I l (n + 1) (step s x) b fun i s y hy hi => by
      have := h (i + 1) s y (by simpa using hy) (by rw [show n + (i + 1) = n + 1 + i by omega]; exact hi)
      rw [show n + (i + 1) = n + 1 + i by omega] at this
      exact this
    refine ⟨⟨a, c⟩, ?_⟩
    rw [List.length_cons, show n + (l.length + 1) = n + 1 + l.length by omega]
    exact d
/-- a loop without ways out: what stays true, by how many are done -/
theorem fold_idx {ok : σ → α → Prop} {step : σ → α → σ} (I : Nat → σ → Prop) {l : List α} {s : σ} (h0 : I 0 s) (h : ∀ i s x, l[i]? = some x → I i s → ok s x ∧ I (i + 1) (step s x)) : okF ok step l s ∧ I l.length (l.foldl step s) := by
  have := okF_idx I l 0 s h0 fun i s x hx hi => by rw [Nat.zero_add] at hi ⊢; exact h i s x hx hi
  rw [Nat.zero_add] at this
  exact this
/-- .. by what is done: the part ahead -/
theorem fold_pre {ok : σ → α → Prop} {step : σ → α → σ} (I : List α → σ → Prop) {l : List α} {s : σ} (h0 : I [] s) (h : ∀ p x r s, l = p ++ x :: r → I p s → ok s x ∧ I (p ++ [x]) (step s x)) : okF ok step l s ∧ I l (l.foldl step s) := by
  have := fold_idx (ok := ok) (step := step) (fun i s => I (l.take i) s) (l := l) (s := s) h0 fun i s x hx hi => by
    have lt : i < l.length := by
      rcases Nat.lt_or_ge i l.length with q | q
      · exact q
      · rw [List.getElem?_eq_none q] at hx; cases hx
    rw [List.getElem?_eq_getElem lt] at hx
    cases hx
    have e : l = l.take i ++ l[i] :: l.drop (i + 1) := by rw [List.getElem_cons_drop lt, List.take_append_drop]
    rw [← List.take_append_getElem lt]
    exact h _ _ _ s e hi
  rw [List.take_length] at this
  exact this
theorem fold_inv {ok : σ → α → Prop} {step : σ → α → σ} (I : σ → Prop) {l : List α} {s : σ} (h0 : I s) (h : ∀ s x, x ∈ l → I s → ok s x ∧ I (step s x)) : okF ok step l s ∧ I (l.foldl step s) :=
  fold_idx (fun _ => I) h0 fun i s x hx hi => h s x (List.mem_of_getElem? hx) hi
/-- a loop whose turns all go on -/
theorem forT_idx {ok : σ → α → Prop} {step : σ → α → TO σ ρ} (I : Nat → σ → Prop) : ∀ (l : List α) (n : Nat) (s : σ), I n s → (∀ i s x, l[i]? = some x → I (n + i) s → ok s x ∧ ∃ s', step s x = .nx s' ∧ I (n + i + 1) s') → okT ok step l s ∧ ∃ s', forT step l s = .nx s' ∧ I (n + l.length) s'
  | [], n, s, h0, _ => ⟨trivial, s, rfl, h0⟩
  | x :: l, n, s, h0, h => by
    obtain ⟨a, s', e, b⟩ := h 0 s x rfl h0
    obtain ⟨c, s2, e2, d⟩ := forT_idx I l (n + 1) s' b fun i s y hy hi => by
      have := h (i + 1) s y (by simpa using hy) (by rw [show n + (i + 1) = n + 1 + i by omega]; exact hi)
      rw [show n + (i + 1) = n + 1 + i by omega] at this
      exact this
    refine ⟨⟨a, fun s3 e3 => ?_⟩, s2, ?_, ?_⟩
    · rw [e] at e3; cases e3; exact c
    · unfold forT; rw [e]; exact e2
    · rw [List.length_cons, show n + (l.length + 1) = n + 1 + l.length by omega]
      exact d
theorem forT_nx {ok : σ → α → Prop} {step : σ → α → TO σ ρ} (I : Nat → σ → Prop) {l : List α} {s : σ} (h0 : I 0 s) (h : ∀ i s x, l[i]? = some x → I i s → ok s x ∧ ∃ s', step s x = .nx s' ∧ I (i + 1) s') : okT ok step l s ∧ ∃ s', forT step l s = .nx s' ∧ I l.length s' := by
  have := forT_idx I l 0 s h0 fun i s x hx hi => by rw [Nat.zero_add] at hi ⊢; exact h i s x hx hi
  rw [Nat.zero_add] at this
  exact this
/-- .. of a loop that carries nothing -/
theorem forT_unit {ok : Unit → α → Prop} {step : Unit → α → TO Unit ρ} {l : List α} (h : ∀ x, x ∈ l → ok () x ∧ step () x = .nx ()) : okT ok step l () ∧ forT step l () = .nx () := by
  obtain ⟨a, s, e, _⟩ := forT_nx (fun _ _ => True) (l := l) (s := ()) (ok := ok) (step := step) trivial fun i s x hx _ => by
    obtain ⟨a, b⟩ := h x (List.mem_of_getElem? hx); exact ⟨a, (), b, trivial⟩
  exact ⟨a, e⟩
/-- a loop with a way out: the first turn that leaves -/
theorem forT_find {ok : Unit → α → Prop} {p : α → Bool} {v : ρ} {step : Unit → α → TO Unit ρ} {l : List α} (h : ∀ x, x ∈ l → ok () x ∧ step () x = if p x then .ret v else .nx ()) : okT ok step l () ∧ forT step l () = if l.any p then .ret v else .nx () := by
  induction l with
  | nil => exact ⟨trivial, rfl⟩
  | cons x l ih =>
    obtain ⟨a, b⟩ := h x (by simp)
    obtain ⟨c, d⟩ := ih fun y hy => h y (by simp [hy])
    refine ⟨⟨a, fun s' _ => c⟩, ?_⟩
    unfold forT
    rw [b, List.any_cons]
    cases p x with
    | true => rfl
    | false => simpa using d
theorem okS_idx {c : σ → α → Bool} {v : σ → α → β × σ} {ok : σ → α → Prop} (I : List α → List β → σ → Prop) {l : List α} {s : σ} (h0 : I [] [] s) (h : ∀ p x r bs s, l = p ++ x :: r → I p bs s → ok s x ∧ (c s x = true → I (p ++ [x]) (bs ++ [(v s x).1]) (v s x).2) ∧ (c s x = false → I (p ++ [x]) bs s)) : okS c v ok l s ∧ I l (lcS c v l s).1 (lcS c v l s).2 := by
  have go : ∀ (r p : List α) (bs : List β) (s : σ), l = p ++ r → I p bs s → okS c v ok r s ∧ I l (bs ++ (lcS c v r s).1) (lcS c v r s).2 := fun r => by
    induction r with
    | nil => intro p bs s e hi; rw [List.append_nil] at e; subst e; exact ⟨trivial, by show I l (bs ++ []) s; rw [List.append_nil]; exact hi⟩
    | cons x r ih =>
      intro p bs s e hi
      obtain ⟨a, b1, b2⟩ := h p x r bs s e hi
      have e2 : l = (p ++ [x]) ++ r := by rw [e]; simp
      rw [lcS_cons]
      cases q : c s x with
      | true =>
        obtain ⟨c1, d1⟩ := ih (p ++ [x]) _ _ e2 (b1 q)
        refine ⟨⟨a, by rw [q]; exact c1⟩, ?_⟩
        rw [if_pos rfl]
        simpa using d1
      | false =>
        obtain ⟨c1, d1⟩ := ih (p ++ [x]) _ _ e2 (b2 q)
        exact ⟨⟨a, by rw [q]; exact c1⟩, d1⟩
  obtain ⟨a, b⟩ := go l [] [] s rfl h0
  exact ⟨a, by simpa using b⟩
end
/-! kinds -/
abbrev KK := Int × Int × Option Int
abbrev dK : KK → D := dP3 PyData.int PyData.int (dO PyData.int)
structure Kok (k : KK) : Prop where
  w : 1 ≤ k.1
  v : 0 ≤ k.2.1
  m : ∀ x, k.2.2 = some x → 0 ≤ x
@[simp] theorem isiB_int {i : Int} : isiB .int (.int i) = true := rfl
@[simp] theorem isiB_intb {i : Int} : isiB .bool (.int i) = false := rfl
@[simp] theorem isiB_int_b {i : Bool} : isiB .int (.bool i) = true := rfl
@[simp] theorem isiB_b {i : Bool} : isiB .bool (.bool i) = true := rfl
@[simp] theorem isiB_int_n : isiB .int .none = false := rfl
@[simp] theorem isiB_int_s {z : Str} : isiB .int (.str z) = false := rfl
@[simp] theorem isiB_int_t {z : List D} : isiB .int (.tuple z) = false := rfl
@[simp] theorem isiB_int_l {z : List D} : isiB .int (.list z) = false := rfl
@[simp] theorem isiB_tup {z : List D} : isiB .tuple (.tuple z) = true := rfl
@[simp] theorem isiB_dT {α : Type} {e : α → D} {l : List α} : isiB .tuple (dT e l) = true := rfl
@[simp] theorem isiB_dP3 {α β γ : Type} {e : α → D} {f : β → D} {g : γ → D} {p : α × β × γ} : isiB .tuple (dP3 e f g p) = true := rfl
@[simp] theorem lenD_dT {α : Type} {e : α → D} {l : List α} : lenD (dT e l) = some (.int l.length) := z_lenT
@[simp] theorem lenA_dT {α : Type} {e : α → D} {l : List α} : lenA (dT e l) = l.length := by unfold lenA; rw [z_lenT]
@[simp] theorem lenD_dP3 {α β γ : Type} {e : α → D} {f : β → D} {g : γ → D} {p : α × β × γ} : lenD (dP3 e f g p) = some (.int 3) := rfl
@[simp] theorem lenA_dP3 {α β γ : Type} {e : α → D} {f : β → D} {g : γ → D} {p : α × β × γ} : lenA (dP3 e f g p) = 3 := rfl
@[simp] theorem ixD_P30 {α β γ : Type} {e : α → D} {f : β → D} {g : γ → D} {p : α × β × γ} : ixD (dP3 e f g p) (.int 0) = some (e p.1) := rfl
@[simp] theorem ixD_P31 {α β γ : Type} {e : α → D} {f : β → D} {g : γ → D} {p : α × β × γ} : ixD (dP3 e f g p) (.int 1) = some (f p.2.1) := rfl
@[simp] theorem ixD_P32 {α β γ : Type} {e : α → D} {f : β → D} {g : γ → D} {p : α × β × γ} : ixD (dP3 e f g p) (.int 2) = some (g p.2.2) := rfl
@[simp] theorem isNone_dO {m : Option Int} : isNone (dO .int m) = m.isNone := isNone_O nn_int
@[simp] theorem asTup_dT {α : Type} {e : α → D} {l : List α} : asTup (dT e l) = l.map e := rfl
theorem all_id {α : Type} {p : α → Bool} {l : List α} : (l.map p).all id = l.all p := by rw [List.all_map]; rfl
@[simp] theorem gI_0 {α : Type} [Inhabited α] {x : α} {l : List α} : gI (x :: l) 0 = x := rfl
@[simp] theorem setI_0 {α : Type} {x y : α} {l : List α} : setI (x :: l) 0 y = y :: l := rfl
theorem gI_get {α : Type} [Inhabited α] {l : List α} {i : Nat} (h : i < l.length) : gI l (i : Int) = l[i] := by unfold gI; simp [h]
theorem gI_mem {α : Type} [Inhabited α] {l : List α} {i : Int} (h : 0 ≤ i) (h2 : i < l.length) : gI l i ∈ l := by
  obtain ⟨n, rfl⟩ := Int.eq_ofNat_of_zero_le h
  have : n < l.length := by omega
  rw [gI_get this]; exact List.getElem_mem this
theorem rng_len {a b : Int} : (rngI a b).length = (b - a).toNat := by unfold rngI; simp
@[simp] theorem rng0_len {b : Int} : (rngI 0 b).length = b.toNat := by rw [rng_len, Int.sub_zero]
theorem mem_rng {a b x : Int} : x ∈ rngI a b ↔ a ≤ x ∧ x < b := by
  unfold rngI
  simp only [List.mem_map, List.mem_range]
  constructor
  · rintro ⟨i, hi, rfl⟩; omega
  · rintro ⟨h1, h2⟩; exact ⟨(x - a).toNat, by omega, by omega⟩
theorem rng_get {a b x : Int} {i : Nat} (h : (rngI a b)[i]? = some x) : x = a + i ∧ x < b := by
  unfold rngI at h
  rw [List.getElem?_map] at h
  by_cases c : i < (b - a).toNat
  · rw [List.getElem?_range c] at h
    rw [Option.map_some] at h
    have e := Option.some.inj h
    exact ⟨e.symm, by omega⟩
  · rw [List.getElem?_eq_none (by rw [List.length_range]; omega)] at h
    cases h
theorem fdiv_s {m : Int} (h : 0 < m) (h2 : m < 18446744073709551616) : fdivOk m = true := fdivOk_of h (by omega)
theorem rg_s {i : Int} (h : -1000000000 ≤ i) (l : i ≤ 1000000000) : rgOk i = true := rgOk_b h l
theorem mul_s {i j : Int} (h : i.natAbs < 2 ^ 200) (q : j.natAbs < 2 ^ 200) : mulOk i j = true := mulOk_of (n := 200) (m := 200) h q (by decide)
theorem bits_of {i : Int} {n : Nat} (h : i.natAbs < 2 ^ n) : bits n i := h
@[simp] theorem b2i_t : b2i true = 1 := rfl
@[simp] theorem b2i_f : b2i false = 0 := rfl
theorem sIx_some {n d : Nat} {v : Int} (h : 0 ≤ v) : HT.sIx n d (some v) = min v.toNat n := by
  show (if v < 0 then (v + (n : Int)).toNat else min v.toNat n) = _
  rw [if_neg (by omega)]
theorem cut_pre {α : Type} {l : List α} {n : Int} (h : 0 ≤ n) : cutL l none (some n) = l.take n.toNat := by
  unfold cutL
  rw [sIx_some h]
  show (l.drop 0).take (min n.toNat l.length - 0) = _
  rw [List.drop_zero, Nat.sub_zero]
  rcases Nat.le_total n.toNat l.length with c | c
  · rw [Nat.min_eq_left c]
  · rw [Nat.min_eq_right c, List.take_length, List.take_of_length_le c]
theorem cut_suf {α : Type} {l : List α} {n : Int} (h : 0 ≤ n) : cutL l (some n) none = l.drop n.toNat := by
  unfold cutL
  rw [sIx_some h]
  show (l.drop (min n.toNat l.length)).take (l.length - min n.toNat l.length) = _
  rw [List.take_of_length_le (by rw [List.length_drop]; omega)]
  rcases Nat.le_total n.toNat l.length with c | c
  · rw [Nat.min_eq_left c]
  · rw [Nat.min_eq_right c, List.drop_length, List.drop_eq_nil_of_le c]
/-! greatest, least, first -/
theorem maxL_mem {l : List Int} (h : l ≠ []) : maxL l ∈ l ∧ ∀ x ∈ l, x ≤ maxL l := by
  cases l with
  | nil => exact absurd rfl h
  | cons a r => exact mxI_iff.mp rfl
theorem minL_mem {l : List Int} (h : l ≠ []) : minL l ∈ l ∧ ∀ x ∈ l, minL l ≤ x := by
  cases l with
  | nil => exact absurd rfl h
  | cons a r => exact mnI_iff.mp rfl
theorem maxL_eq {l : List Int} {m : Int} (h : m ∈ l) (h2 : ∀ x ∈ l, x ≤ m) : maxL l = m := by
  have ne : l ≠ [] := by rintro rfl; cases h
  obtain ⟨a, b⟩ := maxL_mem ne
  exact Int.le_antisymm (h2 _ a) (b _ h)
theorem minL_eq {l : List Int} {m : Int} (h : m ∈ l) (h2 : ∀ x ∈ l, m ≤ x) : minL l = m := by
  have ne : l ≠ [] := by rintro rfl; cases h
  obtain ⟨a, b⟩ := minL_mem ne
  exact Int.le_antisymm (b _ h) (h2 _ a)
theorem idx_first {α : Type} [Inhabited α] {w : α → Int} {M : Int} : ∀ {T : List α}, M ∈ T.map w → 0 ≤ idxD (T.map w) M ∧ idxD (T.map w) M < T.length ∧ ∃ r, T.filter (fun x => decide (w x = M)) = gI T (idxD (T.map w) M) :: r
  | [], h => by cases h
  | a :: T, h => by
    by_cases c : w a = M
    · have e : idxD ((a :: T).map w) M = 0 := by unfold idxD; rw [List.map_cons]; unfold idxI; rw [if_pos c]; rfl
      rw [e]
      exact ⟨by omega, by simp, T.filter (fun x => decide (w x = M)), by rw [List.filter_cons_of_pos (by simpa using c)]; rfl⟩
    · have hm : M ∈ T.map w := by
        rcases List.mem_cons.mp h with q | q
        · exact absurd q.symm c
        · exact q
      obtain ⟨h0, h1, r, hr⟩ := idx_first hm
      have hs : ∃ j, idxI (T.map w) M = some j := by
        have : ∀ l : List Int, M ∈ l → ∃ j, idxI l M = some j := fun l => by
          induction l with
          | nil => intro q; cases q
          | cons x r ih =>
            intro q
            unfold idxI
            by_cases c : x = M
            · exact ⟨0, by rw [if_pos c]⟩
            · rw [if_neg c]
              rcases List.mem_cons.mp q with z | z
              · exact absurd z.symm c
              · obtain ⟨j, hj⟩ := ih z; exact ⟨j + 1, by rw [hj]; rfl⟩
        exact this _ hm
      obtain ⟨j, hj⟩ := hs
      have e0 : idxD (T.map w) M = (j : Int) := by unfold idxD; rw [hj]; rfl
      have e1 : idxD ((a :: T).map w) M = ((j + 1 : Nat) : Int) := by unfold idxD; rw [List.map_cons]; unfold idxI; rw [if_neg c, hj]; rfl
      rw [e0] at h0 h1 hr
      rw [e1]
      refine ⟨by omega, by rw [List.length_cons]; omega, r, ?_⟩
      rw [List.filter_cons_of_neg (by simpa using c), hr]
      rfl
/-! what repr may show -/
structure RP (n k : Nat) (d : D) : Prop where
  num : numOk d = true
  wt : wt d ≤ n
  shp : Shp k d
theorem RP.up {n m k j : Nat} {d : D} (h : RP n k d) (l : n ≤ m) (q : k ≤ j) : RP m j d := ⟨h.num, Nat.le_trans h.wt l, h.shp.le q⟩
theorem log_s {i : Int} (h : i.natAbs < 2 ^ 200) : decide (i.natAbs.log2 < 1920) = true := by
  have := log2_of (n := 199) h
  rw [decide_eq_true_eq]; omega
theorem rp_i {i : Int} (h : i.natAbs < 2 ^ 200) : RP 1921 0 (.int i) := ⟨by unfold numOk; exact log_s h, by simp [FL.wt], .int i⟩
theorem rp_n : RP 1921 0 .none := ⟨by simp [numOk], by simp [FL.wt], .non⟩
theorem rp_b {b : Bool} : RP 1921 0 (.bool b) := ⟨by simp [numOk], by simp [FL.wt], .bl b⟩
theorem rp_s {z : Str} (h : PyData.strOk z = true) (l : (PyData.shown (.str z)).length ≤ 1921) : RP 1921 0 (.str z) := ⟨by unfold numOk; exact decide_eq_true l, by simp [FL.wt], .st h⟩
theorem rp_O {m : Option Int} (h : ∀ x, m = some x → x.natAbs < 2 ^ 200) : RP 1921 0 (dO .int m) := by
  cases m with
  | none => exact rp_n
  | some x => exact rp_i (h x rfl)
theorem rp_tup {xs : List D} {n m k : Nat} (h : ∀ x ∈ xs, RP n k x) (hl : xs.length ≤ m) : RP ((n + 2) * m + 3) (k + 1) (.tuple xs) := ⟨by unfold numOk; exact numsOk_of fun x hx => (h x hx).num, by
    unfold FL.wt
    have := wts_of (xs := xs) (a := n) fun x hx => (h x hx).wt
    have : (n + 2) * xs.length ≤ (n + 2) * m := Nat.mul_le_mul_left _ hl
    omega, .tup fun x hx => (h x hx).shp⟩
theorem rp_lst {xs : List D} {n m k : Nat} (h : ∀ x ∈ xs, RP n k x) (hl : xs.length ≤ m) : RP ((n + 2) * m + 3) (k + 1) (.list xs) := ⟨by unfold numOk; exact numsOk_of fun x hx => (h x hx).num, by
    unfold FL.wt
    have := wts_of (xs := xs) (a := n) fun x hx => (h x hx).wt
    have : (n + 2) * xs.length ≤ (n + 2) * m := Nat.mul_le_mul_left _ hl
    omega, .lst fun x hx => (h x hx).shp⟩
theorem rp_T {α : Type} {e : α → D} {l : List α} {n m k : Nat} (h : ∀ x ∈ l, RP n k (e x)) (hl : l.length ≤ m) : RP ((n + 2) * m + 3) (k + 1) (dT e l) :=
  rp_tup (fun x hx => by obtain ⟨y, hy, rfl⟩ := List.mem_map.mp hx; exact h y hy) (by rw [List.length_map]; exact hl)
theorem rp_L {α : Type} {e : α → D} {l : List α} {n m k : Nat} (h : ∀ x ∈ l, RP n k (e x)) (hl : l.length ≤ m) : RP ((n + 2) * m + 3) (k + 1) (dL e l) :=
  rp_lst (fun x hx => by obtain ⟨y, hy, rfl⟩ := List.mem_map.mp hx; exact h y hy) (by rw [List.length_map]; exact hl)
theorem rp_P2 {α β : Type} {e : α → D} {f : β → D} {p : α × β} {n k : Nat} (h : RP n k (e p.1)) (h2 : RP n k (f p.2)) : RP ((n + 2) * 2 + 3) (k + 1) (dP2 e f p) :=
  rp_tup (fun x hx => by simp at hx; rcases hx with rfl | rfl; exact h; exact h2) (Nat.le_refl 2)
theorem rp_P3 {α β γ : Type} {e : α → D} {f : β → D} {g : γ → D} {p : α × β × γ} {n k : Nat} (h : RP n k (e p.1)) (h2 : RP n k (f p.2.1)) (h3 : RP n k (g p.2.2)) : RP ((n + 2) * 3 + 3) (k + 1) (dP3 e f g p) :=
  rp_tup (fun x hx => by simp at hx; rcases hx with rfl | rfl | rfl; exact h; exact h2; exact h3) (Nat.le_refl 3)
theorem rp_sT {xs : List D} {n k : Nat} (h : RP n k (.tuple xs)) (hn : n ≤ 1000000) (hk : k ≤ 90) : (reprD (.tuple xs)).isSome = true := by
  rw [repr_t (shwOk_of h.num h.shp hk (Nat.le_trans h.wt hn))]; rfl
theorem rp_sL {xs : List D} {n k : Nat} (h : RP n k (.list xs)) (hn : n ≤ 1000000) (hk : k ≤ 90) : (reprD (.list xs)).isSome = true := by
  rw [repr_l (shwOk_of h.num h.shp hk (Nat.le_trans h.wt hn))]; rfl
theorem rp_si {i : Int} (h : i.natAbs < 2 ^ 200) : (reprD (.int i)).isSome = true := by
  have := of_decide_eq_true (log_s h)
  show (if i.natAbs.log2 < 1920 then some (PyData.str (toString i)) else none).isSome = true
  rw [if_pos this]; rfl
theorem rp_sO {m : Option Int} (h : ∀ x, m = some x → x.natAbs < 2 ^ 200) : (reprD (dO .int m)).isSome = true := by
  cases m with
  | none => rfl
  | some x => exact rp_si (h x rfl)
theorem sum_le {α : Type} {f : α → Int} {c : Int} : ∀ (l : List α), (∀ x ∈ l, 0 ≤ f x ∧ f x ≤ c) → 0 ≤ (l.map f).sum ∧ (l.map f).sum ≤ c * (l.length : Int)
  | [], _ => by simp
  | x :: l, h => by
    obtain ⟨a, b⟩ := h x (by simp)
    obtain ⟨p, q⟩ := sum_le l fun y hy => h y (by simp [hy])
    rw [List.map_cons, List.sum_cons, List.length_cons]
    have : c * ((l.length + 1 : Nat) : Int) = c * (l.length : Int) + c := by rw [Int.natCast_add, Int.mul_add]; simp
    omega
end FL

/-! TE: typed readings of what FX reads. -/
namespace FL
open PySem PySem.Spec L2
open PySem.W (dataLe)
section
variable {Γ Γ1 Γ2 Γ3 : Ga} {f g h fa fb fc : FnE} {i : Nat} {d x y z : D} {ra rb rc rv : RV}
theorem q_revT {α : Type} {e : α → D} {l : List α} (hx : ra.get Γ = some (dT e l)) : gRev ra Γ = .ok (.d (dT e l.reverse), Γ) := by
  unfold gRev; rw [hx]; unfold dT; simp only [List.map_reverse]
theorem q_revL {α : Type} {e : α → D} {l : List α} (hx : ra.get Γ = some (dL e l)) : gRev ra Γ = .ok (.ow (l.reverse.map e), Γ) := by
  unfold gRev; rw [hx]; unfold dL; simp only [List.map_reverse]
def sortE {α : Type} (e : α → D) (l : List α) : List α := l.mergeSort (dataLe false e)
theorem q_sort {α : Type} {e : α → D} {l : List α} (hx : ra.get Γ = some (dL e l)) (hs : sortOk (l.map e) = true) : gSort ra Γ = .ok (.ow ((sortE e l).map e), Γ) := by
  unfold gSort; rw [hx]; unfold dL; simp only [hs, if_true]
  unfold sortE
  rw [PySem.W.sort_maps (r := dataLe false e) (s := dataLe false fun d : D => d) e (l := l) fun a _ b _ => rfl]
theorem r_chain {p q : D → D → Option Bool} {b1 b2 : Bool} (ha : eOp fa Γ = .ok (ra, Γ1)) (hb : eOp fb Γ1 = .ok (rb, Γ2)) (hx : ra.get Γ2 = some x) (hy : rb.get Γ2 = some y) (h1 : p x y = some b1) (hc : b1 = true → eOp fc Γ2 = .ok (rc, Γ2)) (hy2 : rb.get Γ2 = some y) (hz : rc.get Γ2 = some z) (h2 : q y z = some b2) : eChain p q fa fb fc Γ = .ok (.d (.bool (b1 && b2)), Γ2) := by
  unfold eChain; rw [ha]; simp only [bind_ok_s]; rw [hb]; simp only [bind_ok_s]; rw [hx, hy]; simp only [h1]
  cases b1 with
  | true =>
    simp only [hc rfl, bind_ok_s]
    exact q_gB hy2 hz h2
  | false => rfl
theorem two_of {α : Type} [Inhabited α] {l : List α} (h : l.length = 2) : l = [gI l 0, gI l 1] := by
  match l, h with
  | [a, b], _ => rfl
theorem g_ls2 {α : Type} [Inhabited α] {e : α → D} {l : List α} {gs : FnGs} (h : l.length = 2) (hg : gs [e (gI l 0), e (gI l 1)] Γ = some Γ1) : gLs gs (.ow (l.map e)) Γ = some Γ1 := by
  rw [two_of h]; exact hg
theorem g_ls2d {α : Type} [Inhabited α] {e : α → D} {l : List α} {gs : FnGs} (h : l.length = 2) (hg : gs [e (gI l 0), e (gI l 1)] Γ = some Γ1) : gLs gs (.d (dL e l)) Γ = some Γ1 := by
  rw [two_of h]; exact hg
end
end FL

/-! TF: typed readings of what FH reads: handled errors, try, count and index of data. -/
namespace FL
open PySem PySem.Spec L2
section
variable {Γ Γ1 Γ2 : Ga} {f g : FnE} {t : FnT} {i n : Nat} {rv : RV} {β τ ρ : Type}
theorem r_isT {a : Addr} {c : Str} {o : Option Bool} (h : Γ[i]? = some (some (.ex a c))) (ho : Option.isSome o = true) : eIsT a o i Γ = .ok (.d (PyData.bool (Option.getD o false)), Γ) := by
  cases o with
  | none => cases ho
  | some b =>
    show eIsE a b i Γ = _
    unfold eIsE
    rw [h]
    simp
def cntG {α : Type} [DecidableEq α] (l : List α) (v : α) : Int := ((l.countP fun z => decide (z = v) : Nat) : Int)
def idxN {α : Type} [DecidableEq α] : List α → α → Nat
  | [], _ => 0
  | a :: r, k => if a = k then 0 else idxN r k + 1
def idxG {α : Type} [DecidableEq α] (l : List α) (v : α) : Int := (idxN l v : Int)
theorem idxV_map {α : Type} [DecidableEq α] {e : α → D} {v : α} (he : EQ e) : ∀ {l : List α}, v ∈ l → idxV (l.map e) (e v) = some (idxN l v)
  | [], h => by cases h
  | a :: r, h => by
    rw [List.map_cons]
    unfold idxV idxN
    rw [he]
    by_cases q : a = v
    · rw [if_pos (by simpa using q), if_pos q]
    · rw [if_neg (by simpa using q), if_neg q]
      rcases List.mem_cons.mp h with e | h
      · exact absurd e.symm q
      · rw [idxV_map he h]; rfl
theorem cntV_map {α : Type} [DecidableEq α] {e : α → D} {v : α} (he : EQ e) (l : List α) : cntV (l.map e) (e v) = some (.int (cntG l v)) := by
  unfold cntV cntG
  rw [List.countP_map]
  have : (fun z => PyData.eqv z (e v)) ∘ e = fun z => decide (z = v) := funext fun z => he z v
  rw [this]
theorem r_outV {α : Type} [DecidableEq α] {e : α → D} {m : Nat} {l : List α} {v : α} {F : List D → D → Option D} {z : D} (hs : SH m e) (hn : Nat.ble m 62 = true) (h : eOp f Γ = .ok (rv, Γ1)) (ho : ownAt Γ i = true) (hg : rv.get Γ1 = some (e v)) (hl : ownList Γ1[i]? = some (l.map e)) (hF : F (l.map e) (e v) = some z) :
    eMet i f (outV F i) Γ = .ok (.d z, Γ1) := by
  have hn' := Nat.le_of_ble_eq_true hn
  unfold eMet
  rw [if_pos ho, h]
  simp only [bind_ok_s]
  unfold outV
  simp only [hl, hg]
  have sl : SeqAt.shaped (.list (l.map e)) = true := (sh_L hs l).shaped (by omega)
  rw [sl, (hs v).shaped (by omega)]
  simp [hF]
theorem r_cntV {α : Type} [DecidableEq α] {e : α → D} {m : Nat} {l : List α} {v : α} (he : EQ e) (hs : SH m e) (hn : Nat.ble m 62 = true) (h : eOp f Γ = .ok (rv, Γ1)) (ho : ownAt Γ i = true) (hg : rv.get Γ1 = some (e v)) (hl : ownList Γ1[i]? = some (l.map e)) :
    eMet i f (outV cntV i) Γ = .ok (.d (.int (cntG l v)), Γ1) := r_outV hs hn h ho hg hl (cntV_map he l)
theorem r_idxV {α : Type} [DecidableEq α] {e : α → D} {m : Nat} {l : List α} {v : α} (he : EQ e) (hs : SH m e) (hn : Nat.ble m 62 = true) (h : eOp f Γ = .ok (rv, Γ1)) (ho : ownAt Γ i = true) (hg : rv.get Γ1 = some (e v)) (hl : ownList Γ1[i]? = some (l.map e)) (hm : v ∈ l) :
    eMet i f (outV idV i) Γ = .ok (.d (.int (idxG l v)), Γ1) := r_outV hs hn h ho hg hl (by unfold idV; rw [idxV_map he hm]; rfl)
/-! a list told with a wider type -/
theorem co_T {α β : Type} {e : α → D} {e' : β → D} {f : α → β} (h : ∀ y, e y = e' (f y)) {l : List α} : dT e l = dT e' (List.map f l) := by
  unfold dT
  rw [List.map_map]
  congr 1
  exact List.map_congr_left fun y _ => h y
theorem co_L {α β : Type} {e : α → D} {e' : β → D} {f : α → β} (h : ∀ y, e y = e' (f y)) {l : List α} : dL e l = dL e' (List.map f l) := by
  unfold dL
  rw [List.map_map]
  congr 1
  exact List.map_congr_left fun y _ => h y
theorem co_W {α β : Type} {e : α → D} {e' : β → D} {f : α → β} (h : ∀ y, e y = e' (f y)) {l : List α} : List.map e l = List.map e' (List.map f l) := by
  rw [List.map_map]
  exact List.map_congr_left fun y _ => h y
/-- a call told of any data, its list not used -/
theorem r_callXA {α : Type} {e : α → D} {m : Ex (List α)} {run : FnR} {np : Nat} {fa : FnA} {Γ Γ1 : Ga} {rvs : List RV} {as : List Sl} (ha : fa Γ = .ok (rvs, Γ1)) (hl : rvs.length = np) (hm : mkArgs Γ1 rvs none = some as) (hv : (run as).val = toRs (dL e) m) (hp : plainAll rvs none Γ1 = true) (hn : NL e) : eCall run np none fa Γ = exRs m (fun v => (if as.all Sl.flat = true then .ow (v.map e) else .d (dL e v), Γ1)) := by
  by_cases q : as.all Sl.flat = true
  · rw [r_callXL ha hl hm hv q hn]
    cases m with
    | ok v => simp [exRs, q]
    | error x => rfl
  · cases m with
    | ok v =>
      rw [r_callD ha hl hm hv hp (.inr (.inr (eq_false_of_ne_true q)))]
      simp [exRs, q]
    | error x =>
      rw [eCall_ap, ha]
      simp only [bind_ok_s, callK_q1]
      rw [if_pos hl, hm]
      simp only [callK2_q1, hv, toRs, exRs, callV_q2]
/-! try -/
def srB : SR → LR
  | .nx Γ => .nx Γ
  | .ret d _ => .res (.ok d)
  | .exc e => .res (.exc e)
  | _ => .res .bad
def mkB (E : Ga) (e : ρ → D) : Option (Ex ρ) → LR
  | none => .nx E
  | some m => .res (toRs e m)
theorem finr_b : FinR srB .res := fun r x h => by
  cases r <;> first | exact h | cases h
def tryT (m : Option (Ex ρ)) (H : Exc → ρ) (a : τ) (c : ρ → τ) : τ := match m with
  | none => a
  | some (.ok v) => c v
  | some (.error x) => c (H x)
@[simp] theorem tryT_n {H : Exc → ρ} {a : τ} {c : ρ → τ} : tryT none H a c = a := rfl
@[simp] theorem tryT_ok {H : Exc → ρ} {a : τ} {c : ρ → τ} {v : ρ} : tryT (some (.ok v)) H a c = c v := rfl
@[simp] theorem tryT_er {H : Exc → ρ} {a : τ} {c : ρ → τ} {x : Exc} : tryT (some (.error x)) H a c = c (H x) := rfl
theorem tab_some {th : List (Str × D)} {x : Exc} (h : (tabH th x).isSome = true) : tabH th x = some (dA (Option.getD (tabH th x) PyData.none)) := by
  cases q : tabH th x with
  | none => rw [q] at h; cases h
  | some d => rfl
theorem k_try {fin : SR → β} {mk : τ → β} {w : Rs D → β} {k fb : FnS} {fh : Exc → Option D} {m : Option (Ex ρ)} {H : Exc → ρ} {a : τ} {c : ρ → τ} (fr : FinR fin w) (e : ρ → D) (E : Ga)
    (hb : srB (fb Γ) = mkB E e m) (hok : (decide (Γ.length = n) && Γ.all slFree) = true) (hh : ∀ x, m = some (.error x) → fh x = some (e (H x))) (hk : m = none → fin (k E) = mk a) (hr : ∀ v, w (.ok (e v)) = mk (c v)) :
    fin (sSeq (sTry n fb fh) k Γ) = mk (tryT m H a c) := by
  unfold sSeq sTry
  cases m with
  | none =>
    cases q : fb Γ with
    | nx Γ1 => rw [q] at hb; cases hb; exact hk rfl
    | _ => rw [q] at hb; cases hb
  | some m =>
    cases m with
    | ok v =>
      cases q : fb Γ with
      | ret d Γ1 =>
        rw [q] at hb
        cases hb
        rw [tryT_ok, ← hr v]
        exact fr _ _ rfl
      | _ => rw [q] at hb; cases hb
    | error x =>
      cases q : fb Γ with
      | exc x' =>
        rw [q] at hb
        cases hb
        simp only [hh x rfl, if_pos hok]
        rw [tryT_er, ← hr]
        exact fr _ _ rfl
      | _ => rw [q] at hb; cases hb
theorem k_retIf {fin : SR → β} {o : β} (h : fin (sIf t (sRet f) (sRet g) Γ) = o) : fin (sRet (eIf t f g) Γ) = o := by
  rw [← h]
  unfold sIf sRet eIf
  cases q : t Γ with
  | bad => rfl
  | exc e => rfl
  | ok p =>
    obtain ⟨c, Γ1⟩ := p
    cases c <;> rfl
end
/-- a tuple of whole numbers out of data -/
def asTI (d : D) : List Int := (asTup d).map asInt
@[simp] theorem asTI_t (l : List Int) : asTI (dT .int l) = l := by
  unfold asTI
  rw [asTup_dT, List.map_map]
  exact List.map_id'' (fun _ => rfl) l
end FL

/-! TG: plain tools for the laws. -/
namespace FL
open PySem PySem.Spec L2
section
variable {α β σ ρ τ : Type}
theorem fold_app {F : α → β} {ok : List β → α → Prop} {step : List β → α → List β} {l : List α} (hs : ∀ s x, x ∈ l → step s x = s ++ [F x]) (h : ∀ s x, x ∈ l → s.length < l.length → ok s x) : okF ok step l [] ∧ l.foldl step [] = l.map F := by
  obtain ⟨a, b⟩ := fold_pre (ok := ok) (step := step) (fun p s => s = p.map F) (l := l) (s := []) rfl fun p x r s e hp => by
    have hx : x ∈ l := by rw [e]; simp
    subst hp
    refine ⟨h _ _ hx (by rw [e]; simp), ?_⟩
    rw [hs _ _ hx]
    simp
  exact ⟨a, b⟩
theorem enuF_len (k : Nat) (l : List α) : (enuF k l).length = l.length := by
  induction l generalizing k with
  | nil => rfl
  | cons x l ih => unfold enuF; rw [List.length_cons, ih, List.length_cons]
theorem mem_enuF {k : Nat} {l : List α} {x : Int × α} (h : x ∈ enuF k l) : ∃ i : Nat, x.1 = (k + i : Nat) ∧ l[i]? = some x.2 := by
  induction l generalizing k with
  | nil => cases h
  | cons y l ih =>
    unfold enuF at h
    rcases List.mem_cons.mp h with e | h
    · subst e; exact ⟨0, rfl, rfl⟩
    · obtain ⟨i, h1, h2⟩ := ih h
      exact ⟨i + 1, by rw [h1]; omega, h2⟩
theorem mem_enu {l : List α} {x : Int × α} (h : x ∈ enuL l) : 0 ≤ x.1 ∧ x.1 < l.length ∧ x.2 ∈ l := by
  obtain ⟨i, h1, h2⟩ := mem_enuF h
  obtain ⟨h3, h4⟩ := List.getElem?_eq_some_iff.mp h2
  exact ⟨by omega, by omega, h4 ▸ List.getElem_mem h3⟩
theorem enuF_zip [Inhabited β] {l : List α} : ∀ {m p : List β}, m.length = l.length → (enuF p.length l).map (fun x => (x.2, gI (p ++ m) x.1)) = l.zip m := by
  induction l with
  | nil => intro m p h; rfl
  | cons x l ih =>
    intro m p h
    cases m with
    | nil => cases h
    | cons y m =>
      unfold enuF
      rw [List.map_cons, List.zip_cons_cons]
      have e : gI (p ++ y :: m) ((p.length : Nat) : Int) = y := by rw [gI_get (by simp)]; simp
      rw [e]
      have := ih (m := m) (p := p ++ [y]) (by simpa using h)
      rw [List.length_append] at this
      rw [← this]
      simp
theorem enu_zip [Inhabited β] {l : List α} {m : List β} (h : m.length = l.length) : (enuL l).map (fun x => (x.2, gI m x.1)) = l.zip m := enuF_zip (p := []) h
end
/-- what is said of a result -/
def saidR {α : Type} (th : List (Str × D)) (e : α → D) (m : Ex α) : D := match m with
  | .ok v => e v
  | .error x => (tabH th x).getD .none
@[simp] theorem saidR_ok {α : Type} {th : List (Str × D)} {e : α → D} {v : α} : saidR th e (.ok v) = e v := rfl
theorem saidR_er {α : Type} {th : List (Str × D)} {e : α → D} {c : Str} {d : D} (h : th.lookup c = some d) : saidR th e (.error ⟨c, none⟩) = d := by
  show (tabH th ⟨c, none⟩).getD .none = d
  unfold tabH
  simp only
  rw [h]; rfl
theorem tryT_s {α : Type} {th : List (Str × D)} {e : α → D} {m : Ex α} {t : Option (Ex D)} (h : t = some (exM e m)) : tryT t (fun x => Option.getD (tabH th x) PyData.none) (dU ()) (fun r => r) = saidR th e m := by
  subst h
  cases m <;> rfl
theorem tryT_o {α : Type} {th : List (Str × D)} {e : α → D} {m : Ex α} {t : Option (Ex D)} (h : t = some (exM e m)) (hm : ∀ x, m = .error x → (tabH th x).isSome = true) : ∀ x, t = some (.error x) → (tabH th x).isSome = true := fun x hx => by
  subst h
  cases m with
  | ok v => cases hx
  | error y => exact hm x (by cases hx; rfl)
theorem tab_c {th : List (Str × D)} {c : Str} (h : (th.lookup c).isSome = true) {α : Type} : ∀ x, (.error ⟨c, none⟩ : Ex α) = .error x → (tabH th x).isSome = true := fun x hx => by
  cases hx
  exact h
theorem tab_ok {th : List (Str × D)} {α : Type} {v : α} : ∀ x, (.ok v : Ex α) = .error x → (tabH th x).isSome = true := fun x hx => by cases hx
theorem rp_K {k : KK} (h1 : k.1.natAbs < 2 ^ 200) (h2 : k.2.1.natAbs < 2 ^ 200) (h3 : ∀ x, k.2.2 = some x → x.natAbs < 2 ^ 200) : RP 5772 1 (dK k) := rp_P3 (rp_i h1) (rp_i h2) (rp_O h3)
theorem h_ret {f : FnE} {Γ Γ' : Ga} {l : List D} {d : D} (h : f Γ = .ok (.ow l, Γ')) (e : PyData.list l = d) : ∃ Γ2 : Ga, sRet f Γ = .ret d Γ2 := by
  subst e
  refine ⟨Γ', ?_⟩
  unfold sRet
  rw [h]
  rfl
end FL

/-! TH: plain tools: whiles that end, the greatest divisor, fractions, folds over places. -/
namespace FL
open PySem PySem.Spec L2
section
variable {σ α β τ ρ : Type}
theorem whl_meas {c : σ → Bool} {step : σ → σ} {ok : σ → Prop} (I : σ → Prop) (m : σ → Nat) (h : ∀ s, I s → ok s ∧ (c s = true → I (step s) ∧ m (step s) < m s)) : ∀ n s, I s → m s < n → okW c step ok n s ∧ ∃ s', whl c step n s = some s' ∧ I s' ∧ c s' = false
  | 0, s, _, hm => by omega
  | n + 1, s, hi, hm => by
    obtain ⟨h1, h2⟩ := h s hi
    cases q : c s with
    | false => exact ⟨⟨h1, fun z => by rw [q] at z; cases z⟩, s, by unfold whl; rw [q]; rfl, hi, q⟩
    | true =>
      obtain ⟨h3, h4⟩ := h2 q
      obtain ⟨a, s', e, h5, h6⟩ := whl_meas I m h n (step s) h3 (by omega)
      exact ⟨⟨h1, fun _ => a⟩, s', by unfold whl; rw [q]; exact e, h5, h6⟩
def gc (a b : Int) : Int := ((Int.gcd a b : Nat) : Int)
theorem gc_rec {x y : Int} (hx : 0 ≤ x) (hy : 0 ≤ y) : Int.gcd y (x % y) = Int.gcd x y := by
  obtain ⟨x', rfl⟩ := Int.eq_ofNat_of_zero_le hx
  obtain ⟨y', rfl⟩ := Int.eq_ofNat_of_zero_le hy
  rw [← Int.natCast_emod]
  show Nat.gcd y' (x' % y') = Nat.gcd x' y'
  rw [Nat.gcd_comm x' y', Nat.gcd_rec y' x', Nat.gcd_comm]
theorem gcd_whl {c : Int × Int → Bool} {ok : Int × Int → Prop} (hc : ∀ s : Int × Int, 0 ≤ s.2 → c s = !decide (s.2 = 0)) (ho : ∀ s : Int × Int, 0 ≤ s.2 → ok s) {a b : Int} (ha : 0 ≤ a) (hb : 0 ≤ b) : okW c (fun s => (s.2, s.1 % s.2)) ok (b.toNat + 1) (a, b) ∧ whl c (fun s => (s.2, s.1 % s.2)) (b.toNat + 1) (a, b) = some (gc a b, 0) := by
  obtain ⟨p, s', e, ⟨h1, h2, h3⟩, h4⟩ := whl_meas (c := c) (step := fun s : Int × Int => (s.2, s.1 % s.2)) (ok := ok) (fun s => 0 ≤ s.1 ∧ 0 ≤ s.2 ∧ Int.gcd s.1 s.2 = Int.gcd a b) (fun s => s.2.toNat) (fun s ⟨h1, h2, h3⟩ => by
    refine ⟨ho s h2, fun q => ?_⟩
    rw [hc s h2] at q
    have q : s.2 ≠ 0 := by simpa using q
    have r1 := Int.emod_nonneg s.1 q
    have r2 := Int.emod_lt_of_pos s.1 (show 0 < s.2 by omega)
    exact ⟨⟨h2, r1, by rw [← h3]; exact gc_rec h1 h2⟩, by show (s.1 % s.2).toNat < s.2.toNat; omega⟩) (b.toNat + 1) (a, b) ⟨ha, hb, rfl⟩ (by show b.toNat < _; omega)
  refine ⟨p, ?_⟩
  rw [e]
  obtain ⟨x, y⟩ := s'
  rw [hc _ h2] at h4
  have q : y = 0 := by simpa using h4
  subst q
  have : gc a b = x := by
    unfold gc
    rw [← h3, Int.gcd_zero_right]
    have h1 : 0 ≤ x := h1
    omega
  rw [this]
theorem gc_pos {a b : Int} (hb : 0 < b) : 0 < gc a b := by
  unfold gc
  have := Int.gcd_pos_of_ne_zero_right a (Int.ne_of_gt hb)
  omega
theorem gc_le {a b : Int} (hb : 0 < b) : gc a b ≤ b := by
  unfold gc
  exact Int.le_of_dvd hb (Int.gcd_dvd_right ..)
theorem fdiv_b {n : Nat} {j : Int} (h : 0 < j) (b : bits n j) (l : n ≤ 9000) : fdivOk j = true := by
  unfold fdivOk
  rw [Bool.and_eq_true, decide_eq_true_eq, decide_eq_true_eq]
  refine ⟨h, ?_⟩
  have z : j.natAbs ≠ 0 := by omega
  have := (Nat.log2_lt z).mpr b
  omega
theorem bits_le {n : Nat} {i j : Int} (h : 0 ≤ i) (l : i ≤ j) (b : bits n j) : bits n i := by unfold bits at *; omega
/-- a fraction in lowest terms -/
def lw (a b : Int) : Int × Int := (a / gc a b, b / gc a b)
theorem lw_pos {a b : Int} (ha : 0 ≤ a) (hb : 0 < b) : 0 ≤ (lw a b).1 ∧ 0 < (lw a b).2 ∧ (lw a b).1 ≤ a ∧ (lw a b).2 ≤ b := by
  have g := gc_pos (a := a) hb
  have l := gc_le (a := a) hb
  unfold lw
  refine ⟨Int.ediv_nonneg ha (Int.le_of_lt g), ?_, Int.ediv_le_self _ ha, Int.ediv_le_self _ (Int.le_of_lt hb)⟩
  exact Int.ediv_pos_of_pos_of_dvd hb (Int.le_of_lt g) (by unfold gc; exact Int.gcd_dvd_right ..)
/-- a sum of fractions, in lowest terms -/
def pl (p q : Int × Int) : Int × Int := lw (p.1 * q.2 + q.1 * p.2) (p.2 * q.2)
/-- a fraction of so many bits -/
structure Fr (n m : Nat) (p : Int × Int) : Prop where
  a : 0 ≤ p.1
  b : 0 < p.2
  ba : bits n p.1
  bb : bits m p.2
theorem Fr.up {n m n' m' : Nat} {p : Int × Int} (h : Fr n m p) (l : n ≤ n') (l2 : m ≤ m') : Fr n' m' p := ⟨h.a, h.b, h.ba.up l, h.bb.up l2⟩
theorem lw_fr {n m : Nat} {a b : Int} (ha : 0 ≤ a) (hb : 0 < b) (ba : bits n a) (bb : bits m b) : Fr n m (lw a b) := by
  obtain ⟨h1, h2, h3, h4⟩ := lw_pos ha hb
  exact ⟨h1, h2, bits_le h1 h3 ba, bits_le (Int.le_of_lt h2) h4 bb⟩
theorem pl_parts {n m n' m' x : Nat} {p q : Int × Int} (hp : Fr n m p) (hq : Fr n' m' q) (l : n + m' ≤ x) (l2 : n' + m ≤ x) : 0 ≤ p.1 * q.2 + q.1 * p.2 ∧ 0 < p.2 * q.2 ∧ bits (x + 1) (p.1 * q.2 + q.1 * p.2) ∧ bits (m + m') (p.2 * q.2) := by
  refine ⟨Int.add_nonneg (Int.mul_nonneg hp.a (Int.le_of_lt hq.b)) (Int.mul_nonneg hq.a (Int.le_of_lt hp.b)), Int.mul_pos hp.b hq.b, ?_, bits.mul hp.bb hq.bb⟩
  exact bits.add ((bits.mul hp.ba hq.bb).up l) ((bits.mul hq.ba hp.bb).up l2)
theorem pl_fr {n m n' m' x : Nat} {p q : Int × Int} (hp : Fr n m p) (hq : Fr n' m' q) (l : n + m' ≤ x) (l2 : n' + m ≤ x) : Fr (x + 1) (m + m') (pl p q) := by
  obtain ⟨h1, h2, h3, h4⟩ := pl_parts hp hq l l2
  exact lw_fr h1 h2 h3 h4
theorem rp_Q {n m : Nat} {p : Int × Int} (h : Fr n m p) (l : n ≤ 200) (l2 : m ≤ 200) : RP 3849 1 (dP2 .int .int p) := rp_P2 (rp_i (h.ba.up l)) (rp_i (h.bb.up l2))
theorem lw_cop {a b : Int} (hb : 0 < b) : gc (lw a b).1 (lw a b).2 = 1 := by
  unfold lw gc
  have h := Int.gcd_ediv_gcd_ediv_gcd_of_ne_zero_right (n := a) (m := b) (by omega)
  show ((Int.gcd (a / (Int.gcd a b : Nat)) (b / (Int.gcd a b : Nat)) : Nat) : Int) = 1
  rw [h]; rfl
/-- the same value -/
theorem lw_eq (a b : Int) : (lw a b).1 * b = a * (lw a b).2 := by
  unfold lw gc
  obtain ⟨x, hx⟩ := Int.gcd_dvd_left a b
  obtain ⟨y, hy⟩ := Int.gcd_dvd_right a b
  by_cases g : ((Int.gcd a b : Nat) : Int) = 0
  · rw [g]; simp
  · have e1 : a / ((Int.gcd a b : Nat) : Int) = x := by
      conv => lhs; lhs; rw [hx]
      exact Int.mul_ediv_cancel_left _ g
    have e2 : b / ((Int.gcd a b : Nat) : Int) = y := by
      conv => lhs; lhs; rw [hy]
      exact Int.mul_ediv_cancel_left _ g
    show a / _ * b = a * (b / _)
    rw [e1, e2]
    generalize ((Int.gcd a b : Nat) : Int) = z at *
    rw [hx, hy]
    grind
theorem lw_uniq {a b p q : Int} (hb : 0 < b) (hq : 0 < q) (hc : gc p q = 1) (h : p * b = a * q) : lw a b = (p, q) := by
  have hc' : Int.gcd q p = 1 := by
    unfold gc at hc
    rw [Int.gcd_comm]
    omega
  have d : q ∣ p * b := ⟨a, by rw [h, Int.mul_comm]⟩
  have d2 : q ∣ b := by
    have a1 : q ∣ ((Int.gcd q (p * b) : Nat) : Int) := Int.dvd_coe_gcd (Int.dvd_refl q) d
    rw [Int.gcd_mul_right_right_of_gcd_eq_one hc'] at a1
    exact Int.dvd_trans a1 (Int.gcd_dvd_right ..)
  obtain ⟨t, ht⟩ := d2
  have ha : a = p * t := by
    have : a * q = p * t * q := by rw [← h, ht]; grind
    exact Int.eq_of_mul_eq_mul_right (by omega) this
  have tp : 0 < t := by
    rcases Int.lt_or_le 0 t with l | l
    · exact l
    · have := Int.mul_nonpos_of_nonneg_of_nonpos (Int.le_of_lt hq) l
      omega
  have g : gc a b = t := by
    unfold gc at *
    rw [ha, ht, Int.gcd_mul_right]
    rw [Int.gcd_comm q p] at hc'
    rw [hc']
    omega
  unfold lw
  rw [g, ha, ht, Int.mul_ediv_cancel _ (by omega), Int.mul_ediv_cancel _ (by omega)]
theorem pl_eq {p r : Int × Int} {t b s c : Int} (hb : 0 < p.2) (hr : 0 < r.2) (h1 : p.1 * b = t * p.2) (h2 : r.1 * c = s * r.2) : (pl p r).1 * (b * c) = (t * c + s * b) * (pl p r).2 := by
  have h := lw_eq (p.1 * r.2 + r.1 * p.2) (p.2 * r.2)
  unfold pl
  generalize lw (p.1 * r.2 + r.1 * p.2) (p.2 * r.2) = z at *
  have n : p.2 * r.2 ≠ 0 := by have := Int.mul_pos hb hr; omega
  refine Int.eq_of_mul_eq_mul_right n ?_
  grind
theorem pl_cop {p r : Int × Int} (hb : 0 < p.2) (hr : 0 < r.2) : gc (pl p r).1 (pl p r).2 = 1 := lw_cop (Int.mul_pos hb hr)
/-! folds over places -/
theorem fold_rz [Inhabited α] [Inhabited β] {F : σ → α → β → σ} : ∀ (l : List α) (m : List β) (pl : List α) (pm : List β) (s : σ), l.length = m.length → pl.length = pm.length → (rngI (pl.length : Int) ((pl ++ l).length : Int)).foldl (fun s i => F s (gI (pl ++ l) i) (gI (pm ++ m) i)) s = (l.zip m).foldl (fun s x => F s x.1 x.2) s := by
  intro l
  induction l with
  | nil =>
    intro m pl pm s h h2
    cases m with
    | cons => simp at h
    | nil => simp [rngI]
  | cons x l ih =>
    intro m pl pm s h h2
    cases m with
    | nil => simp at h
    | cons y m =>
      have e : rngI (pl.length : Int) ((pl ++ x :: l).length : Int) = (pl.length : Int) :: rngI ((pl ++ [x]).length : Int) (((pl ++ [x]) ++ l).length : Int) := by
        unfold rngI
        have a1 : (((pl ++ x :: l).length : Nat) - (pl.length : Int) : Int).toNat = l.length + 1 := by simp; omega
        have a2 : ((((pl ++ [x]) ++ l).length : Nat) - ((pl ++ [x]).length : Nat) : Int).toNat = l.length := by simp; omega
        rw [a1, a2, List.range_succ_eq_map, List.map_cons, List.map_map]
        congr 1
        apply List.map_congr_left
        intro i _
        show (pl.length : Int) + ((i + 1 : Nat) : Int) = ((pl ++ [x]).length : Int) + (i : Int)
        simp
        omega
      rw [e, List.foldl_cons, List.zip_cons_cons, List.foldl_cons]
      have g1 : gI (pl ++ x :: l) (pl.length : Int) = x := by rw [gI_get (by simp)]; simp
      have g2 : gI (pm ++ y :: m) (pl.length : Int) = y := by
        rw [h2, gI_get (by simp)]; simp
      rw [g1, g2]
      have := ih m (pl ++ [x]) (pm ++ [y]) (F s x y) (by simpa using h) (by simp [h2])
      simp only [List.append_assoc, List.singleton_append] at this ⊢
      exact this
theorem fold_rng2 [Inhabited α] [Inhabited β] {F : σ → α → β → σ} {l : List α} {m : List β} {s : σ} (h : l.length = m.length) : (rngI 0 (l.length : Int)).foldl (fun s i => F s (gI l i) (gI m i)) s = (l.zip m).foldl (fun s x => F s x.1 x.2) s :=
  fold_rz l m [] [] s h rfl
end
end FL

/-! TI: more typed rules. -/
namespace FL
open PySem PySem.Spec L2
theorem r_fzw {α : Type} {e : α → D} {l : List α} {f : FnE} {Γ Γ1 : Ga} (h : f Γ = .ok (.ow (List.map e l), Γ1)) : eOp f Γ = .ok (.d (dL e l), Γ1) := r_opw h
theorem r_frV {α : Type} {e : α → D} {l : List α} {i : Nat} {Γ : Ga} (h : Γ[i]? = some (some (.ow (List.map e l)))) : eFrV i Γ = .ok (.d (dL e l), Γ.set i (some (.fz (dL e l)))) := by
  have e1 : rvFz Γ (.sl i) = some (.list (List.map e l), Γ.set i (some (.fz (.list (List.map e l))))) := by unfold rvFz; simp only [h]
  unfold eFrV; rw [e1]; rfl
theorem r_frVf {d : D} {i : Nat} {Γ : Ga} (h : Γ[i]? = some (some (.fz d))) : eFrV i Γ = .ok (.d d, Γ) := by
  have e1 : rvFz Γ (.sl i) = some (d, Γ) := by unfold rvFz; simp only [h]
  unfold eFrV; rw [e1]
def asP2I (d : D) : Int × Int := (asInt ((ixD d (.int 0)).getD .none), asInt ((ixD d (.int 1)).getD .none))
@[simp] theorem asP2I_t (p : Int × Int) : asP2I (dP2 .int .int p) = p := rfl
theorem r_callLA {Γ Γ1 : Ga} {fa : FnA} {d : D} {run : FnR} {np : Nat} {rvs : List RV} {as : List Sl} (ha : fa Γ = .ok (rvs, Γ1)) (hl : rvs.length = np) (hm : mkArgs Γ1 rvs none = some as) (hv : (run as).val = .ok d) (hf : as.all Sl.flat = true) (hd : isiB .list d = true ∧ noLs (asLst d) = true) : eCall run np none fa Γ = .ok (.ow (List.map dA (asLst d)), Γ1) := by
  cases d with
  | list l =>
    rw [eCall_ap, ha]
    simp only [bind_ok_s, callK_q1]
    rw [if_pos hl, hm]
    simp only [callK2_q1, hv, callV_q1]
    show backV _ _ _ _ _ (.list l) = .ok (.ow (List.map dA l), Γ1)
    rw [map_dA]
    exact back_fl hf hd.2
  | _ => exact absurd hd.1 (by simp [isiB])
theorem k_retXLT {α : Type} {e : α → D} {m : Ex (List α)} {f : FnE} {Γ Γ1 : Ga} (h : f Γ = exRs m (fun v => (.ow (v.map e), Γ1))) : srT (sRet f Γ) = .res (toRs (dL e) m) := by
  unfold sRet; rw [h]; cases m <;> rfl
theorem all_no {α : Type} {f : α → Bool} {l : List α} {i : Nat} {x : α} (h : l[i]? = some x) (hx : f x = false) : l.all f = false := by
  rw [List.all_eq_false]
  exact ⟨x, List.mem_of_getElem? h, by rw [hx]; simp⟩
theorem k_retXA {α : Type} {e : α → D} {m : Ex (List α)} {f : FnE} {Γ Γ1 : Ga} {b : Bool} (h : f Γ = exRs m (fun v => (if b = true then .ow (v.map e) else .d (dL e v), Γ1))) : srVal (sRet f Γ) = toRs (dL e) m := by
  unfold sRet; rw [h]
  cases m with
  | ok v => cases b <;> rfl
  | error x => rfl
theorem k_retXAT {α : Type} {e : α → D} {m : Ex (List α)} {f : FnE} {Γ Γ1 : Ga} {b : Bool} (h : f Γ = exRs m (fun v => (if b = true then .ow (v.map e) else .d (dL e v), Γ1))) : srT (sRet f Γ) = .res (toRs (dL e) m) := by
  unfold sRet; rw [h]
  cases m with
  | ok v => cases b <;> rfl
  | error x => rfl
theorem three_of {α : Type} [Inhabited α] {l : List α} (h : l.length = 3) : l = [gI l 0, gI l 1, gI l 2] := by
  match l, h with
  | [a, b, c], _ => rfl
theorem g_ls3 {α : Type} [Inhabited α] {e : α → D} {l : List α} {gs : FnGs} {Γ Γ1 : Ga} (h : l.length = 3) (hg : gs [e (gI l 0), e (gI l 1), e (gI l 2)] Γ = some Γ1) : gLs gs (.ow (l.map e)) Γ = some Γ1 := by
  rw [three_of h]; exact hg
theorem g_ls3d {α : Type} [Inhabited α] {e : α → D} {l : List α} {gs : FnGs} {Γ Γ1 : Ga} (h : l.length = 3) (hg : gs [e (gI l 0), e (gI l 1), e (gI l 2)] Γ = some Γ1) : gLs gs (.d (dL e l)) Γ = some Γ1 := by
  rw [three_of h]; exact hg
end FL

/-! ML: plain words for loads: all loads that fit, their weights and worths, the best, the first best. -/
namespace FL
open PySem PySem.Spec L2
/-- how often a kind fits a room -/
def cap (k : KK) (r : Int) : Int := match k.2.2 with
  | none => r / k.1
  | some m => min (r / k.1) m
theorem cap_iff {k : KK} (ok : Kok k) {r t : Int} : t ≤ cap k r ↔ t * k.1 ≤ r ∧ ∀ m, k.2.2 = some m → t ≤ m := by
  have w := ok.w
  unfold cap
  rw [← Int.le_ediv_iff_mul_le (show 0 < k.1 by omega)]
  cases h : k.2.2 with
  | none => exact ⟨fun a => ⟨a, fun m e => by cases e⟩, fun a => a.1⟩
  | some m =>
    show t ≤ min (r / k.1) m ↔ _
    constructor
    · intro a; exact ⟨by omega, fun x e => by cases e; omega⟩
    · intro a; have := a.2 m rfl; omega
theorem cap_nn {k : KK} (ok : Kok k) {r : Int} (h : 0 ≤ r) : 0 ≤ cap k r := (cap_iff ok).mpr ⟨by omega, fun m e => ok.m m e⟩
theorem cap_w {k : KK} (ok : Kok k) {r t : Int} (h : t ≤ cap k r) : t * k.1 ≤ r := ((cap_iff ok).mp h).1
theorem cap_le {k : KK} (ok : Kok k) {r : Int} (h : 0 ≤ r) : cap k r ≤ r := by
  have a := cap_w ok (Int.le_refl (cap k r))
  have n := cap_nn ok h
  have := Int.mul_le_mul_of_nonneg_left ok.w n
  omega
theorem cap_min {k : KK} (ok : Kok k) {h R : Int} (l : h ≤ R) : min (cap k R) (h / k.1) = cap k h := by
  have w := ok.w
  have : h / k.1 ≤ R / k.1 := Int.ediv_le_ediv (by omega) l
  unfold cap
  cases q : k.2.2 with
  | none => show min (R / k.1) (h / k.1) = h / k.1; omega
  | some m => show min (min (R / k.1) m) (h / k.1) = min (h / k.1) m; omega
/-- all loads that fit, as tuples are ordered -/
def LD : List KK → Int → List (List Int)
  | [], _ => [[]]
  | k :: st, r => (rngI 0 (cap k r + 1)).flatMap fun t => (LD st (r - t * k.1)).map (t :: ·)
def lwt (st : List KK) (ld : List Int) : Int := ((st.zip ld).map fun x => x.1.1 * x.2).sum
def lwo (st : List KK) (ld : List Int) : Int := ((st.zip ld).map fun x => x.1.2.1 * x.2).sum
@[simp] theorem lwt_nil (ld : List Int) : lwt [] ld = 0 := rfl
@[simp] theorem lwo_nil (ld : List Int) : lwo [] ld = 0 := rfl
@[simp] theorem lwt_cons (k : KK) (st : List KK) (t : Int) (ld : List Int) : lwt (k :: st) (t :: ld) = k.1 * t + lwt st ld := by unfold lwt; rw [List.zip_cons_cons, List.map_cons, List.sum_cons]
@[simp] theorem lwo_cons (k : KK) (st : List KK) (t : Int) (ld : List Int) : lwo (k :: st) (t :: ld) = k.2.1 * t + lwo st ld := by unfold lwo; rw [List.zip_cons_cons, List.map_cons, List.sum_cons]
theorem LD_cons (k : KK) (st : List KK) (r : Int) : LD (k :: st) r = (rngI 0 (cap k r + 1)).flatMap fun t => (LD st (r - t * k.1)).map (t :: ·) := rfl
theorem mem_LD_cons {k : KK} {st : List KK} {r : Int} {l : List Int} : l ∈ LD (k :: st) r ↔ ∃ t l', l = t :: l' ∧ 0 ≤ t ∧ t ≤ cap k r ∧ l' ∈ LD st (r - t * k.1) := by
  rw [LD_cons, List.mem_flatMap]
  constructor
  · rintro ⟨t, ht, h⟩
    obtain ⟨l', h1, rfl⟩ := List.mem_map.mp h
    have := mem_rng.mp ht
    exact ⟨t, l', rfl, this.1, by omega, h1⟩
  · rintro ⟨t, l', rfl, h0, h1, h2⟩
    exact ⟨t, mem_rng.mpr ⟨h0, by omega⟩, List.mem_map.mpr ⟨l', h2, rfl⟩⟩
/-- a load of a store -/
def Ldo (st : List KK) (l : List Int) : Prop := l.length = st.length ∧ ∀ x ∈ st.zip l, 0 ≤ x.2 ∧ ∀ m, x.1.2.2 = some m → x.2 ≤ m
theorem Ldo_nil {l : List Int} : Ldo [] l ↔ l = [] := ⟨fun h => List.eq_nil_of_length_eq_zero h.1, fun h => by subst h; exact ⟨rfl, fun x hx => by cases hx⟩⟩
theorem Ldo_cons {k : KK} {st : List KK} {l : List Int} : Ldo (k :: st) l ↔ ∃ t l', l = t :: l' ∧ (0 ≤ t ∧ ∀ m, k.2.2 = some m → t ≤ m) ∧ Ldo st l' := by
  constructor
  · rintro ⟨h1, h2⟩
    cases l with
    | nil => cases h1
    | cons t l' => exact ⟨t, l', rfl, h2 (k, t) (by simp), by simpa using h1, fun x hx => h2 x (by rw [List.zip_cons_cons]; exact List.mem_cons_of_mem _ hx)⟩
  · rintro ⟨t, l', rfl, h1, h2, h3⟩
    refine ⟨by simp [h2], fun x hx => ?_⟩
    rw [List.zip_cons_cons] at hx
    rcases List.mem_cons.mp hx with rfl | hx
    · exact h1
    · exact h3 x hx
section
variable {st : List KK}
theorem LD_mem : ∀ {st : List KK} (ok : ∀ k ∈ st, Kok k) {r : Int} {l : List Int}, 0 ≤ r → (l ∈ LD st r ↔ Ldo st l ∧ lwt st l ≤ r)
  | [], _, r, l, h => by
    show l ∈ [[]] ↔ _
    rw [List.mem_singleton, Ldo_nil]
    exact ⟨fun e => ⟨e, by simpa using h⟩, fun e => e.1⟩
  | k :: st, ok, r, l, h => by
    have kk := ok k (by simp)
    rw [mem_LD_cons, Ldo_cons]
    constructor
    · rintro ⟨t, l', rfl, h0, h1, h2⟩
      obtain ⟨a, b⟩ := (cap_iff kk).mp h1
      obtain ⟨c, d⟩ := (LD_mem (fun x hx => ok x (by simp [hx])) (by omega)).mp h2
      refine ⟨⟨t, l', rfl, ⟨h0, b⟩, c⟩, ?_⟩
      rw [lwt_cons, Int.mul_comm]; omega
    · rintro ⟨⟨t, l', rfl, ⟨h0, b⟩, c⟩, d⟩
      rw [lwt_cons, Int.mul_comm] at d
      have n : 0 ≤ lwt st l' := by
        have : ∀ (st : List KK) (l : List Int), (∀ k ∈ st, Kok k) → Ldo st l → 0 ≤ lwt st l := fun st => by
          induction st with
          | nil => intro l _ _; simp
          | cons j st ih =>
            intro l o q
            obtain ⟨u, l2, rfl, q1, q2⟩ := Ldo_cons.mp q
            have := ih l2 (fun x hx => o x (by simp [hx])) q2
            have := Int.mul_nonneg (show (0 : Int) ≤ j.1 by have := (o j (by simp)).w; omega) q1.1
            rw [lwt_cons]; omega
        exact this st l' (fun x hx => ok x (by simp [hx])) c
      have hr : t * k.1 ≤ r := by omega
      exact ⟨t, l', rfl, h0, (cap_iff kk).mpr ⟨hr, b⟩, (LD_mem (fun x hx => ok x (by simp [hx])) (by omega)).mpr ⟨c, by omega⟩⟩
theorem LD_len {st : List KK} {r : Int} {l : List Int} (h : l ∈ LD st r) : l.length = st.length := by
  induction st generalizing r l with
  | nil => have e := List.mem_singleton.mp (show l ∈ [[]] from h); subst e; rfl
  | cons k st ih =>
    obtain ⟨t, l', rfl, _, _, h2⟩ := mem_LD_cons.mp h
    simp [ih h2]
theorem LD_ne : ∀ {st : List KK} (ok : ∀ k ∈ st, Kok k) {r : Int}, 0 ≤ r → List.replicate st.length 0 ∈ LD st r
  | [], _, _, _ => by simp [LD]
  | k :: st, ok, r, h => mem_LD_cons.mpr ⟨0, _, rfl, Int.le_refl 0, cap_nn (ok k (by simp)) h, by rw [Int.zero_mul, Int.sub_zero]; exact LD_ne (fun x hx => ok x (by simp [hx])) h⟩
theorem LD_ne' {st : List KK} (ok : ∀ k ∈ st, Kok k) {r : Int} (h : 0 ≤ r) : LD st r ≠ [] := List.ne_nil_of_mem (LD_ne ok h)
theorem LD_b {st : List KK} (ok : ∀ k ∈ st, Kok k) {r : Int} (h : 0 ≤ r) {l : List Int} (hl : l ∈ LD st r) : ∀ x ∈ l, 0 ≤ x ∧ x ≤ r := by
  induction st generalizing r l with
  | nil => rw [List.mem_singleton.mp (show l ∈ [[]] from hl)]; intro x hx; cases hx
  | cons k st ih =>
    obtain ⟨t, l', rfl, h0, h1, h2⟩ := mem_LD_cons.mp hl
    have kk := ok k (by simp)
    have c := cap_le kk h
    have w := cap_w kk h1
    have m := Int.mul_nonneg h0 (show (0 : Int) ≤ k.1 by have := kk.w; omega)
    intro x hx
    rcases List.mem_cons.mp hx with rfl | hx
    · exact ⟨h0, by omega⟩
    · have := ih (fun y hy => ok y (by simp [hy])) (show 0 ≤ r - t * k.1 by omega) h2 x hx
      exact ⟨this.1, by omega⟩
theorem flat_len {α β : Type} {f : α → List β} {c : Nat} : ∀ (l : List α), (∀ x ∈ l, (f x).length ≤ c) → (l.flatMap f).length ≤ l.length * c
  | [], _ => by simp
  | x :: l, h => by
    have a := h x (by simp)
    have b := flat_len l fun y hy => h y (by simp [hy])
    rw [List.flatMap_cons, List.length_append, List.length_cons, Nat.add_mul]
    omega
theorem LD_count : ∀ {st : List KK} (ok : ∀ k ∈ st, Kok k) {r : Int} {R : Nat}, 0 ≤ r → r ≤ R → (LD st r).length ≤ (R + 1) ^ st.length
  | [], _, _, _, _, _ => by simp [LD]
  | k :: st, ok, r, R, h, hR => by
    have kk := ok k (by simp)
    have c := cap_le kk h
    have := flat_len (f := fun t => (LD st (r - t * k.1)).map (t :: ·)) (c := (R + 1) ^ st.length) (rngI 0 (cap k r + 1)) fun t ht => by
      have q := mem_rng.mp ht
      have w := cap_w kk (show t ≤ cap k r by omega)
      have m := Int.mul_nonneg q.1 (show (0 : Int) ≤ k.1 by have := kk.w; omega)
      rw [List.length_map]
      exact LD_count (fun x hx => ok x (by simp [hx])) (by omega) (by omega)
    rw [rng0_len] at this
    refine Nat.le_trans this ?_
    rw [List.length_cons, Nat.pow_succ, Nat.mul_comm]
    exact Nat.mul_le_mul_left _ (by omega)
/-! going through from the left -/
def ext1 (k : KK) (x : List Int × Int) : List (List Int × Int) := (rngI 0 (cap k x.2 + 1)).map fun t => (x.1 ++ [t], x.2 - t * k.1)
theorem bf_eq : ∀ (st : List KK) (F : List (List Int × Int)), st.foldl (fun F k => F.flatMap (ext1 k)) F = F.flatMap fun x => (LD st x.2).map fun l => (x.1 ++ l, x.2 - lwt st l)
  | [], F => by
    show F = F.flatMap fun x => [(x.1 ++ [], x.2 - 0)]
    have : (fun x : List Int × Int => [(x.1 ++ ([] : List Int), x.2 - 0)]) = fun x => [x] := funext fun x => by rw [List.append_nil, Int.sub_zero]
    rw [this, List.flatMap_singleton']
  | k :: st, F => by
    rw [List.foldl_cons, bf_eq st, List.flatMap_assoc]
    congr 1
    funext x
    unfold ext1
    rw [List.flatMap_map]
    show _ = ((rngI 0 (cap k x.2 + 1)).flatMap fun t => (LD st (x.2 - t * k.1)).map (t :: ·)).map _
    rw [List.map_flatMap]
    congr 1
    funext t
    rw [List.map_map]
    apply List.map_congr_left
    intro l _
    show ((x.1 ++ [t]) ++ l, x.2 - t * k.1 - lwt st l) = (x.1 ++ t :: l, x.2 - lwt (k :: st) (t :: l))
    rw [lwt_cons, List.append_assoc, Int.mul_comm k.1]
    congr 1
    omega
theorem bf_loads (st : List KK) (r : Int) : (st.foldl (fun F k => F.flatMap (ext1 k)) [([], r)]).map (·.1) = LD st r := by
  rw [bf_eq, List.flatMap_singleton, List.map_map]
  conv => rhs; rw [← List.map_id (LD st r)]
  apply List.map_congr_left
  intro l _
  simp
/-! the best worth -/
def Bst (st : List KK) (r : Int) : Int := maxL ((LD st r).map (lwo st))
theorem Bst_mem {st : List KK} (ok : ∀ k ∈ st, Kok k) {r : Int} (h : 0 ≤ r) : (∃ l ∈ LD st r, lwo st l = Bst st r) ∧ ∀ l ∈ LD st r, lwo st l ≤ Bst st r := by
  have ne : (LD st r).map (lwo st) ≠ [] := by
    intro e
    exact LD_ne' ok h (List.map_eq_nil_iff.mp e)
  obtain ⟨a, b⟩ := maxL_mem ne
  obtain ⟨l, h1, h2⟩ := List.mem_map.mp a
  exact ⟨⟨l, h1, h2⟩, fun l hl => b _ (List.mem_map.mpr ⟨l, hl, rfl⟩)⟩
theorem Bst_eq {st : List KK} {r m : Int} (h : ∃ l ∈ LD st r, lwo st l = m) (h2 : ∀ l ∈ LD st r, lwo st l ≤ m) : Bst st r = m := by
  obtain ⟨l, hl, e⟩ := h
  exact maxL_eq (List.mem_map.mpr ⟨l, hl, e⟩) fun x hx => by
    obtain ⟨l, hl, rfl⟩ := List.mem_map.mp hx
    exact h2 l hl
theorem Bst_nil (r : Int) : Bst [] r = 0 := rfl
def bl1 (k : KK) (st : List KK) (r : Int) : List Int := (rngI 0 (cap k r + 1)).map fun t => Bst st (r - t * k.1) + t * k.2.1
theorem bl1_ne {k : KK} (kk : Kok k) {st : List KK} {r : Int} (h : 0 ≤ r) : bl1 k st r ≠ [] := by
  intro e
  have := cap_nn kk h
  have e := congrArg List.length e
  unfold bl1 at e
  rw [List.length_map, rng0_len] at e
  simp at e
  omega
theorem Bst_cons {k : KK} {st : List KK} (ok : ∀ x ∈ k :: st, Kok x) {r : Int} (h : 0 ≤ r) : Bst (k :: st) r = maxL (bl1 k st r) := by
  have kk := ok k (by simp)
  have ok' : ∀ x ∈ st, Kok x := fun x hx => ok x (by simp [hx])
  have sub : ∀ t : Int, 0 ≤ t → t ≤ cap k r → 0 ≤ r - t * k.1 := fun t h0 h1 => by have := cap_w kk h1; omega
  obtain ⟨a, b⟩ := maxL_mem (bl1_ne kk (st := st) h)
  apply Bst_eq
  · obtain ⟨t, ht, e⟩ := List.mem_map.mp a
    have q := mem_rng.mp ht
    obtain ⟨⟨l, hl, hb⟩, _⟩ := Bst_mem ok' (sub t q.1 (by omega))
    refine ⟨t :: l, mem_LD_cons.mpr ⟨t, l, rfl, q.1, by omega, hl⟩, ?_⟩
    rw [lwo_cons, hb, ← e, Int.mul_comm, Int.add_comm]
  · intro l hl
    obtain ⟨t, l', rfl, h0, h1, h2⟩ := mem_LD_cons.mp hl
    have c := (Bst_mem ok' (sub t h0 h1)).2 l' h2
    have d := b _ (List.mem_map.mpr ⟨t, mem_rng.mpr ⟨h0, by omega⟩, rfl⟩)
    rw [lwo_cons, Int.mul_comm]
    have d' : Bst st (r - t * k.1) + t * k.2.1 ≤ maxL (bl1 k st r) := d
    omega
/-! the first best load -/
theorem first_flat {α β : Type} {q : α → Bool} {f : α → List β} {g : α → β} : ∀ {T : List α} {t0 : α} {ts : List α}, (∀ t ∈ T, q t = false → f t = []) → (∀ t ∈ T, q t = true → ∃ r, f t = g t :: r) → T.filter q = t0 :: ts → ∃ r, T.flatMap f = g t0 :: r
  | [], _, _, _, _, h => by cases h
  | a :: T, t0, ts, h0, h1, h => by
    cases c : q a with
    | false =>
      rw [List.filter_cons_of_neg (by simp [c])] at h
      rw [List.flatMap_cons, h0 a (by simp) c, List.nil_append]
      exact first_flat (fun t ht => h0 t (by simp [ht])) (fun t ht => h1 t (by simp [ht])) h
    | true =>
      rw [List.filter_cons_of_pos c] at h
      obtain ⟨r, hr⟩ := h1 a (by simp) c
      cases h
      rw [List.flatMap_cons, hr]
      exact ⟨_, rfl⟩
def fb1 (k : KK) (st : List KK) (r : Int) : List Int := (rngI 0 (cap k r + 1)).filter fun t => decide (Bst st (r - t * k.1) + t * k.2.1 = Bst (k :: st) r)
def FB : List KK → Int → List Int
  | [], _ => []
  | k :: st, r => gI (fb1 k st r) 0 :: FB st (r - gI (fb1 k st r) 0 * k.1)
theorem fb1_ne {k : KK} {st : List KK} (ok : ∀ x ∈ k :: st, Kok x) {r : Int} (h : 0 ≤ r) : ∃ t ts, fb1 k st r = t :: ts ∧ gI (fb1 k st r) 0 = t ∧ 0 ≤ t ∧ t ≤ cap k r ∧ Bst st (r - t * k.1) + t * k.2.1 = Bst (k :: st) r := by
  obtain ⟨a, _⟩ := maxL_mem (bl1_ne (ok k (by simp)) (st := st) h)
  rw [← Bst_cons ok h] at a
  obtain ⟨t, ht, e⟩ := List.mem_map.mp a
  have m : t ∈ fb1 k st r := List.mem_filter.mpr ⟨ht, decide_eq_true e⟩
  cases q : fb1 k st r with
  | nil => rw [q] at m; cases m
  | cons u us =>
    have hu : u ∈ fb1 k st r := by rw [q]; simp
    obtain ⟨h1, h2⟩ := List.mem_filter.mp hu
    have := mem_rng.mp h1
    exact ⟨u, us, rfl, rfl, this.1, by omega, of_decide_eq_true h2⟩
theorem FB_first : ∀ {st : List KK} (ok : ∀ k ∈ st, Kok k) {r : Int}, 0 ≤ r → ∃ rest, (LD st r).filter (fun l => decide (lwo st l = Bst st r)) = FB st r :: rest
  | [], _, r, _ => ⟨[], rfl⟩
  | k :: st, ok, r, h => by
    have kk := ok k (by simp)
    have ok' : ∀ x ∈ st, Kok x := fun x hx => ok x (by simp [hx])
    obtain ⟨t0, ts, e, g, h0, h1, hb⟩ := fb1_ne ok h
    have key := first_flat (T := rngI 0 (cap k r + 1)) (q := fun t => decide (Bst st (r - t * k.1) + t * k.2.1 = Bst (k :: st) r)) (f := fun t => ((LD st (r - t * k.1)).map (t :: ·)).filter fun l => decide (lwo (k :: st) l = Bst (k :: st) r)) (g := fun t => t :: FB st (r - t * k.1)) (t0 := t0) (ts := ts) (fun t ht c => ?_) (fun t ht c => ?_) e
    · obtain ⟨rest, hr⟩ := key
      refine ⟨rest, ?_⟩
      show ((rngI 0 (cap k r + 1)).flatMap fun t => (LD st (r - t * k.1)).map (t :: ·)).filter _ = _
      rw [List.filter_flatMap, hr]
      have ef : FB (k :: st) r = gI (fb1 k st r) 0 :: FB st (r - gI (fb1 k st r) 0 * k.1) := rfl
      rw [ef, g]
    · have q := mem_rng.mp ht
      have c := of_decide_eq_false c
      have s : 0 ≤ r - t * k.1 := by have := cap_w kk (show t ≤ cap k r by omega); omega
      have le : Bst st (r - t * k.1) + t * k.2.1 ≤ Bst (k :: st) r := by
        rw [Bst_cons ok h]
        exact (maxL_mem (bl1_ne kk (st := st) h)).2 _ (List.mem_map.mpr ⟨t, ht, rfl⟩)
      rw [List.filter_eq_nil_iff]
      intro l hl
      obtain ⟨l', hl', rfl⟩ := List.mem_map.mp hl
      have := (Bst_mem ok' s).2 l' hl'
      rw [lwo_cons, Int.mul_comm, decide_eq_true_eq]
      omega
    · have q := mem_rng.mp ht
      have c := of_decide_eq_true c
      have s : 0 ≤ r - t * k.1 := by have := cap_w kk (show t ≤ cap k r by omega); omega
      obtain ⟨rest, hr⟩ := FB_first ok' s
      refine ⟨rest.map (t :: ·), ?_⟩
      rw [List.filter_map]
      have e2 : (fun l => decide (lwo (k :: st) l = Bst (k :: st) r)) ∘ (t :: ·) = fun l => decide (lwo st l = Bst st (r - t * k.1)) := funext fun l => by
        show decide (lwo (k :: st) (t :: l) = _) = _
        rw [lwo_cons, Int.mul_comm, decide_eq_decide]
        omega
      rw [e2, hr, List.map_cons]
theorem FB_in {st : List KK} (ok : ∀ k ∈ st, Kok k) {r : Int} (h : 0 ≤ r) : FB st r ∈ LD st r ∧ lwo st (FB st r) = Bst st r := by
  obtain ⟨rest, e⟩ := FB_first ok h
  have : FB st r ∈ (LD st r).filter (fun l => decide (lwo st l = Bst st r)) := by rw [e]; simp
  obtain ⟨a, b⟩ := List.mem_filter.mp this
  exact ⟨a, of_decide_eq_true b⟩
/-- the best worths of all rooms -/
def Brow (st : List KK) (R : Int) : List Int := (rngI 0 (R + 1)).map (Bst st)
theorem Brow_len (st : List KK) {R : Int} : (Brow st R).length = (R + 1).toNat := by unfold Brow; rw [List.length_map, rng0_len]
theorem Brow_at (st : List KK) {R h : Int} (h0 : 0 ≤ h) (h1 : h ≤ R) : gI (Brow st R) h = Bst st h := by
  obtain ⟨n, rfl⟩ := Int.eq_ofNat_of_zero_le h0
  rw [gI_get (by rw [Brow_len]; omega)]
  unfold Brow rngI
  simp
theorem Bst_b {st : List KK} (ok : ∀ k ∈ st, Kok k) {r : Int} (h : 0 ≤ r) {c : Int} (hc : ∀ k ∈ st, k.2.1 ≤ c) : 0 ≤ Bst st r ∧ Bst st r ≤ c * r * (st.length : Int) := by
  obtain ⟨⟨l, hl, e⟩, _⟩ := Bst_mem ok h
  have b := LD_b ok h hl
  rw [← e]
  unfold lwo
  have len := LD_len hl
  have := sum_le (f := fun x : KK × Int => x.1.2.1 * x.2) (c := c * r) (st.zip l) fun x hx => by
    have m1 := (List.of_mem_zip hx).1
    have m2 := b x.2 (List.of_mem_zip hx).2
    have v := (ok x.1 m1).v
    have := hc x.1 m1
    exact ⟨Int.mul_nonneg v m2.1, Int.le_trans (Int.mul_le_mul_of_nonneg_right this m2.1) (Int.mul_le_mul_of_nonneg_left m2.2 (by omega))⟩
  rw [List.length_zip, len, Nat.min_self] at this
  exact this
/-! loops that go through loads -/
theorem rng_snoc (n : Nat) : rngI 0 ((n + 1 : Nat) : Int) = rngI 0 (n : Int) ++ [(n : Int)] := by
  unfold rngI
  have a : (((n + 1 : Nat) : Int) - 0).toNat = n + 1 := by omega
  have b : ((n : Int) - 0).toNat = n := by omega
  rw [a, b, List.range_succ, List.map_append, List.map_singleton]
  simp
theorem fold_flat {α β : Type} {ok : List β → α → Prop} {step : List β → α → List β} {f : α → List β} {l : List α} {N : Nat} (hN : (l.flatMap f).length ≤ N) (h : ∀ later x, x ∈ l → later.length + (f x).length ≤ N → ok later x ∧ step later x = later ++ f x) : okF ok step l [] ∧ l.foldl step [] = l.flatMap f := by
  obtain ⟨a, b⟩ := fold_pre (ok := ok) (step := step) (fun p s => s = p.flatMap f) (l := l) (s := []) rfl fun p x r s e hs => by
    subst hs
    have len : (p.flatMap f).length + (f x).length ≤ N := by
      rw [e, List.flatMap_append, List.flatMap_cons, List.length_append, List.length_append] at hN
      omega
    obtain ⟨c, d⟩ := h (p.flatMap f) x (by rw [e]; simp) len
    exact ⟨c, by rw [d, List.flatMap_append, List.flatMap_singleton]⟩
  exact ⟨a, b⟩
theorem bf_run {st : List KK} (hok : ∀ k ∈ st, Kok k) {r : Int} (h0 : 0 ≤ r) {R N : Nat} (hR : r ≤ R) (hN : (R + 1) ^ st.length ≤ N) {okk : List (List Int × Int) → KK → Prop} {step : List (List Int × Int) → KK → List (List Int × Int)} (h : ∀ F k, k ∈ st → (∀ x ∈ F, x.1.length ≤ st.length ∧ 0 ≤ x.2 ∧ x.2 ≤ r) → (F.flatMap (ext1 k)).length ≤ N → okk F k ∧ step F k = F.flatMap (ext1 k)) : okF okk step st [([], r)] ∧ st.foldl step [([], r)] = (LD st r).map fun l => (l, r - lwt st l) := by
  have form : ∀ p : List KK, p.foldl (fun F k => F.flatMap (ext1 k)) [([], r)] = (LD p r).map fun l => (l, r - lwt p l) := fun p => by
    rw [bf_eq, List.flatMap_singleton]; rfl
  obtain ⟨a, b⟩ := fold_pre (ok := okk) (step := step) (fun p s => s = p.foldl (fun F k => F.flatMap (ext1 k)) [([], r)]) (l := st) (s := [([], r)]) rfl fun p x t s e hs => by
    subst hs
    have okp : ∀ k ∈ p, Kok k := fun k hk => hok k (by rw [e]; simp [hk])
    have okq : ∀ k ∈ p ++ [x], Kok k := fun k hk => hok k (by
      rw [e]
      rcases List.mem_append.mp hk with z | z
      · simp [z]
      · simp [List.mem_singleton.mp z])
    have lp : p.length + 1 ≤ st.length := by rw [e, List.length_append, List.length_cons]; omega
    have nx : (p ++ [x]).foldl (fun F k => F.flatMap (ext1 k)) [([], r)] = (p.foldl (fun F k => F.flatMap (ext1 k)) [([], r)]).flatMap (ext1 x) := by rw [List.foldl_append]; rfl
    obtain ⟨c, d⟩ := h (p.foldl (fun F k => F.flatMap (ext1 k)) [([], r)]) x (by rw [e]; simp) (fun y hy => by
      rw [form] at hy
      obtain ⟨l, hl, rfl⟩ := List.mem_map.mp hy
      obtain ⟨q1, q2⟩ := (LD_mem okp h0).mp hl
      refine ⟨by show l.length ≤ _; rw [LD_len hl]; omega, by show 0 ≤ r - lwt p l; omega, ?_⟩
      have n : 0 ≤ lwt p l := by
        have : ∀ (st : List KK) (l : List Int), (∀ k ∈ st, Kok k) → Ldo st l → 0 ≤ lwt st l := fun st => by
          induction st with
          | nil => intro l _ _; simp
          | cons j st ih =>
            intro l o q
            obtain ⟨u, l2, rfl, q1, q2⟩ := Ldo_cons.mp q
            have := ih l2 (fun x hx => o x (by simp [hx])) q2
            have := Int.mul_nonneg (show (0 : Int) ≤ j.1 by have := (o j (by simp)).w; omega) q1.1
            rw [lwt_cons]; omega
        exact this p l okp q1
      show r - lwt p l ≤ r
      omega) (by
      rw [← nx, form, List.length_map]
      exact Nat.le_trans (LD_count okq h0 hR) (Nat.le_trans (Nat.pow_le_pow_right (by omega) (by simpa using lp)) hN))
    exact ⟨c, by rw [d, nx]⟩
  exact ⟨a, b.trans (form st)⟩
end
/-! rows of the best worths -/
/-- a kind, there no more often than it fits -/
def bnd (R : Int) (k : KK) : Int × Int × Int := (k.1, k.2.1, cap k R)
def Rows (st : List KK) (R : Int) : List (List Int) := (List.range (st.length + 1)).map fun j => Brow (st.drop (st.length - j)) R
theorem Rows_len (st : List KK) (R : Int) : (Rows st R).length = st.length + 1 := by unfold Rows; rw [List.length_map, List.length_range]
theorem Rows_at {st : List KK} {R : Int} {j : Nat} (h : j ≤ st.length) : gI (Rows st R) (j : Int) = Brow (st.drop (st.length - j)) R := by
  rw [gI_get (by rw [Rows_len]; omega)]
  unfold Rows
  simp
theorem lastI_snoc {α : Type} [Inhabited α] (l : List α) (x : α) : lastI (l ++ [x]) = x := by unfold lastI; simp
theorem Rows_last {st : List KK} {R : Int} : lastI (Rows st R) = Brow st R := by
  unfold Rows
  rw [List.range_succ, List.map_append, List.map_singleton, lastI_snoc, Nat.sub_self, List.drop_zero]
theorem enuF_get {α : Type} {l : List α} : ∀ {k i : Nat} {x : Int × α}, (enuF k l)[i]? = some x → x.1 = ((k + i : Nat) : Int) ∧ l[i]? = some x.2 := by
  induction l with
  | nil => intro k i x h; unfold enuF at h; simp at h
  | cons y l ih =>
    intro k i x h
    unfold enuF at h
    cases i with
    | zero => simp at h; subst h; exact ⟨rfl, rfl⟩
    | succ i =>
      obtain ⟨a, b⟩ := ih (by simpa using h)
      exact ⟨by rw [a]; omega, by simpa using b⟩
theorem enu_get {α : Type} {l : List α} {i : Nat} {x : Int × α} (h : (enuL l)[i]? = some x) : x.1 = (i : Int) ∧ l[i]? = some x.2 := by
  obtain ⟨a, b⟩ := enuF_get h
  exact ⟨by rw [a, Nat.zero_add], b⟩
theorem filt_snoc {α : Type} (P : α → Bool) (p : List α) (t : α) : (if P t = true then p.filter P ++ [t] else p.filter P) = (p ++ [t]).filter P := by
  rw [List.filter_append]
  cases z : P t <;> simp [z]
/-- kinds of numbers that are not too great -/
structure KB (k : KK) : Prop where
  ok : Kok k
  w : bits 100 k.1
  v : bits 100 k.2.1
theorem KB.oks {st : List KK} (h : ∀ k ∈ st, KB k) : ∀ k ∈ st, Kok k := fun k hk => (h k hk).ok
theorem b_le {i : Int} {n : Nat} (h0 : 0 ≤ i) (h : i < ((2 ^ n : Nat) : Int)) : bits n i := by unfold bits; omega
/-! a while that appends, so often -/
theorem whl_app {β : Type} {c : List β × Int → Bool} {step : List β × Int → List β × Int} {ok : List β × Int → Prop} (f : Int → β) (N : Int) (B : Nat) (hc : ∀ L t, 0 ≤ t → c (L, t) = decide (t ≤ N)) (hs : ∀ L t, 0 ≤ t → t ≤ N → step (L, t) = (L ++ [f t], t + 1)) (ho : ∀ L t, 0 ≤ t → t ≤ N + 1 → L.length ≤ B → (t ≤ N → L.length < B) → ok (L, t)) :
    ∀ (n : Nat) (t : Int) (L : List β), 0 ≤ t → t ≤ N + 1 → (N + 1 - t).toNat < n → L.length + (N + 1 - t).toNat ≤ B → okW c step ok n (L, t) ∧ whl c step n (L, t) = some (L ++ (rngI t (N + 1)).map f, N + 1)
  | 0, _, _, _, _, h, _ => by omega
  | n + 1, t, L, h0, h1, h2, h3 => by
    by_cases q : t ≤ N
    · have cq : c (L, t) = true := by rw [hc L t h0]; exact decide_eq_true q
      obtain ⟨a, b⟩ := whl_app f N B hc hs ho n (t + 1) (L ++ [f t]) (by omega) (by omega) (by omega) (by rw [List.length_append, List.length_singleton]; omega)
      have st := hs L t h0 q
      refine ⟨⟨ho L t h0 h1 (by omega) (fun _ => by omega), fun _ => by rw [st]; exact a⟩, ?_⟩
      unfold whl
      rw [if_pos cq, st, b]
      have e : rngI t (N + 1) = t :: rngI (t + 1) (N + 1) := by
        unfold rngI
        have e1 : (N + 1 - t).toNat = (N + 1 - (t + 1)).toNat + 1 := by omega
        rw [e1, List.range_succ_eq_map, List.map_cons, List.map_map]
        congr 1
        · simp
        · apply List.map_congr_left
          intro i _
          show t + ((i + 1 : Nat) : Int) = t + 1 + (i : Int)
          omega
      rw [e, List.map_cons]
      simp
    · have cq : c (L, t) = false := by rw [hc L t h0]; exact decide_eq_false q
      have e : t = N + 1 := by omega
      refine ⟨⟨ho L t h0 h1 (by omega) (fun z => absurd z q), fun z => by rw [cq] at z; cases z⟩, ?_⟩
      unfold whl
      rw [if_neg (by rw [cq]; simp), e]
      unfold rngI
      simp
/-! going through with weights and worths -/
def ext2 (r : Int) (k : KK) (x : List Int × Int × Int) : List (List Int × Int × Int) := (rngI 0 (cap k (r - x.2.1) + 1)).map fun t => (x.1 ++ [t], x.2.1 + t * k.1, x.2.2 + t * k.2.1)
theorem bf_eq2 (r : Int) : ∀ (st : List KK) (F : List (List Int × Int × Int)), st.foldl (fun F k => F.flatMap (ext2 r k)) F = F.flatMap fun x => (LD st (r - x.2.1)).map fun l => (x.1 ++ l, x.2.1 + lwt st l, x.2.2 + lwo st l)
  | [], F => by
    show F = F.flatMap fun x => [(x.1 ++ [], x.2.1 + 0, x.2.2 + 0)]
    have : (fun x : List Int × Int × Int => [(x.1 ++ ([] : List Int), x.2.1 + 0, x.2.2 + 0)]) = fun x => [x] := funext fun x => by rw [List.append_nil, Int.add_zero, Int.add_zero]
    rw [this, List.flatMap_singleton']
  | k :: st, F => by
    rw [List.foldl_cons, bf_eq2 r st, List.flatMap_assoc]
    congr 1
    funext x
    unfold ext2
    rw [List.flatMap_map, LD_cons, List.map_flatMap]
    congr 1
    funext t
    rw [List.map_map]
    have e : r - (x.2.1 + t * k.1) = r - x.2.1 - t * k.1 := by omega
    show (LD st (r - (x.2.1 + t * k.1))).map _ = _
    rw [e]
    apply List.map_congr_left
    intro l _
    show ((x.1 ++ [t]) ++ l, x.2.1 + t * k.1 + lwt st l, x.2.2 + t * k.2.1 + lwo st l) = (x.1 ++ t :: l, x.2.1 + lwt (k :: st) (t :: l), x.2.2 + lwo (k :: st) (t :: l))
    rw [lwt_cons, lwo_cons, List.append_assoc, Int.mul_comm k.1, Int.mul_comm k.2.1, Int.add_assoc, Int.add_assoc]
    rfl
theorem lwt_nn : ∀ {st : List KK} {l : List Int}, (∀ k ∈ st, Kok k) → Ldo st l → 0 ≤ lwt st l
  | [], _, _, _ => Int.le_refl _
  | j :: st, l, o, q => by
    obtain ⟨u, l2, rfl, q1, q2⟩ := Ldo_cons.mp q
    have := lwt_nn (fun x hx => o x (by simp [hx])) q2
    have := Int.mul_nonneg (show (0 : Int) ≤ j.1 by have := (o j (by simp)).w; omega) q1.1
    rw [lwt_cons]; omega
theorem lwo_nn : ∀ {st : List KK} {l : List Int}, (∀ k ∈ st, Kok k) → Ldo st l → 0 ≤ lwo st l
  | [], _, _, _ => Int.le_refl _
  | j :: st, l, o, q => by
    obtain ⟨u, l2, rfl, q1, q2⟩ := Ldo_cons.mp q
    have := lwo_nn (fun x hx => o x (by simp [hx])) q2
    have := Int.mul_nonneg (o j (by simp)).v q1.1
    rw [lwo_cons]; omega
theorem bf_run2 {st : List KK} (hok : ∀ k ∈ st, Kok k) {r : Int} (h0 : 0 ≤ r) {R N : Nat} (hR : r ≤ R) (hN : (R + 1) ^ st.length ≤ N) {okk : List (List Int × Int × Int) → KK → Prop} {step : List (List Int × Int × Int) → KK → List (List Int × Int × Int)} (h : ∀ F k, k ∈ st → (∀ x ∈ F, x.1.length ≤ st.length ∧ 0 ≤ x.2.1 ∧ x.2.1 ≤ r) → (F.flatMap (ext2 r k)).length ≤ N → okk F k ∧ step F k = F.flatMap (ext2 r k)) : okF okk step st [([], 0, 0)] ∧ st.foldl step [([], 0, 0)] = (LD st r).map fun l => (l, lwt st l, lwo st l) := by
  have form : ∀ p : List KK, p.foldl (fun F k => F.flatMap (ext2 r k)) [([], 0, 0)] = (LD p r).map fun l => (l, lwt p l, lwo p l) := fun p => by
    rw [bf_eq2, List.flatMap_singleton]
    show (LD p (r - 0)).map _ = _
    rw [Int.sub_zero]
    apply List.map_congr_left
    intro l _
    simp
  obtain ⟨a, b⟩ := fold_pre (ok := okk) (step := step) (fun p s => s = p.foldl (fun F k => F.flatMap (ext2 r k)) [([], 0, 0)]) (l := st) (s := [([], 0, 0)]) rfl fun p x t s e hs => by
    subst hs
    have okp : ∀ k ∈ p, Kok k := fun k hk => hok k (by rw [e]; simp [hk])
    have okq : ∀ k ∈ p ++ [x], Kok k := fun k hk => hok k (by
      rw [e]
      rcases List.mem_append.mp hk with z | z
      · simp [z]
      · simp [List.mem_singleton.mp z])
    have lp : p.length + 1 ≤ st.length := by rw [e, List.length_append, List.length_cons]; omega
    have nx : (p ++ [x]).foldl (fun F k => F.flatMap (ext2 r k)) [([], 0, 0)] = (p.foldl (fun F k => F.flatMap (ext2 r k)) [([], 0, 0)]).flatMap (ext2 r x) := by rw [List.foldl_append]; rfl
    obtain ⟨c, d⟩ := h (p.foldl (fun F k => F.flatMap (ext2 r k)) [([], 0, 0)]) x (by rw [e]; simp) (fun y hy => by
      rw [form] at hy
      obtain ⟨l, hl, rfl⟩ := List.mem_map.mp hy
      obtain ⟨q1, q2⟩ := (LD_mem okp h0).mp hl
      exact ⟨by show l.length ≤ _; rw [LD_len hl]; omega, lwt_nn okp q1, q2⟩) (by
      rw [← nx, form, List.length_map]
      exact Nat.le_trans (LD_count okq h0 hR) (Nat.le_trans (Nat.pow_le_pow_right (by omega) (by simpa using lp)) hN))
    exact ⟨c, by rw [d, nx]⟩
  exact ⟨a, b.trans (form st)⟩
end FL

/-! MP: plain words for shares and prices, by rational numbers. -/
namespace FL
open PySem PySem.Spec L2
def fr (q : Int × Int) : Rat := (q.1 : Rat) / (q.2 : Rat)
theorem c0 {b : Int} (h : 0 < b) : (0 : Rat) < (b : Rat) := by
  have : ((0 : Int) : Rat) < (b : Rat) := Rat.intCast_lt_intCast.mpr h
  simpa using this
theorem n0 {b : Int} (h : 0 ≤ b) : (0 : Rat) ≤ (b : Rat) := by
  have : ((0 : Int) : Rat) ≤ (b : Rat) := Rat.intCast_le_intCast.mpr h
  simpa using this
theorem fr_mul {q : Int × Int} (h : 0 < q.2) : fr q * (q.2 : Rat) = (q.1 : Rat) := by
  have := c0 h
  unfold fr
  grind
theorem div_mul' {a b : Int} (h : 0 < b) : (a : Rat) / (b : Rat) * (b : Rat) = (a : Rat) := by
  have := c0 h
  grind
theorem fr_eq {q : Int × Int} {a b : Int} (hq : 0 < q.2) (hb : 0 < b) : fr q = (a : Rat) / (b : Rat) ↔ q.1 * b = a * q.2 := by
  have h1 := c0 hq
  have h2 := c0 hb
  have e : (q.1 * b = a * q.2) ↔ ((q.1 : Rat) * (b : Rat) = (a : Rat) * (q.2 : Rat)) := by
    rw [← Rat.intCast_mul, ← Rat.intCast_mul, Rat.intCast_inj]
  rw [e]
  unfold fr
  generalize (q.1 : Rat) = x at *
  generalize (q.2 : Rat) = y at *
  generalize (a : Rat) = z at *
  generalize (b : Rat) = w at *
  constructor
  · intro h; grind
  · intro h; grind
theorem div_le {a b c d : Int} (hb : 0 < b) (hd : 0 < d) : (a : Rat) / (b : Rat) ≤ (c : Rat) / (d : Rat) ↔ a * d ≤ c * b := by
  have h1 := c0 hb
  have h2 := c0 hd
  have e : (a * d ≤ c * b) ↔ ((a : Rat) * (d : Rat) ≤ (c : Rat) * (b : Rat)) := by
    rw [← Rat.intCast_mul, ← Rat.intCast_mul, Rat.intCast_le_intCast]
  rw [e]
  have ea := div_mul' (a := a) hb
  have ec := div_mul' (a := c) hd
  generalize (a : Rat) / (b : Rat) = x at *
  generalize (c : Rat) / (d : Rat) = y at *
  have p := Rat.mul_pos h1 h2
  constructor
  · intro h
    have := Rat.mul_le_mul_of_nonneg_right h (Rat.le_of_lt p)
    rw [← ea, ← ec]
    have e1 : x * (b : Rat) * (d : Rat) = x * ((b : Rat) * (d : Rat)) := by grind
    have e2 : y * (d : Rat) * (b : Rat) = y * ((b : Rat) * (d : Rat)) := by grind
    rw [e1, e2]; exact this
  · intro h
    rw [← ea, ← ec] at h
    have e1 : x * (b : Rat) * (d : Rat) = x * ((b : Rat) * (d : Rat)) := by grind
    have e2 : y * (d : Rat) * (b : Rat) = y * ((b : Rat) * (d : Rat)) := by grind
    rw [e1, e2] at h
    exact Rat.le_of_mul_le_mul_right h p
theorem fr_le {p q : Int × Int} (hp : 0 < p.2) (hq : 0 < q.2) : fr p ≤ fr q ↔ p.1 * q.2 ≤ q.1 * p.2 := div_le hp hq
theorem fr_one (a : Int) : fr (a, 1) = (a : Rat) := by
  unfold fr
  show (a : Rat) / ((1 : Int) : Rat) = a
  have : ((1 : Int) : Rat) = 1 := rfl
  rw [this]; grind
theorem fr_lw {a b : Int} (ha : 0 ≤ a) (hb : 0 < b) : fr (lw a b) = (a : Rat) / (b : Rat) := (fr_eq (lw_pos ha hb).2.1 hb).mpr (lw_eq a b)
theorem fr_pl {p q : Int × Int} (p0 : 0 ≤ p.1) (q0 : 0 ≤ q.1) (hp : 0 < p.2) (hq : 0 < q.2) : fr (pl p q) = fr p + fr q := by
  unfold pl
  rw [fr_lw (Int.add_nonneg (Int.mul_nonneg p0 (Int.le_of_lt hq)) (Int.mul_nonneg q0 (Int.le_of_lt hp))) (Int.mul_pos hp hq)]
  have h1 := c0 hp
  have h2 := c0 hq
  unfold fr
  rw [Rat.intCast_add, Rat.intCast_mul, Rat.intCast_mul, Rat.intCast_mul]
  generalize (q.1 : Rat) = x at *
  generalize (q.2 : Rat) = y at *
  generalize (p.1 : Rat) = z at *
  generalize (p.2 : Rat) = w at *
  grind
theorem fr_inj {p q : Int × Int} (hp : 0 < p.2) (hq : 0 < q.2) (gp : gc p.1 p.2 = 1) (gq : gc q.1 q.2 = 1) (h : fr p = fr q) : p = q := by
  have e1 := lw_uniq (a := p.1) (b := p.2) (p := p.1) (q := p.2) hp hp gp rfl
  have hh : p.1 * q.2 = q.1 * p.2 := (fr_eq hp hq).mp h
  have e2 := lw_uniq (a := p.1) (b := p.2) (p := q.1) (q := q.2) hp hq gq hh.symm
  rw [e1] at e2
  exact e2
/-! weights and worths of parts -/
def SWr (st : List KK) (s : List Rat) : Rat := ((st.zip s).map fun x => (x.1.1 : Rat) * x.2).sum
def SVr (st : List KK) (s : List Rat) : Rat := ((st.zip s).map fun x => (x.1.2.1 : Rat) * x.2).sum
def net (k : KK) (p : Rat) : Rat := (k.2.1 : Rat) - (k.1 : Rat) * p
def gain (k : KK) (p : Rat) : Rat := if 0 < net k p then net k p * ((k.2.2.getD 0 : Int) : Rat) else 0
/-- the bound of a price -/
def BV (st : List KK) (R p : Rat) : Rat := R * p + (st.map fun k => gain k p).sum
/-- it has one -/
def HasB (st : List KK) (p : Rat) : Prop := ∀ k ∈ st, 0 < net k p → k.2.2 ≠ none
theorem SWr_cons (k : KK) (st : List KK) (x : Rat) (s : List Rat) : SWr (k :: st) (x :: s) = (k.1 : Rat) * x + SWr st s := by unfold SWr; rw [List.zip_cons_cons, List.map_cons, List.sum_cons]
theorem SVr_cons (k : KK) (st : List KK) (x : Rat) (s : List Rat) : SVr (k :: st) (x :: s) = (k.2.1 : Rat) * x + SVr st s := by unfold SVr; rw [List.zip_cons_cons, List.map_cons, List.sum_cons]
/-- what is taken is bounded by each price -/
theorem dual_aux {p : Rat} : ∀ (st : List KK) (s : List Rat), HasB st p → s.length = st.length → (∀ x ∈ st.zip s, 0 ≤ x.2 ∧ ∀ m, x.1.2.2 = some m → x.2 ≤ (m : Rat)) → SVr st s ≤ (st.map fun k => gain k p).sum + SWr st s * p
  | [], [], _, _, _ => by
    show (0 : Rat) ≤ 0 + 0 * p
    grind
  | [], _ :: _, _, h, _ => by cases h
  | _ :: _, [], _, h, _ => by cases h
  | k :: st, x :: s, hb, hl, hs => by
    have ih := dual_aux st s (fun j hj => hb j (by simp [hj])) (by simpa using hl) (fun y hy => hs y (by rw [List.zip_cons_cons]; exact List.mem_cons_of_mem _ hy))
    obtain ⟨x0, xm⟩ := hs (k, x) (by simp)
    rw [SVr_cons, SWr_cons, List.map_cons, List.sum_cons]
    have key : (k.2.1 : Rat) * x ≤ gain k p + (k.1 : Rat) * x * p := by
      have e : (k.2.1 : Rat) * x = net k p * x + (k.1 : Rat) * x * p := by unfold net; grind
      rw [e]
      have : net k p * x ≤ gain k p := by
        unfold gain
        by_cases c : 0 < net k p
        · rw [if_pos c]
          cases q : k.2.2 with
          | none => exact absurd q (hb k (by simp) c)
          | some m => exact Rat.mul_le_mul_of_nonneg_left (xm m q) (Rat.le_of_lt c)
        · rw [if_neg c]
          have n : net k p ≤ 0 := Rat.not_lt.mp c
          have := Rat.mul_le_mul_of_nonneg_right n x0
          have z : (0 : Rat) * x = 0 := by grind
          rw [z] at this; exact this
      grind
    grind
theorem dual {st : List KK} {s : List Rat} {p R : Rat} (hb : HasB st p) (p0 : 0 ≤ p) (hl : s.length = st.length) (hs : ∀ x ∈ st.zip s, 0 ≤ x.2 ∧ ∀ m, x.1.2.2 = some m → x.2 ≤ (m : Rat)) (hw : SWr st s ≤ R) : SVr st s ≤ BV st R p := by
  have a := dual_aux st s hb hl hs
  have b := Rat.mul_le_mul_of_nonneg_right hw p0
  unfold BV
  grind
/-- just that much, where all that gains is taken, nothing that loses, and the room is full -/
structure Kkt (st : List KK) (s : List Rat) (R p : Rat) : Prop where
  len : s.length = st.length
  p0 : 0 ≤ p
  hi : ∀ x ∈ st.zip s, 0 < net x.1 p → ∃ m, x.1.2.2 = some m ∧ x.2 = (m : Rat)
  lo : ∀ x ∈ st.zip s, net x.1 p < 0 → x.2 = 0
  full : (p = 0 ∧ SWr st s ≤ R) ∨ SWr st s = R
theorem kkt_aux {p : Rat} : ∀ (st : List KK) (s : List Rat), s.length = st.length → (∀ x ∈ st.zip s, 0 < net x.1 p → ∃ m, x.1.2.2 = some m ∧ x.2 = (m : Rat)) → (∀ x ∈ st.zip s, net x.1 p < 0 → x.2 = 0) → SVr st s = (st.map fun k => gain k p).sum + SWr st s * p
  | [], [], _, _, _ => by
    show (0 : Rat) = 0 + 0 * p
    grind
  | [], _ :: _, h, _, _ => by cases h
  | _ :: _, [], h, _, _ => by cases h
  | k :: st, x :: s, hl, hi, lo => by
    have ih := kkt_aux st s (by simpa using hl) (fun y hy => hi y (by rw [List.zip_cons_cons]; exact List.mem_cons_of_mem _ hy)) (fun y hy => lo y (by rw [List.zip_cons_cons]; exact List.mem_cons_of_mem _ hy))
    have hk := hi (k, x) (by simp)
    have lk := lo (k, x) (by simp)
    rw [SVr_cons, SWr_cons, List.map_cons, List.sum_cons]
    have key : (k.2.1 : Rat) * x = gain k p + (k.1 : Rat) * x * p := by
      have e : (k.2.1 : Rat) * x = net k p * x + (k.1 : Rat) * x * p := by unfold net; grind
      rw [e]
      have : net k p * x = gain k p := by
        unfold gain
        by_cases c : 0 < net k p
        · rw [if_pos c]
          obtain ⟨m, e1, e2⟩ := hk c
          have e1 : k.2.2 = some m := e1
          have e2 : x = (m : Rat) := e2
          rw [e1, e2]; rfl
        · rw [if_neg c]
          by_cases d : net k p < 0
          · have e2 : x = 0 := lk d
            rw [e2]; grind
          · have : net k p = 0 := by
              have h1 := Rat.not_lt.mp c
              have h2 := Rat.not_lt.mp d
              exact Rat.le_antisymm h1 h2
            rw [this]; grind
      grind
    grind
theorem Kkt.val {st : List KK} {s : List Rat} {R p : Rat} (h : Kkt st s R p) : SVr st s = BV st R p := by
  have a := kkt_aux st s h.len h.hi h.lo
  unfold BV
  rcases h.full with ⟨q, _⟩ | q
  · rw [a, q]; grind
  · rw [a, q]; grind
theorem Kkt.hasB {st : List KK} {s : List Rat} {R p : Rat} (h : Kkt st s R p) : HasB st p := fun k hk hn => by
  obtain ⟨i, hi, e⟩ := List.getElem_of_mem hk
  have hi2 : i < s.length := by rw [h.len]; exact hi
  have : (k, s[i]) ∈ st.zip s := by
    rw [← e]
    have : (st.zip s)[i]'(by rw [List.length_zip]; omega) = (st[i], s[i]) := by simp
    rw [← this]
    exact List.getElem_mem _
  obtain ⟨m, e1, _⟩ := h.hi _ this hn
  have e1 : k.2.2 = some m := e1
  rw [e1]; simp
/-! loads as parts -/
theorem SV_load : ∀ (st : List KK) (l : List Int), l.length = st.length → SVr st (l.map fun (x : Int) => (x : Rat)) = (lwo st l : Rat)
  | [], [], _ => rfl
  | [], _ :: _, h => by cases h
  | _ :: _, [], h => by cases h
  | k :: st, x :: l, h => by
    rw [List.map_cons, SVr_cons, lwo_cons, Rat.intCast_add, Rat.intCast_mul, SV_load st l (by simpa using h)]
theorem SW_load : ∀ (st : List KK) (l : List Int), l.length = st.length → SWr st (l.map fun (x : Int) => (x : Rat)) = (lwt st l : Rat)
  | [], [], _ => rfl
  | [], _ :: _, h => by cases h
  | _ :: _, [], h => by cases h
  | k :: st, x :: l, h => by
    rw [List.map_cons, SWr_cons, lwt_cons, Rat.intCast_add, Rat.intCast_mul, SW_load st l (by simpa using h)]
theorem load_le {st : List KK} {l : List Int} {R : Int} {p : Rat} (hl : Ldo st l) (hw : lwt st l ≤ R) (hb : HasB st p) (p0 : 0 ≤ p) : (lwo st l : Rat) ≤ BV st (R : Rat) p := by
  rw [← SV_load st l hl.1]
  refine dual hb p0 (by rw [List.length_map]; exact hl.1) (fun x hx => ?_) (by rw [SW_load st l hl.1]; exact Rat.intCast_le_intCast.mpr hw)
  rw [List.zip_map_right] at hx
  obtain ⟨y, hy, rfl⟩ := List.mem_map.mp hx
  obtain ⟨a, b⟩ := hl.2 y hy
  exact ⟨n0 a, fun m e => Rat.intCast_le_intCast.mpr (b m e)⟩
theorem int_le_fr {a : Int} {q : Int × Int} (hq : 0 < q.2) : (a : Rat) ≤ fr q ↔ a ≤ q.1 / q.2 := by
  rw [Int.le_ediv_iff_mul_le hq, ← fr_one a]
  have := fr_le (p := (a, 1)) (q := q) (by show (0 : Int) < 1; decide) hq
  rw [this]
  show a * q.2 ≤ q.1 * 1 ↔ _
  rw [Int.mul_one]
/-- one less of a kind -/
theorem set_cons0 {α : Type} (x : α) (l : List α) (y : α) : (x :: l).set 0 y = y :: l := rfl
def lessK1 (k : KK) : KK := (k.1, k.2.1, k.2.2.map (· - 1))
theorem less_load : ∀ {st : List KK} {l : List Int} {i : Nat} (h : i < st.length) (h2 : i < l.length), Ldo st l → 1 ≤ l[i] → Ldo (st.set i (lessK1 st[i])) (l.set i (l[i] - 1)) ∧ lwt (st.set i (lessK1 st[i])) (l.set i (l[i] - 1)) = lwt st l - st[i].1 ∧ lwo (st.set i (lessK1 st[i])) (l.set i (l[i] - 1)) = lwo st l - st[i].2.1
  | [], _, _, h, _, _, _ => by cases h
  | k :: st, l, i, h, h2, hl, h1 => by
    obtain ⟨t, l', rfl, q1, q2⟩ := Ldo_cons.mp hl
    cases i with
    | zero =>
      have h1 : 1 ≤ t := h1
      show Ldo (lessK1 k :: st) ((t - 1) :: l') ∧ lwt (lessK1 k :: st) ((t - 1) :: l') = lwt (k :: st) (t :: l') - k.1 ∧ lwo (lessK1 k :: st) ((t - 1) :: l') = lwo (k :: st) (t :: l') - k.2.1
      refine ⟨Ldo_cons.mpr ⟨t - 1, l', rfl, ⟨by omega, fun m e => ?_⟩, q2⟩, ?_, ?_⟩
      · have e : k.2.2.map (· - 1) = some m := e
        obtain ⟨m', e1, e2⟩ := Option.map_eq_some_iff.mp e
        have := q1.2 m' e1
        omega
      · rw [lwt_cons, lwt_cons]
        show k.1 * (t - 1) + _ = _
        grind
      · rw [lwo_cons, lwo_cons]
        show k.2.1 * (t - 1) + _ = _
        grind
    | succ i =>
      have h' : i < st.length := by simpa using h
      have h2' : i < l'.length := by simpa using h2
      have h1' : 1 ≤ l'[i] := h1
      obtain ⟨a, b, c⟩ := less_load h' h2' q2 h1'
      show Ldo (k :: st.set i (lessK1 st[i])) (t :: l'.set i (l'[i] - 1)) ∧ lwt (k :: st.set i (lessK1 st[i])) (t :: l'.set i (l'[i] - 1)) = lwt (k :: st) (t :: l') - st[i].1 ∧ lwo (k :: st.set i (lessK1 st[i])) (t :: l'.set i (l'[i] - 1)) = lwo (k :: st) (t :: l') - st[i].2.1
      refine ⟨Ldo_cons.mpr ⟨t, _, rfl, q1, a⟩, ?_, ?_⟩
      · rw [lwt_cons, lwt_cons, b]; omega
      · rw [lwo_cons, lwo_cons, c]; omega
theorem set_cut {α : Type} {l : List α} {i : Nat} (h : i < l.length) (x : α) : l.take i ++ [x] ++ l.drop (i + 1) = l.set i x := by
  rw [List.set_eq_take_append_cons_drop, if_pos h, List.append_assoc]; rfl
theorem Kkt.le {st : List KK} {s : List Rat} {R p : Rat} (h : Kkt st s R p) : SWr st s ≤ R := by
  rcases h.full with ⟨_, q⟩ | q
  · exact q
  · rw [q]; exact Rat.le_refl
theorem SW_mono : ∀ (st : List KK) (s t : List Rat), (∀ k ∈ st, Kok k) → s.length = t.length → (∀ (i : Nat) (h : i < s.length) (h2 : i < t.length), s[i] ≤ t[i]) → SWr st s ≤ SWr st t
  | [], _, _, _, _, _ => Rat.le_refl
  | _ :: _, [], [], _, _, _ => Rat.le_refl
  | _ :: _, [], _ :: _, _, h, _ => by cases h
  | _ :: _, _ :: _, [], _, h, _ => by cases h
  | k :: st, x :: s, y :: t, ok, h, hp => by
    have ih := SW_mono st s t (fun j hj => ok j (by simp [hj])) (by simpa using h) fun i h1 h2 => by
      have := hp (i + 1) (by simpa using h1) (by simpa using h2)
      simpa using this
    have h0 : x ≤ y := hp 0 (by simp) (by simp)
    have w := n0 (show 0 ≤ k.1 by have := (ok k (by simp)).w; omega)
    have := Rat.mul_le_mul_of_nonneg_left h0 w
    rw [SWr_cons, SWr_cons]
    grind
theorem SV_set : ∀ (st : List KK) (s : List Rat) (i : Nat) (v : Rat) (h : i < s.length) (h2 : i < st.length), SVr st (s.set i v) = SVr st s + (st[i].2.1 : Rat) * (v - s[i])
  | [], _, _, _, _, h2 => by cases h2
  | _, [], _, _, h, _ => by cases h
  | k :: st, x :: s, 0, v, _, _ => by
    rw [List.set_cons_zero, SVr_cons, SVr_cons]
    show (k.2.1 : Rat) * v + SVr st s = (k.2.1 : Rat) * x + SVr st s + (k.2.1 : Rat) * (v - x)
    grind
  | k :: st, x :: s, i + 1, v, h, h2 => by
    have h' : i < s.length := by simpa using h
    have h2' : i < st.length := by simpa using h2
    rw [List.set_cons_succ, SVr_cons, SVr_cons, SV_set st s i v h' h2']
    show _ = (k.2.1 : Rat) * x + SVr st s + (st[i].2.1 : Rat) * (v - s[i])
    grind
/-- the whole number of a fraction -/
theorem fl_le {q : Int × Int} (h : 0 < q.2) : ((q.1 / q.2 : Int) : Rat) ≤ fr q := (int_le_fr h).mpr (Int.le_refl _)
theorem fl_lt {q : Int × Int} (h : 0 < q.2) : fr q < ((q.1 / q.2 : Int) : Rat) + 1 := by
  have : ¬ (((q.1 / q.2 + 1 : Int) : Rat) ≤ fr q) := fun z => by
    have := (int_le_fr h).mp z
    omega
  have := Rat.not_le.mp this
  rw [Rat.intCast_add] at this
  exact this
theorem BV_add (st : List KK) (R p : Rat) (d : Rat) : BV st (R + d) p = BV st R p + d * p := by unfold BV; grind
end FL

/-! MW: plain words for the lightest loads of a worth: kinds by a cap each. -/
namespace FL
open PySem PySem.Spec L2
variable (c : KK → Int)
/-- all loads by caps, as tuples are ordered -/
def AL : List KK → List (List Int)
  | [] => [[]]
  | k :: st => (rngI 0 (c k + 1)).flatMap fun t => (AL st).map (t :: ·)
theorem mem_AL {k : KK} {st : List KK} {l : List Int} : l ∈ AL c (k :: st) ↔ ∃ t l', l = t :: l' ∧ 0 ≤ t ∧ t ≤ c k ∧ l' ∈ AL c st := by
  show l ∈ (rngI 0 (c k + 1)).flatMap (fun t => (AL c st).map (t :: ·)) ↔ _
  rw [List.mem_flatMap]
  constructor
  · rintro ⟨t, ht, h⟩
    obtain ⟨l', h1, rfl⟩ := List.mem_map.mp h
    have := mem_rng.mp ht
    exact ⟨t, l', rfl, this.1, by omega, h1⟩
  · rintro ⟨t, l', rfl, h0, h1, h2⟩
    exact ⟨t, mem_rng.mpr ⟨h0, by omega⟩, List.mem_map.mpr ⟨l', h2, rfl⟩⟩
theorem AL_len : ∀ {st : List KK} {l : List Int}, l ∈ AL c st → l.length = st.length
  | [], l, h => by have e := List.mem_singleton.mp (show l ∈ [[]] from h); subst e; rfl
  | k :: st, l, h => by
    obtain ⟨t, l', rfl, _, _, h2⟩ := (mem_AL c).mp h
    simp [AL_len h2]
theorem AL_b {m : Int} : ∀ {st : List KK} {l : List Int}, (∀ k ∈ st, c k ≤ m) → l ∈ AL c st → ∀ x ∈ l, 0 ≤ x ∧ x ≤ m
  | [], l, _, h => by have e := List.mem_singleton.mp (show l ∈ [[]] from h); subst e; intro x hx; cases hx
  | k :: st, l, hm, h => by
    obtain ⟨t, l', rfl, h0, h1, h2⟩ := (mem_AL c).mp h
    intro x hx
    have := hm k (by simp)
    rcases List.mem_cons.mp hx with rfl | hx
    · exact ⟨h0, by omega⟩
    · exact AL_b (fun j hj => hm j (by simp [hj])) h2 x hx
theorem AL_wo : ∀ {st : List KK} {l : List Int}, (∀ k ∈ st, Kok k) → l ∈ AL c st → 0 ≤ lwo st l ∧ 0 ≤ lwt st l
  | [], l, _, _ => ⟨Int.le_refl _, Int.le_refl _⟩
  | k :: st, l, ok, h => by
    obtain ⟨t, l', rfl, h0, h1, h2⟩ := (mem_AL c).mp h
    have a := AL_wo (fun j hj => ok j (by simp [hj])) h2
    have b := Int.mul_nonneg (ok k (by simp)).v h0
    have d := Int.mul_nonneg (show (0 : Int) ≤ k.1 by have := (ok k (by simp)).w; omega) h0
    rw [lwo_cons, lwt_cons]
    omega
theorem AL_count {m : Nat} : ∀ {st : List KK}, (∀ k ∈ st, c k ≤ m) → (AL c st).length ≤ (m + 1) ^ st.length
  | [], _ => by simp [AL]
  | k :: st, hm => by
    have := flat_len (f := fun t => (AL c st).map (t :: ·)) (c := (m + 1) ^ st.length) (rngI 0 (c k + 1)) fun t ht => by
      rw [List.length_map]
      exact AL_count fun j hj => hm j (by simp [hj])
    rw [rng0_len] at this
    refine Nat.le_trans this ?_
    rw [List.length_cons, Nat.pow_succ, Nat.mul_comm]
    have := hm k (by simp)
    exact Nat.mul_le_mul_left _ (by omega)
def exA (k : KK) (l : List Int) : List (List Int) := (rngI 0 (c k + 1)).map fun t => l ++ [t]
theorem ba_eq : ∀ (st : List KK) (F : List (List Int)), st.foldl (fun F k => F.flatMap (exA c k)) F = F.flatMap fun x => (AL c st).map fun l => x ++ l
  | [], F => by
    show F = F.flatMap fun x => [x ++ []]
    have : (fun x : List Int => [x ++ ([] : List Int)]) = fun x => [x] := funext fun x => by rw [List.append_nil]
    rw [this, List.flatMap_singleton']
  | k :: st, F => by
    rw [List.foldl_cons, ba_eq st, List.flatMap_assoc]
    congr 1
    funext x
    unfold exA
    rw [List.flatMap_map]
    show _ = ((rngI 0 (c k + 1)).flatMap fun t => (AL c st).map (t :: ·)).map _
    rw [List.map_flatMap]
    congr 1
    funext t
    rw [List.map_map]
    apply List.map_congr_left
    intro l _
    show (x ++ [t]) ++ l = x ++ t :: l
    rw [List.append_assoc]; rfl
theorem ba_run {st : List KK} {m N : Nat} (hm : ∀ k ∈ st, c k ≤ m) (hN : (m + 1) ^ st.length ≤ N) {okk : List (List Int) → KK → Prop} {step : List (List Int) → KK → List (List Int)} (h : ∀ F k, k ∈ st → (∀ x ∈ F, x.length ≤ st.length) → (F.flatMap (exA c k)).length ≤ N → okk F k ∧ step F k = F.flatMap (exA c k)) : okF okk step st [[]] ∧ st.foldl step [[]] = AL c st := by
  have form : ∀ p : List KK, p.foldl (fun F k => F.flatMap (exA c k)) [[]] = AL c p := fun p => by
    rw [ba_eq, List.flatMap_singleton]
    simp
  obtain ⟨a, b⟩ := fold_pre (ok := okk) (step := step) (fun p s => s = p.foldl (fun F k => F.flatMap (exA c k)) [[]]) (l := st) (s := [[]]) rfl fun p x t s e hs => by
    subst hs
    have lp : p.length + 1 ≤ st.length := by rw [e, List.length_append, List.length_cons]; omega
    have hq : ∀ k ∈ p ++ [x], c k ≤ m := fun k hk => hm k (by
      rw [e]
      rcases List.mem_append.mp hk with z | z
      · simp [z]
      · simp [List.mem_singleton.mp z])
    have nx : (p ++ [x]).foldl (fun F k => F.flatMap (exA c k)) [[]] = (p.foldl (fun F k => F.flatMap (exA c k)) [[]]).flatMap (exA c x) := by rw [List.foldl_append]; rfl
    obtain ⟨a, d⟩ := h (p.foldl (fun F k => F.flatMap (exA c k)) [[]]) x (by rw [e]; simp) (fun y hy => by
      rw [form] at hy
      rw [AL_len c hy]; omega) (by
      rw [← nx, form]
      exact Nat.le_trans (AL_count c hq) (Nat.le_trans (Nat.pow_le_pow_right (by omega) (by simpa using lp)) hN))
    exact ⟨a, by rw [d, nx]⟩
  exact ⟨a, b.trans (form st)⟩
/-! the least weight for a worth -/
mutual
def LW : List KK → Int → Option Int
  | [], u => if u = 0 then some 0 else none
  | k :: st, u => if (rngI 0 (c k + 1)).filterMap (fun t => (LW st (max 0 (u - t * k.2.1))).map (· + t * k.1)) = [] then none else some (minL ((rngI 0 (c k + 1)).filterMap (fun t => (LW st (max 0 (u - t * k.2.1))).map (· + t * k.1))))
end
def lw1 (k : KK) (st : List KK) (u : Int) : List Int := (rngI 0 (c k + 1)).filterMap (fun t => (LW c st (max 0 (u - t * k.2.1))).map (· + t * k.1))
theorem LW_cons (k : KK) (st : List KK) (u : Int) : LW c (k :: st) u = if lw1 c k st u = [] then none else some (minL (lw1 c k st u)) := by
  conv => lhs; unfold LW
  rfl
theorem LW_nil (u : Int) : LW c [] u = if u = 0 then some 0 else none := by unfold LW; rfl
theorem lw1_mem {k : KK} {st : List KK} {u x : Int} : x ∈ lw1 c k st u ↔ ∃ t y, 0 ≤ t ∧ t ≤ c k ∧ LW c st (max 0 (u - t * k.2.1)) = some y ∧ y + t * k.1 = x := by
  unfold lw1
  rw [List.mem_filterMap]
  constructor
  · rintro ⟨t, ht, h⟩
    obtain ⟨y, h1, h2⟩ := Option.map_eq_some_iff.mp h
    have := mem_rng.mp ht
    exact ⟨t, y, this.1, by omega, h1, h2⟩
  · rintro ⟨t, y, h0, h1, h2, h3⟩
    exact ⟨t, mem_rng.mpr ⟨h0, by omega⟩, by rw [h2]; show some (y + t * k.1) = some x; rw [h3]⟩
theorem LW_spec : ∀ {st : List KK} (ok : ∀ k ∈ st, Kok k) {u : Int}, 0 ≤ u → (LW c st u = none → ∀ l ∈ AL c st, lwo st l < u) ∧ (∀ x, LW c st u = some x → (∃ l ∈ AL c st, u ≤ lwo st l ∧ lwt st l = x) ∧ ∀ l ∈ AL c st, u ≤ lwo st l → x ≤ lwt st l)
  | [], _, u, h => by
    rw [LW_nil]
    by_cases z : u = 0
    · subst z
      refine ⟨fun e => by simp at e, fun x e => ?_⟩
      have e : (0 : Int) = x := by simpa using e
      subst e
      exact ⟨⟨[], by simp [AL], Int.le_refl _, rfl⟩, fun l _ _ => Int.le_refl _⟩
    · rw [if_neg z]
      exact ⟨fun _ l _ => by show (0 : Int) < u; omega, fun x e => by cases e⟩
  | k :: st, ok, u, h => by
    have kk := ok k (by simp)
    have ok' : ∀ x ∈ st, Kok x := fun x hx => ok x (by simp [hx])
    -- each load gives a place in the list
    have up : ∀ l ∈ AL c (k :: st), u ≤ lwo (k :: st) l → ∃ x ∈ lw1 c k st u, x ≤ lwt (k :: st) l := fun l hl hu => by
      obtain ⟨t, l', rfl, h0, h1, h2⟩ := (mem_AL c).mp hl
      have wo := (AL_wo c ok' h2).1
      rw [lwo_cons, Int.mul_comm] at hu
      obtain ⟨s1, s2⟩ := LW_spec ok' (u := max 0 (u - t * k.2.1)) (by omega)
      cases q : LW c st (max 0 (u - t * k.2.1)) with
      | none => have := s1 q l' h2; omega
      | some y =>
        refine ⟨y + t * k.1, (lw1_mem c).mpr ⟨t, y, h0, h1, q, rfl⟩, ?_⟩
        have := (s2 y q).2 l' h2 (by omega)
        rw [lwt_cons, Int.mul_comm]; omega
    have dn : ∀ x ∈ lw1 c k st u, ∃ l ∈ AL c (k :: st), u ≤ lwo (k :: st) l ∧ lwt (k :: st) l = x := fun x hx => by
      obtain ⟨t, y, h0, h1, h2, h3⟩ := (lw1_mem c).mp hx
      obtain ⟨l', a, b, d⟩ := ((LW_spec ok' (u := max 0 (u - t * k.2.1)) (by omega)).2 y h2).1
      refine ⟨t :: l', (mem_AL c).mpr ⟨t, l', rfl, h0, h1, a⟩, ?_, ?_⟩
      · rw [lwo_cons, Int.mul_comm]; omega
      · rw [lwt_cons, Int.mul_comm]; omega
    rw [LW_cons]
    by_cases z : lw1 c k st u = []
    · rw [if_pos z]
      refine ⟨fun _ l hl => ?_, fun x e => by cases e⟩
      rcases Int.lt_or_le (lwo (k :: st) l) u with q | q
      · exact q
      · obtain ⟨x, hx, _⟩ := up l hl q
        rw [z] at hx; cases hx
    · rw [if_neg z]
      obtain ⟨m1, m2⟩ := minL_mem z
      refine ⟨fun e => (by cases e), fun x e => ?_⟩
      cases e
      refine ⟨dn _ m1, fun l hl hu => ?_⟩
      obtain ⟨x, hx, hle⟩ := up l hl hu
      exact Int.le_trans (m2 x hx) hle
/-! the first of the lightest -/
def fl1 (k : KK) (st : List KK) (u : Int) : List Int := (rngI 0 (c k + 1)).filter fun t => decide ((LW c st (max 0 (u - t * k.2.1))).map (· + t * k.1) = LW c (k :: st) u)
def FW : List KK → Int → List Int
  | [], _ => []
  | k :: st, u => gI (fl1 c k st u) 0 :: FW st (max 0 (u - gI (fl1 c k st u) 0 * k.2.1))
theorem FW_cons (k : KK) (st : List KK) (u : Int) : FW c (k :: st) u = gI (fl1 c k st u) 0 :: FW c st (max 0 (u - gI (fl1 c k st u) 0 * k.2.1)) := rfl
theorem fl1_ne {k : KK} {st : List KK} {u x : Int} (h : LW c (k :: st) u = some x) : ∃ t ts, fl1 c k st u = t :: ts ∧ gI (fl1 c k st u) 0 = t ∧ 0 ≤ t ∧ t ≤ c k ∧ ∃ y, LW c st (max 0 (u - t * k.2.1)) = some y ∧ y + t * k.1 = x := by
  have z : lw1 c k st u ≠ [] := fun z => by rw [LW_cons, if_pos z] at h; cases h
  have hx : minL (lw1 c k st u) = x := by rw [LW_cons, if_neg z] at h; exact Option.some.inj h
  have hm := (minL_mem z).1
  rw [hx] at hm
  obtain ⟨t, y, h0, h1, h2, h3⟩ := (lw1_mem c).mp hm
  have m : t ∈ fl1 c k st u := List.mem_filter.mpr ⟨mem_rng.mpr ⟨h0, by omega⟩, decide_eq_true (by rw [h2, h]; show some (y + t * k.1) = some x; rw [h3])⟩
  cases q : fl1 c k st u with
  | nil => rw [q] at m; cases m
  | cons v vs =>
    have hv : v ∈ fl1 c k st u := by rw [q]; simp
    obtain ⟨a, b⟩ := List.mem_filter.mp hv
    have b := of_decide_eq_true b
    rw [h] at b
    obtain ⟨y', e1, e2⟩ := Option.map_eq_some_iff.mp b
    have := mem_rng.mp a
    exact ⟨v, vs, rfl, rfl, this.1, by omega, y', e1, e2⟩
theorem FW_first : ∀ {st : List KK} (ok : ∀ k ∈ st, Kok k) {u x : Int}, 0 ≤ u → LW c st u = some x → ∃ rest, (AL c st).filter (fun l => decide (u ≤ lwo st l) && decide (lwt st l = x)) = FW c st u :: rest
  | [], _, u, x, h, e => by
    rw [LW_nil] at e
    by_cases z : u = 0
    · rw [if_pos z] at e
      cases e
      subst z
      exact ⟨[], rfl⟩
    · rw [if_neg z] at e; cases e
  | k :: st, ok, u, x, h, e => by
    have ok' : ∀ x ∈ st, Kok x := fun x hx => ok x (by simp [hx])
    obtain ⟨t0, ts, e1, g, h0, h1, y0, hy0, hy1⟩ := fl1_ne c e
    have key := first_flat (T := rngI 0 (c k + 1)) (q := fun t => decide ((LW c st (max 0 (u - t * k.2.1))).map (· + t * k.1) = LW c (k :: st) u)) (f := fun t => ((AL c st).map (t :: ·)).filter fun l => decide (u ≤ lwo (k :: st) l) && decide (lwt (k :: st) l = x)) (g := fun t => t :: FW c st (max 0 (u - t * k.2.1))) (t0 := t0) (ts := ts) (fun t ht d => ?_) (fun t ht d => ?_) e1
    · obtain ⟨rest, hr⟩ := key
      refine ⟨rest, ?_⟩
      show ((rngI 0 (c k + 1)).flatMap fun t => (AL c st).map (t :: ·)).filter _ = _
      rw [List.filter_flatMap, hr, FW_cons, g]
    · have q := mem_rng.mp ht
      have d := of_decide_eq_false d
      rw [List.filter_eq_nil_iff]
      intro l hl
      obtain ⟨l', hl', rfl⟩ := List.mem_map.mp hl
      intro z
      have z : u ≤ lwo (k :: st) (t :: l') ∧ lwt (k :: st) (t :: l') = x := by simpa using z
      have wo := (AL_wo c ok' hl').1
      rw [lwo_cons, Int.mul_comm] at z
      obtain ⟨s1, s2⟩ := LW_spec c ok' (u := max 0 (u - t * k.2.1)) (by omega)
      have top := ((LW_spec c ok h).2 x e).2
      cases w : LW c st (max 0 (u - t * k.2.1)) with
      | none => have := s1 w l' hl'; omega
      | some y =>
        obtain ⟨⟨l2, a1, a2, a3⟩, a4⟩ := s2 y w
        have b1 := a4 l' hl' (by omega)
        have b2 := top (t :: l2) ((mem_AL c).mpr ⟨t, l2, rfl, q.1, by omega, a1⟩) (by rw [lwo_cons, Int.mul_comm]; omega)
        rw [lwt_cons, Int.mul_comm] at b2
        have z2 := z.2
        rw [lwt_cons, Int.mul_comm] at z2
        apply d
        rw [w, e]
        show some (y + t * k.1) = some x
        congr 1
        omega
    · have q := mem_rng.mp ht
      have d := of_decide_eq_true d
      rw [e] at d
      obtain ⟨y, w, hy⟩ := Option.map_eq_some_iff.mp d
      obtain ⟨rest, hr⟩ := FW_first ok' (u := max 0 (u - t * k.2.1)) (by omega) w
      refine ⟨rest.map (t :: ·), ?_⟩
      rw [List.filter_map]
      have e2 : (AL c st).filter ((fun l => decide (u ≤ lwo (k :: st) l) && decide (lwt (k :: st) l = x)) ∘ (t :: ·)) = (AL c st).filter (fun l => decide (max 0 (u - t * k.2.1) ≤ lwo st l) && decide (lwt st l = y)) := List.filter_congr fun l hl => by
        have wo := (AL_wo c ok' hl).1
        show (decide (u ≤ lwo (k :: st) (t :: l)) && decide (lwt (k :: st) (t :: l) = x)) = _
        rw [lwo_cons, lwt_cons, Int.mul_comm k.2.1, Int.mul_comm k.1]
        congr 1
        · rw [decide_eq_decide]; omega
        · rw [decide_eq_decide]; omega
      rw [e2, hr, List.map_cons]
def Wrow (st : List KK) (U : Int) : List (Option Int) := (rngI 0 (U + 1)).map (LW c st)
theorem Wrow_len (st : List KK) {U : Int} : (Wrow c st U).length = (U + 1).toNat := by unfold Wrow; rw [List.length_map, rng0_len]
theorem Wrow_at (st : List KK) {U h : Int} (h0 : 0 ≤ h) (h1 : h ≤ U) : gI (Wrow c st U) h = LW c st h := by
  obtain ⟨n, rfl⟩ := Int.eq_ofNat_of_zero_le h0
  rw [gI_get (by rw [Wrow_len]; omega)]
  unfold Wrow rngI
  simp
def Wrows (st : List KK) (U : Int) : List (List (Option Int)) := (List.range (st.length + 1)).map fun j => Wrow c (st.drop (st.length - j)) U
theorem Wrows_len (st : List KK) (U : Int) : (Wrows c st U).length = st.length + 1 := by unfold Wrows; rw [List.length_map, List.length_range]
theorem Wrows_at {st : List KK} {U : Int} {j : Nat} (h : j ≤ st.length) : gI (Wrows c st U) (j : Int) = Wrow c (st.drop (st.length - j)) U := by
  rw [gI_get (by rw [Wrows_len]; omega)]
  unfold Wrows
  simp
theorem Wrows_last {st : List KK} {U : Int} : lastI (Wrows c st U) = Wrow c st U := by
  unfold Wrows
  rw [List.range_succ, List.map_append, List.map_singleton, lastI_snoc, Nat.sub_self, List.drop_zero]
end FL

/-! MX: plain words for kinds without end: best worths by room, and the rounds of the lead. -/
namespace FL
open PySem PySem.Spec L2
/-- the best worths of the rooms to n -/
def WL (st : List KK) : Nat → List Int
  | 0 => [0]
  | n + 1 => WL st n ++ [maxL ([gI (WL st n) (n : Int)] ++ (st.filter fun k => decide (k.1 ≤ ((n + 1 : Nat) : Int))).map fun k => gI (WL st n) (((n + 1 : Nat) : Int) - k.1) + k.2.1)]
theorem WL_len (st : List KK) : ∀ n, (WL st n).length = n + 1
  | 0 => rfl
  | n + 1 => by
    show (_ ++ [_]).length = _
    rw [List.length_append, WL_len st n]; rfl
def WW (st : List KK) (h : Int) : Int := gI (WL st h.toNat) h
theorem gI_left {a b : List Int} {i : Int} (h0 : 0 ≤ i) (h : i < a.length) : gI (a ++ b) i = gI a i := by
  obtain ⟨n, rfl⟩ := Int.eq_ofNat_of_zero_le h0
  have h : n < a.length := by omega
  unfold gI
  simp [List.getElem?_append_left h]
theorem gI_last {a : List Int} {x : Int} {i : Int} (h : i = a.length) : gI (a ++ [x]) i = x := by
  subst h
  unfold gI
  simp
theorem WL_at (st : List KK) : ∀ {n : Nat} {h : Int}, 0 ≤ h → h ≤ n → gI (WL st n) h = WW st h
  | 0, h, h0, h1 => by
    have : h = 0 := by omega
    subst this; rfl
  | n + 1, h, h0, h1 => by
    by_cases e : h = ((n + 1 : Nat) : Int)
    · unfold WW
      have : h.toNat = n + 1 := by omega
      rw [this]
    · have l : h ≤ n := by omega
      show gI (WL st n ++ _) h = _
      rw [gI_left h0 (by rw [WL_len]; omega)]
      exact WL_at st h0 l
theorem WW_0 (st : List KK) : WW st 0 = 0 := rfl
section
variable {st : List KK} (ok : ∀ k ∈ st, Kok k)
include ok
theorem WW_max {h : Int} (h1 : 1 ≤ h) : WW st h = maxL ([WW st (h - 1)] ++ (st.filter fun k => decide (k.1 ≤ h)).map fun k => WW st (h - k.1) + k.2.1) := by
  obtain ⟨m, rfl⟩ := Int.eq_ofNat_of_zero_le (show 0 ≤ h by omega)
  obtain ⟨n, rfl⟩ : ∃ n, m = n + 1 := ⟨m - 1, by omega⟩
  have e : WW st ((n + 1 : Nat) : Int) = gI (WL st (n + 1)) ((n + 1 : Nat) : Int) := rfl
  rw [e]
  show gI (WL st n ++ [_]) _ = _
  rw [gI_last (by rw [WL_len])]
  have a : gI (WL st n) (n : Int) = WW st (((n + 1 : Nat) : Int) - 1) := by
    rw [WL_at st (by omega) (Int.le_refl _)]
    congr 1; omega
  have b : ((st.filter fun k => decide (k.1 ≤ ((n + 1 : Nat) : Int))).map fun k => gI (WL st n) (((n + 1 : Nat) : Int) - k.1) + k.2.1) = (st.filter fun k => decide (k.1 ≤ ((n + 1 : Nat) : Int))).map fun k => WW st (((n + 1 : Nat) : Int) - k.1) + k.2.1 := List.map_congr_left fun k hk => by
    have q := List.mem_filter.mp hk
    have := (ok k q.1).w
    have := of_decide_eq_true q.2
    rw [WL_at st (by omega) (by omega)]
  rw [a, b]
theorem WW_prev {h : Int} (h1 : 1 ≤ h) : WW st (h - 1) ≤ WW st h := by
  rw [WW_max ok h1]
  exact (maxL_mem (by simp)).2 _ (by simp)
theorem WW_kind {h : Int} {k : KK} (hk : k ∈ st) (l : k.1 ≤ h) : WW st (h - k.1) + k.2.1 ≤ WW st h := by
  have := (ok k hk).w
  rw [WW_max ok (h := h) (by omega)]
  exact (maxL_mem (by simp)).2 _ (List.mem_append_right _ (List.mem_map.mpr ⟨k, List.mem_filter.mpr ⟨hk, decide_eq_true l⟩, rfl⟩))
theorem WW_att {h : Int} (h1 : 1 ≤ h) : WW st h = WW st (h - 1) ∨ ∃ k ∈ st, k.1 ≤ h ∧ WW st h = WW st (h - k.1) + k.2.1 := by
  have := (maxL_mem (l := [WW st (h - 1)] ++ (st.filter fun k => decide (k.1 ≤ h)).map fun k => WW st (h - k.1) + k.2.1) (by simp)).1
  rw [← WW_max ok h1] at this
  rcases List.mem_append.mp this with z | z
  · exact .inl (List.mem_singleton.mp z)
  · obtain ⟨k, hk, e⟩ := List.mem_map.mp z
    have q := List.mem_filter.mp hk
    exact .inr ⟨k, q.1, of_decide_eq_true q.2, e.symm⟩
theorem WW_mono {a b : Int} (h0 : 0 ≤ a) (h : a ≤ b) : WW st a ≤ WW st b := by
  obtain ⟨n, e⟩ := Int.eq_ofNat_of_zero_le (show 0 ≤ b - a by omega)
  have : ∀ n : Nat, WW st a ≤ WW st (a + n) := fun n => by
    induction n with
    | zero => rw [show a + ((0 : Nat) : Int) = a by omega]; exact Int.le_refl _
    | succ n ih =>
      have := WW_prev ok (h := a + ((n + 1 : Nat) : Int)) (by omega)
      rw [show a + ((n + 1 : Nat) : Int) - 1 = a + n by omega] at this
      omega
  have := this n
  rw [show a + (n : Int) = b by omega] at this
  exact this
theorem WW_nn {h : Int} (h0 : 0 ≤ h) : 0 ≤ WW st h := by
  have := WW_mono ok (a := 0) (Int.le_refl 0) h0
  rw [WW_0] at this
  exact this
theorem WW_le {c : Int} (c0 : 0 ≤ c) (hc : ∀ k ∈ st, k.2.1 ≤ c) : ∀ (n : Nat), WW st n ≤ c * n := by
  intro n
  induction n using Nat.strongRecOn with
  | _ n ih =>
    by_cases z : n = 0
    · subst z; rw [show ((0 : Nat) : Int) = 0 by rfl, WW_0]; omega
    · rcases WW_att ok (h := n) (by omega) with e | ⟨k, hk, l, e⟩
      · rw [e, show (n : Int) - 1 = ((n - 1 : Nat) : Int) by omega]
        have := ih (n - 1) (by omega)
        have : c * ((n - 1 : Nat) : Int) ≤ c * n := Int.mul_le_mul_of_nonneg_left (by omega) c0
        omega
      · have w := (ok k hk).w
        have v := hc k hk
        obtain ⟨m, hm⟩ := Int.eq_ofNat_of_zero_le (show 0 ≤ (n : Int) - k.1 by omega)
        rw [e, hm]
        have := ih m (by omega)
        have a : c * (m : Int) ≤ c * ((n : Int) - 1) := Int.mul_le_mul_of_nonneg_left (by omega) c0
        rw [Int.mul_sub, Int.mul_one] at a
        omega
end
/-! lists of single things -/
def tw (L : List KK) : Int := (L.map (·.1)).sum
def tv (L : List KK) : Int := (L.map (·.2.1)).sum
theorem tw_cons (k : KK) (L : List KK) : tw (k :: L) = k.1 + tw L := by unfold tw; simp
theorem tv_cons (k : KK) (L : List KK) : tv (k :: L) = k.2.1 + tv L := by unfold tv; simp
theorem tw_app (A B : List KK) : tw (A ++ B) = tw A + tw B := by unfold tw; simp
theorem tv_app (A B : List KK) : tv (A ++ B) = tv A + tv B := by unfold tv; simp
/-- of more numbers than rests two are alike -/
theorem pigeon : ∀ {w : Nat} {f : Nat → Nat}, (∀ i, i ≤ w → f i < w) → ∃ i j, i < j ∧ j ≤ w ∧ f i = f j
  | 0, f, h => absurd (h 0 (Nat.le_refl 0)) (by omega)
  | w + 1, f, h => by
    by_cases c : ∃ i, i ≤ w ∧ f i = f (w + 1)
    · obtain ⟨i, l, e⟩ := c
      exact ⟨i, w + 1, by omega, Nat.le_refl _, e⟩
    · have nc : ∀ i, i ≤ w → f i ≠ f (w + 1) := fun i l e => c ⟨i, l, e⟩
      obtain ⟨i, j, l, m, e⟩ := pigeon (w := w) (f := fun i => if f i = w then f (w + 1) else f i) fun i l => by
        have a := h i (by omega)
        have b := h (w + 1) (Nat.le_refl _)
        have d := nc i l
        show (if f i = w then f (w + 1) else f i) < w
        split <;> omega
      refine ⟨i, j, l, by omega, ?_⟩
      have e : (if f i = w then f (w + 1) else f i) = (if f j = w then f (w + 1) else f j) := e
      have d1 := nc i (by omega)
      have d2 := nc j m
      split at e <;> split at e <;> omega
section
variable {st : List KK} (ok : ∀ k ∈ st, Kok k)
include ok
theorem tw_nn {L : List KK} (h : ∀ k ∈ L, k ∈ st) : 0 ≤ tw L := by
  induction L with
  | nil => exact Int.le_refl 0
  | cons k L ih =>
    have := (ok k (h k (by simp))).w
    have := ih fun j hj => h j (by simp [hj])
    rw [tw_cons]; omega
theorem tw_le {M : Int} (hM : ∀ k ∈ st, k.1 ≤ M) {L : List KK} (h : ∀ k ∈ L, k ∈ st) : tw L ≤ (L.length : Int) * M := by
  induction L with
  | nil => show (0 : Int) ≤ 0 * M; omega
  | cons k L ih =>
    have a := hM k (h k (by simp))
    have b := ih fun j hj => h j (by simp [hj])
    rw [tw_cons, List.length_cons, Int.natCast_succ, Int.add_mul, Int.one_mul]; omega
theorem WW_ge : ∀ {L : List KK} {h : Int}, (∀ k ∈ L, k ∈ st) → tw L ≤ h → tv L ≤ WW st h
  | [], h, _, l => by
    have l : 0 ≤ h := l
    exact WW_nn ok l
  | k :: L, h, m, l => by
    rw [tw_cons] at l
    have mk := m k (by simp)
    have n := tw_nn ok (L := L) fun j hj => m j (by simp [hj])
    have a := WW_ge (L := L) (h := h - k.1) (fun j hj => m j (by simp [hj])) (by omega)
    have b := WW_kind ok mk (h := h) (by omega)
    rw [tv_cons]; omega
theorem WW_list : ∀ n : Nat, ∃ L : List KK, (∀ k ∈ L, k ∈ st) ∧ tw L ≤ n ∧ tv L = WW st n := by
  intro n
  induction n using Nat.strongRecOn with
  | _ n ih =>
    by_cases z : n = 0
    · subst z; exact ⟨[], (fun _ h => by cases h), Int.le_refl 0, rfl⟩
    · rcases WW_att ok (h := n) (by omega) with e | ⟨k, hk, l, e⟩
      · obtain ⟨L, a, b, d⟩ := ih (n - 1) (by omega)
        refine ⟨L, a, by omega, ?_⟩
        rw [d, e]; congr 1; omega
      · have w := (ok k hk).w
        obtain ⟨m, hm⟩ := Int.eq_ofNat_of_zero_le (show 0 ≤ (n : Int) - k.1 by omega)
        obtain ⟨L, a, b, d⟩ := ih m (by omega)
        refine ⟨k :: L, fun j hj => ?_, by rw [tw_cons]; omega, by rw [tv_cons, d, e, hm]; omega⟩
        rcases List.mem_cons.mp hj with rfl | hj
        · exact hk
        · exact a j hj
section
variable {k0 : KK} (m0 : k0 ∈ st) (ld : ∀ k ∈ st, k.2.1 * k0.1 ≤ k0.2.1 * k.1)
include ld
theorem tv_lead {L : List KK} (h : ∀ k ∈ L, k ∈ st) : tv L * k0.1 ≤ k0.2.1 * tw L := by
  induction L with
  | nil => show (0 : Int) * _ ≤ _ * 0; omega
  | cons k L ih =>
    have a := ld k (h k (by simp))
    have b := ih fun j hj => h j (by simp [hj])
    rw [tw_cons, tv_cons, Int.add_mul, Int.mul_add]; omega
include m0
/-- any list can be had with few things, the rest being rounds of the lead -/
theorem reduce : ∀ (n : Nat) (L : List KK), L.length = n → (∀ k ∈ L, k ∈ st) → ∃ (L' : List KK) (j : Nat), (∀ k ∈ L', k ∈ st) ∧ L'.length < k0.1 ∧ tw L' + j * k0.1 = tw L ∧ tv L ≤ tv L' + j * k0.2.1 := by
  have w0 := (ok k0 m0).w
  intro n
  induction n using Nat.strongRecOn with
  | _ n ih =>
    intro L hL h
    by_cases z : (L.length : Int) < k0.1
    · exact ⟨L, 0, h, z, by simp, by simp⟩
    · obtain ⟨w, hw⟩ := Int.eq_ofNat_of_zero_le (show 0 ≤ k0.1 by omega)
      have prefnn : ∀ i, 0 ≤ tw (L.take i) := fun i => tw_nn ok fun k hk => h k (List.mem_of_mem_take hk)
      obtain ⟨i, j, lij, lj, e⟩ := pigeon (w := w) (f := fun i => (tw (L.take i)).toNat % w) fun i _ => Nat.mod_lt _ (by omega)
      have e : (tw (L.take i)).toNat % w = (tw (L.take j)).toNat % w := e
      -- the part between
      have lLj : j ≤ L.length := by omega
      have s1 : L.take j = L.take i ++ (L.take j).drop i := by
        have := List.take_append_drop i (L.take j)
        rw [List.take_take, Nat.min_eq_left (by omega)] at this
        exact this.symm
      have s2 : L = L.take i ++ ((L.take j).drop i ++ L.drop j) := by
        conv => lhs; rw [← List.take_append_drop j L, s1]
        rw [List.append_assoc]
      generalize hA : L.take i = A at *
      generalize hB : (L.take j).drop i = B at *
      generalize hC : L.drop j = C at *
      have lB : B.length = j - i := by rw [← hB, List.length_drop, List.length_take]; omega
      have mB : ∀ k ∈ B, k ∈ st := fun k hk => h k (by rw [s2]; simp [hk])
      have mAC : ∀ k ∈ A ++ C, k ∈ st := fun k hk => h k (by
        rw [s2]
        rcases List.mem_append.mp hk with q | q
        · simp [q]
        · simp [q])
      have bn := tw_nn ok mB
      have an : 0 ≤ tw A := by rw [← hA]; exact prefnn i
      have tj : tw (L.take j) = tw A + tw B := by rw [s1, tw_app]
      rw [tj] at e
      -- the weight between is rounds of the lead
      have dv : ∃ q : Nat, tw B = q * k0.1 := by
        obtain ⟨b, hb⟩ := Int.eq_ofNat_of_zero_le bn
        obtain ⟨a, ha⟩ := Int.eq_ofNat_of_zero_le an
        rw [ha, hb] at e
        rw [show ((a : Int) + (b : Int)).toNat = a + b by omega, show (a : Int).toNat = a by omega] at e
        have : w ∣ b := by
          have := Nat.sub_mod_eq_zero_of_mod_eq e.symm
          rw [Nat.add_sub_cancel_left] at this
          exact Nat.dvd_of_mod_eq_zero this
        obtain ⟨q, hq⟩ := this
        refine ⟨q, ?_⟩
        rw [hb, hq, hw, Int.natCast_mul, Int.mul_comm]
      obtain ⟨q, hq⟩ := dv
      have vb : tv B ≤ q * k0.2.1 := by
        have t := tv_lead ok ld mB
        rw [hq] at t
        have : tv B * k0.1 ≤ (q * k0.2.1) * k0.1 := by
          have e : k0.2.1 * (q * k0.1) = q * k0.2.1 * k0.1 := by rw [← Int.mul_assoc, Int.mul_comm k0.2.1]
          omega
        exact Int.le_of_mul_le_mul_right this (by omega)
      obtain ⟨L', j', g1, g2, g3, g4⟩ := ih (A ++ C).length (by rw [← hL, s2]; simp only [List.length_append]; omega) (A ++ C) rfl mAC
      refine ⟨L', j' + q, g1, g2, ?_, ?_⟩
      · rw [s2, tw_app, tw_app, hq, Int.natCast_add, Int.add_mul]
        rw [tw_app] at g3; omega
      · rw [s2, tv_app, tv_app, Int.natCast_add, Int.add_mul]
        rw [tv_app] at g4; omega
theorem WW_rounds {L : List KK} (h : ∀ k ∈ L, k ∈ st) : ∀ (j : Nat) {r : Int}, tw L + j * k0.1 ≤ r → tv L + j * k0.2.1 ≤ WW st r
  | 0, r, l => by
    have := WW_ge ok h (h := r) (by omega)
    omega
  | j + 1, r, l => by
    rw [Int.natCast_succ, Int.add_mul, Int.one_mul] at l
    have w0 := (ok k0 m0).w
    have n := tw_nn ok h
    have p := Int.mul_nonneg (show (0 : Int) ≤ (j : Int) by omega) (show 0 ≤ k0.1 by omega)
    have a := WW_rounds h j (r := r - k0.1) (by omega)
    have b := WW_kind ok m0 (h := r) (by omega)
    rw [Int.natCast_succ, Int.add_mul, Int.one_mul]; omega
/-- from here on each round is one lead more -/
theorem WW_period {M : Int} (hM : ∀ k ∈ st, k.1 ≤ M) {r : Int} (l : k0.1 + (k0.1 - 1) * M ≤ r) : WW st r = WW st (r - k0.1) + k0.2.1 := by
  have w0 := (ok k0 m0).w
  have v0 := (ok k0 m0).v
  have M0 := hM k0 m0
  have p := Int.mul_nonneg (show 0 ≤ k0.1 - 1 by omega) (show 0 ≤ M by omega)
  apply Int.le_antisymm
  · obtain ⟨n, rfl⟩ := Int.eq_ofNat_of_zero_le (show 0 ≤ r by omega)
    obtain ⟨L, a, b, d⟩ := WW_list ok n
    obtain ⟨L', j, g1, g2, g3, g4⟩ := reduce ok m0 ld L.length L rfl a
    rw [← d]
    cases j with
    | zero =>
      have t := tw_le ok hM g1
      have : (L'.length : Int) * M ≤ (k0.1 - 1) * M := Int.mul_le_mul_of_nonneg_right (by omega) (by omega)
      have := WW_ge ok g1 (h := (n : Int) - k0.1) (by omega)
      omega
    | succ j =>
      rw [Int.natCast_succ, Int.add_mul, Int.one_mul] at g3 g4
      have := WW_rounds ok m0 ld g1 j (r := (n : Int) - k0.1) (by omega)
      omega
  · exact WW_kind ok m0 (by omega)
theorem WW_laps {M : Int} (hM : ∀ k ∈ st, k.1 ≤ M) {r : Int} : ∀ (n : Nat), k0.1 + (k0.1 - 1) * M ≤ r - n * k0.1 + k0.1 → WW st r = WW st (r - n * k0.1) + n * k0.2.1
  | 0, _ => by simp
  | n + 1, l => by
    have w0 := (ok k0 m0).w
    rw [Int.natCast_succ, Int.add_mul, Int.one_mul] at l ⊢
    have a := WW_laps hM (r := r) n (by omega)
    have b := WW_period ok m0 ld hM (r := r - n * k0.1) (by omega)
    rw [a, b, Int.add_mul, Int.one_mul, show r - (n * k0.1 + k0.1) = r - n * k0.1 - k0.1 by omega]
    omega
end
end
/-! leads -/
def LdR (a b : KK) : Prop := a.2.1 * b.1 < b.2.1 * a.1 ∨ (a.2.1 * b.1 = b.2.1 * a.1 ∧ b.1 ≤ a.1)
theorem LdR.le {a b : KK} (h : LdR a b) : a.2.1 * b.1 ≤ b.2.1 * a.1 := by rcases h with h | h <;> omega
theorem LdR_refl (a : KK) : LdR a a := .inr ⟨rfl, Int.le_refl _⟩
theorem LdR_trans {a b c : KK} (wa : 1 ≤ a.1) (wb : 1 ≤ b.1) (wc : 1 ≤ c.1) (h : LdR a b) (q : LdR b c) : LdR a c := by
  have e1 : a.2.1 * b.1 * c.1 = a.2.1 * c.1 * b.1 := by grind
  have e2 : b.2.1 * a.1 * c.1 = b.2.1 * c.1 * a.1 := by grind
  have e3 : c.2.1 * b.1 * a.1 = c.2.1 * a.1 * b.1 := by grind
  have l1 : a.2.1 * b.1 * c.1 ≤ b.2.1 * a.1 * c.1 := Int.mul_le_mul_of_nonneg_right h.le (by omega)
  have l2 : b.2.1 * c.1 * a.1 ≤ c.2.1 * b.1 * a.1 := Int.mul_le_mul_of_nonneg_right q.le (by omega)
  rcases h with h | ⟨h, hw⟩
  · have := Int.mul_lt_mul_of_pos_right h (show 0 < c.1 by omega)
    exact .inl (Int.lt_of_mul_lt_mul_right (a := b.1) (by omega) (by omega))
  · rcases q with q | ⟨q, qw⟩
    · have := Int.mul_lt_mul_of_pos_right q (show 0 < a.1 by omega)
      exact .inl (Int.lt_of_mul_lt_mul_right (a := b.1) (by omega) (by omega))
    · refine .inr ⟨?_, by omega⟩
      have : a.2.1 * c.1 * b.1 = c.2.1 * a.1 * b.1 := by rw [← e1, ← e3, h, e2, q]
      exact Int.eq_of_mul_eq_mul_right (by omega) this
/-- two leads have the same weight and worth -/
theorem LdR_eq {a b : KK} (wa : 1 ≤ a.1) (h : LdR a b) (q : LdR b a) : a.1 = b.1 ∧ a.2.1 = b.2.1 := by
  have l1 := h.le
  have l2 := q.le
  have e : a.2.1 * b.1 = b.2.1 * a.1 := by omega
  have w : a.1 = b.1 := by
    rcases h with h | ⟨_, h⟩
    · omega
    · rcases q with q | ⟨_, q⟩
      · omega
      · omega
  rw [← w] at e
  exact ⟨w, Int.eq_of_mul_eq_mul_right (by omega) e⟩
def Lead (st : List KK) (i : Int) : Prop := (0 ≤ i ∧ i < (st.length : Int)) ∧ ∀ k ∈ st, LdR k (gI st i)
/-! loads with one more -/
theorem lwt_set {f : KK → Int} : ∀ {st : List KK} {l : List Int} {p : Nat} {x : Int}, p < st.length → l.length = st.length → ((st.zip (l.set p x)).map fun y => f y.1 * y.2).sum = ((st.zip l).map fun y => f y.1 * y.2).sum + f (gI st (p : Int)) * (x - gI l (p : Int))
  | [], _, _, _, h, _ => by simp at h
  | k :: st, [], _, _, _, h => by simp at h
  | k :: st, y :: l, 0, x, _, _ => by
    rw [List.set_cons_zero, List.zip_cons_cons, List.zip_cons_cons, List.map_cons, List.map_cons, List.sum_cons, List.sum_cons]
    show f k * x + _ = f k * y + _ + f k * (x - y)
    rw [Int.mul_sub]; omega
  | k :: st, y :: l, p + 1, x, h, e => by
    have ih := lwt_set (f := f) (st := st) (l := l) (p := p) (x := x) (by simpa using h) (by simpa using e)
    rw [List.set_cons_succ, List.zip_cons_cons, List.zip_cons_cons, List.map_cons, List.map_cons, List.sum_cons, List.sum_cons, ih]
    have a : gI (k :: st) ((p + 1 : Nat) : Int) = gI st (p : Int) := by unfold gI; simp
    have b : gI (y :: l) ((p + 1 : Nat) : Int) = gI l (p : Int) := by unfold gI; simp
    rw [a, b]; omega
theorem lwt_put {st : List KK} {l : List Int} {p x : Int} (h0 : 0 ≤ p) (h1 : p < st.length) (hl : l.length = st.length) : lwt st (setI l p x) = lwt st l + (gI st p).1 * (x - gI l p) ∧ lwo st (setI l p x) = lwo st l + (gI st p).2.1 * (x - gI l p) := by
  obtain ⟨n, rfl⟩ := Int.eq_ofNat_of_zero_le h0
  exact ⟨lwt_set (f := fun k => k.1) (by omega) hl, lwt_set (f := fun k => k.2.1) (by omega) hl⟩
theorem lw_zero {f : KK → Int} : ∀ (st : List KK) (n : Nat), ((st.zip (List.replicate n (0 : Int))).map fun y => f y.1 * y.2).sum = 0
  | [], n => by simp
  | k :: st, 0 => rfl
  | k :: st, n + 1 => by rw [List.replicate_succ, List.zip_cons_cons, List.map_cons, List.sum_cons, lw_zero st n]; simp
theorem laps_of {W : Int → Int} {b w g : Int} (w1 : 1 ≤ w) (h : ∀ r, b ≤ r → W r = W (r - w) + g) {r : Int} : ∀ n : Nat, (n = 0 ∨ b ≤ r - n * w + w) → W r = W (r - n * w) + n * g
  | 0, _ => by simp
  | n + 1, l => by
    have l : b ≤ r - ((n + 1 : Nat) : Int) * w + w := by rcases l with l | l; cases l; exact l
    rw [Int.natCast_succ, Int.add_mul, Int.one_mul] at l ⊢
    have a := laps_of w1 h (r := r) n (.inr (by omega))
    have b := h (r - n * w) (by omega)
    rw [a, b, Int.add_mul, Int.one_mul, show r - (n * w + w) = r - n * w - w by omega]
    omega
/-! where the rounds start -/
def SRo (st : List KK) (w g : Int) (s : Int) (l : List Int) : Int := l.foldl (fun s r => if WW st r ≠ WW st (r - w) + g then r + 1 else s) s
theorem SRo_app (st : List KK) (w g s : Int) (a b : List Int) : SRo st w g s (a ++ b) = SRo st w g (SRo st w g s a) b := by unfold SRo; rw [List.foldl_append]
theorem SRo_none {st : List KK} {w g : Int} : ∀ {l : List Int} {s : Int}, (∀ r ∈ l, WW st r = WW st (r - w) + g) → SRo st w g s l = s
  | [], s, _ => rfl
  | r :: l, s, h => by
    show SRo st w g (if _ then _ else _) l = s
    rw [if_neg (by simp [h r (by simp)])]
    exact SRo_none fun x hx => h x (by simp [hx])
/-- begun: all rooms of the row from there on are in rounds; and the room before is not, or it is the first one -/
theorem SRo_run {st : List KK} {w g a : Int} : ∀ n : Nat, a ≤ SRo st w g a (rngI a (a + n)) ∧ SRo st w g a (rngI a (a + n)) ≤ a + n ∧ (∀ r, SRo st w g a (rngI a (a + n)) ≤ r → r < a + n → WW st r = WW st (r - w) + g) ∧ (SRo st w g a (rngI a (a + n)) = a ∨ WW st (SRo st w g a (rngI a (a + n)) - 1) ≠ WW st (SRo st w g a (rngI a (a + n)) - 1 - w) + g)
  | 0 => by
    have : rngI a (a + ((0 : Nat) : Int)) = [] := by unfold rngI; simp
    rw [this]
    exact ⟨Int.le_refl _, by simp [SRo], fun r h1 h2 => (by have h1 : a ≤ r := h1; omega), .inl rfl⟩
  | n + 1 => by
    obtain ⟨h1, h2, h3, h4⟩ := SRo_run (st := st) (w := w) (g := g) (a := a) n
    have e : rngI a (a + ((n + 1 : Nat) : Int)) = rngI a (a + n) ++ [a + n] := by
      unfold rngI
      rw [show (a + ((n + 1 : Nat) : Int) - a).toNat = n + 1 by omega, show (a + (n : Int) - a).toNat = n by omega, List.range_succ, List.map_append]
      rfl
    rw [e, SRo_app]
    generalize SRo st w g a (rngI a (a + n)) = s at *
    have u : SRo st w g s [a + (n : Int)] = if WW st (a + n) ≠ WW st (a + n - w) + g then a + n + 1 else s := rfl
    rw [u]
    by_cases c : WW st (a + n) ≠ WW st (a + n - w) + g
    · rw [if_pos c]
      refine ⟨by omega, by omega, fun r q1 q2 => by omega, .inr ?_⟩
      rw [show a + (n : Int) + 1 - 1 = a + n by omega]
      exact c
    · rw [if_neg c]
      refine ⟨h1, by omega, fun r q1 q2 => ?_, h4⟩
      by_cases z : r = a + n
      · subst z; exact Classical.not_not.mp c
      · exact h3 r q1 (by omega)
end FL

/-! MY: plain words for the rooms that weights fill. -/
namespace FL
open PySem PySem.Spec L2
def GL (ws : List Int) : Nat → List Bool
  | 0 => [true]
  | n + 1 => GL ws n ++ [ws.any fun w => decide (w ≤ ((n + 1 : Nat) : Int)) && gI (GL ws n) (((n + 1 : Nat) : Int) - w)]
theorem GL_len (ws : List Int) : ∀ n, (GL ws n).length = n + 1
  | 0 => rfl
  | n + 1 => by
    show (_ ++ [_]).length = _
    rw [List.length_append, GL_len ws n]; rfl
def FLd (ws : List Int) (h : Int) : Bool := gI (GL ws h.toNat) h
theorem gB_left {a b : List Bool} {i : Int} (h0 : 0 ≤ i) (h : i < a.length) : gI (a ++ b) i = gI a i := by
  obtain ⟨n, rfl⟩ := Int.eq_ofNat_of_zero_le h0
  have h : n < a.length := by omega
  unfold gI
  simp [List.getElem?_append_left h]
theorem gB_last {a : List Bool} {x : Bool} {i : Int} (h : i = a.length) : gI (a ++ [x]) i = x := by
  subst h
  unfold gI
  simp
theorem GL_at (ws : List Int) : ∀ {n : Nat} {h : Int}, 0 ≤ h → h ≤ n → gI (GL ws n) h = FLd ws h
  | 0, h, h0, h1 => by
    have : h = 0 := by omega
    subst this; rfl
  | n + 1, h, h0, h1 => by
    by_cases e : h = ((n + 1 : Nat) : Int)
    · unfold FLd
      have : h.toNat = n + 1 := by omega
      rw [this]
    · have l : h ≤ n := by omega
      show gI (GL ws n ++ _) h = _
      rw [gB_left h0 (by rw [GL_len]; omega)]
      exact GL_at ws h0 l
theorem FLd_add {ws : List Int} (ok : ∀ w ∈ ws, 1 ≤ w) {w h : Int} (hw : w ∈ ws) (h0 : 0 ≤ h) (f : FLd ws h = true) : FLd ws (w + h) = true := by
  have w1 := ok w hw
  obtain ⟨n, hn⟩ := Int.eq_ofNat_of_zero_le (show 0 ≤ w + h - 1 by omega)
  have e : w + h = ((n + 1 : Nat) : Int) := by omega
  rw [← GL_at ws (n := n + 1) (by omega) (by omega)]
  show gI (GL ws n ++ [_]) _ = true
  rw [gB_last (by rw [GL_len]; omega), List.any_eq_true]
  refine ⟨w, hw, ?_⟩
  rw [GL_at ws (by omega) (by omega), show ((n + 1 : Nat) : Int) - w = h by omega, f, decide_eq_true (by omega)]
  rfl
def zs (ws : List Int) : List KK := ws.map fun w => (w, 0, none)
theorem zs_mem {ws : List Int} {k : KK} (h : k ∈ zs ws) : k.1 ∈ ws ∧ k.2.1 = 0 := by
  obtain ⟨w, hw, rfl⟩ := List.mem_map.mp h
  exact ⟨hw, rfl⟩
section
variable {ws : List Int} (ok : ∀ w ∈ ws, 1 ≤ w)
include ok
theorem zs_ok : ∀ k ∈ zs ws, Kok k := fun k hk => by
  obtain ⟨w, hw, rfl⟩ := List.mem_map.mp hk
  exact ⟨ok w hw, Int.le_refl 0, fun x h => by cases h⟩
theorem FLd_of : ∀ {L : List KK}, (∀ k ∈ L, k ∈ zs ws) → FLd ws (tw L) = true
  | [], _ => rfl
  | k :: L, h => by
    rw [tw_cons]
    exact FLd_add ok (zs_mem (h k (by simp))).1 (tw_nn (zs_ok ok) fun j hj => h j (by simp [hj])) (FLd_of fun j hj => h j (by simp [hj]))
theorem FLd_rep {a h : Int} (ha : a ∈ ws) (h0 : 0 ≤ h) (f : FLd ws h = true) : ∀ n : Nat, FLd ws (n * a + h) = true
  | 0 => by simpa using f
  | n + 1 => by
    have a1 := ok a ha
    have := FLd_add ok ha (h := n * a + h) (by have := Int.mul_nonneg (show (0 : Int) ≤ n by omega) (show 0 ≤ a by omega); omega) (FLd_rep ha h0 f n)
    rw [Int.natCast_succ, Int.add_mul, Int.one_mul]
    rw [show (n : Int) * a + a + h = a + (n * a + h) by omega]
    exact this
end
theorem bez : ∀ (b a : Nat), ∃ x y : Int, x * a + y * b = (Nat.gcd a b : Nat) := by
  intro b
  induction b using Nat.strongRecOn with
  | _ b ih =>
    intro a
    by_cases z : b = 0
    · subst z; exact ⟨1, 0, by simp⟩
    · obtain ⟨x, y, e⟩ := ih (a % b) (Nat.mod_lt _ (by omega)) b
      refine ⟨y, x - y * ((a / b : Nat) : Int), ?_⟩
      have d : (a : Int) = b * ((a / b : Nat) : Int) + ((a % b : Nat) : Int) := by
        have := Nat.div_add_mod a b
        rw [← Int.natCast_mul, ← Int.natCast_add, this]
      have g : Nat.gcd a b = Nat.gcd b (a % b) := by rw [Nat.gcd_comm a b, Nat.gcd_rec b a, Nat.gcd_comm]
      rw [g, ← e]
      conv => lhs; rw [d]
      generalize ((a / b : Nat) : Int) = q
      generalize ((a % b : Nat) : Int) = r
      grind
theorem tw_rep (L : List KK) : ∀ n : Nat, tw (List.replicate n L).flatten = n * tw L
  | 0 => by simp [tw]
  | n + 1 => by rw [List.replicate_succ, List.flatten_cons, tw_app, tw_rep L n, Int.natCast_succ, Int.add_mul, Int.one_mul]; omega
section
variable {ws : List Int} (ok : ∀ w ∈ ws, 1 ≤ w) {a : Int} (ha : a ∈ ws)
/-- some list has the rest of g -/
def Rst (ws : List Int) (a g : Int) : Prop := ∃ L : List KK, (∀ k ∈ L, k ∈ zs ws) ∧ a ∣ tw L - g
theorem Rst_mul {g : Int} (a1 : 1 ≤ a) (h : Rst ws a g) (x : Int) : Rst ws a (x * g) := by
  obtain ⟨L, m, q, hq⟩ := h
  refine ⟨(List.replicate (x % a).toNat L).flatten, fun k hk => ?_, ?_⟩
  · obtain ⟨l, hl, hk⟩ := List.mem_flatten.mp hk
    rw [List.eq_of_mem_replicate hl] at hk
    exact m k hk
  · have x0 := Int.emod_nonneg x (show a ≠ 0 by omega)
    rw [tw_rep, Int.toNat_of_nonneg x0]
    have d := Int.emod_add_mul_ediv x a
    refine ⟨(x % a) * q - (x / a) * g, ?_⟩
    have e : tw L = a * q + g := by omega
    rw [e]
    generalize x % a = r at *
    generalize x / a = s at *
    rw [← d]
    grind
theorem Rst_add {g h : Int} (p : Rst ws a g) (q : Rst ws a h) : Rst ws a (g + h) := by
  obtain ⟨L, m, x, hx⟩ := p
  obtain ⟨K, n, y, hy⟩ := q
  refine ⟨L ++ K, fun k hk => ?_, x + y, ?_⟩
  · rcases List.mem_append.mp hk with z | z
    · exact m k z
    · exact n k z
  · rw [tw_app, Int.mul_add]; omega
theorem Rst_w {w : Int} (hw : w ∈ ws) : Rst ws a w := ⟨[(w, 0, none)], fun k hk => by rw [List.mem_singleton.mp hk]; exact List.mem_map.mpr ⟨w, hw, rfl⟩, 0, by
  have : tw [((w, 0, none) : KK)] = w := by unfold tw; simp
  rw [this]; omega⟩
include ok
theorem Rst_gcd (a1 : 1 ≤ a) {g w : Int} (g0 : 0 ≤ g) (h : Rst ws a g) (hw : w ∈ ws) : Rst ws a (gc g w) := by
  have w1 := ok w hw
  obtain ⟨m, rfl⟩ := Int.eq_ofNat_of_zero_le g0
  obtain ⟨n, rfl⟩ := Int.eq_ofNat_of_zero_le (show 0 ≤ w by omega)
  obtain ⟨x, y, e⟩ := bez n m
  have : gc (m : Int) (n : Int) = x * m + y * n := by rw [e]; rfl
  rw [this]
  exact Rst_add (Rst_mul a1 h x) (Rst_mul a1 (Rst_w hw) y)
theorem Rst_fold (a1 : 1 ≤ a) : ∀ {l : List Int} {g : Int}, (∀ w ∈ l, w ∈ ws) → 0 ≤ g → Rst ws a g → Rst ws a (l.foldl gc g)
  | [], g, _, _, h => h
  | w :: l, g, m, g0, h => by
    rw [List.foldl_cons]
    exact Rst_fold a1 (fun x hx => m x (by simp [hx])) (by unfold gc; omega) (Rst_gcd ok a1 g0 h (m w (by simp)))
include ha
/-- with no divisor in common each room from some one on is filled -/
theorem filled_all (h1 : ws.foldl gc 0 = 1) {M : Int} (hM : ∀ w ∈ ws, w ≤ M) {h : Int} (hh : (a - 1) * M ≤ h) : FLd ws h = true := by
  have a1 := ok a ha
  have M1 := hM a ha
  have p := Int.mul_nonneg (show 0 ≤ a - 1 by omega) (show 0 ≤ M by omega)
  have r1 : Rst ws a 1 := by
    rw [← h1]
    exact Rst_fold ok a1 (fun w hw => hw) (Int.le_refl 0) ⟨[], (fun k hk => by cases hk), 0, by show (0 : Int) - 0 = a * 0; omega⟩
  obtain ⟨L, m, q, hq⟩ := Rst_mul a1 r1 h
  rw [Int.mul_one] at hq
  have m0 : ((a, 0, none) : KK) ∈ zs ws := List.mem_map.mpr ⟨a, ha, rfl⟩
  obtain ⟨L', j, g1, g2, g3, _⟩ := reduce (zs_ok ok) m0 (fun k hk => by rw [(zs_mem hk).2]; simp) L.length L rfl m
  have g2 : (L'.length : Int) < a := g2
  have g3 : tw L' + j * a = tw L := g3
  have t := tw_le (zs_ok ok) (M := M) (fun k hk => hM _ (zs_mem hk).1) g1
  have : (L'.length : Int) * M ≤ (a - 1) * M := Int.mul_le_mul_of_nonneg_right (by omega) (by omega)
  have e : h - tw L' = a * (j - q) := by rw [Int.mul_sub, Int.mul_comm a j]; omega
  have n0 : 0 ≤ (j : Int) - q := by
    rcases Int.lt_or_le ((j : Int) - q) 0 with z | z
    · have : a * (j - q) < a * 0 := Int.mul_lt_mul_of_pos_left z (by omega)
      omega
    · exact z
  obtain ⟨n, hn⟩ := Int.eq_ofNat_of_zero_le n0
  have f := FLd_rep ok ha (tw_nn (zs_ok ok) g1) (FLd_of ok g1) n
  rw [show (n : Int) * a + tw L' = h by rw [← hn, Int.mul_comm]; omega] at f
  exact f
end
theorem enu_rng {α : Type} [Inhabited α] (l : List α) : enuL l = (rngI 0 (l.length : Int)).map fun i => (i, gI l i) := by
  have le : (enuL l).length = l.length := by show (enuF 0 l).length = _; rw [enuF_len]
  apply List.ext_getElem
  · rw [le, List.length_map, rng0_len]; simp
  · intro i h1 h2
    have il : i < l.length := by omega
    obtain ⟨g1, g2⟩ := enu_get (l := l) (i := i) (x := (enuL l)[i]) (by rw [List.getElem?_eq_getElem h1])
    rw [List.getElem?_eq_getElem il] at g2
    have g2 := Option.some.inj g2
    rw [List.getElem_map]
    have e : (rngI 0 (l.length : Int))[i]'(by rw [rng0_len]; omega) = (i : Int) := by unfold rngI; simp
    rw [e, gI_get il]
    exact Prod.ext g1 g2.symm
theorem bad_list (ws : List Int) (n : Nat) : List.map (fun x : Int × Bool => x.1) (List.filter (fun x : Int × Bool => !x.2) (enuL (GL ws n))) = (rngI 0 ((n + 1 : Nat) : Int)).filter fun h => !FLd ws h := by
  rw [enu_rng, GL_len, List.filter_map, List.map_map]
  have : ((fun x : Int × Bool => x.1) ∘ fun i => (i, gI (GL ws n) i)) = fun i => i := rfl
  rw [this, List.map_id']
  refine List.filter_congr fun h hh => ?_
  have := mem_rng.mp hh
  show (!gI (GL ws n) h) = _
  rw [GL_at ws this.1 (by omega)]
theorem bad_more {ws : List Int} {n : Nat} : ∀ k : Nat, (∀ h : Int, (n : Int) ≤ h → FLd ws h = true) → (rngI 0 ((n + k : Nat) : Int)).filter (fun h => !FLd ws h) = (rngI 0 (n : Int)).filter fun h => !FLd ws h
  | 0, _ => rfl
  | k + 1, hf => by
    rw [show n + (k + 1) = (n + k) + 1 by omega, rng_snoc, List.filter_append, bad_more k hf]
    have : ([((n + k : Nat) : Int)] : List Int).filter (fun h => !FLd ws h) = [] := by
      rw [List.filter_cons_of_neg (by rw [hf _ (by omega)]; decide), List.filter_nil]
    rw [this, List.append_nil]
end FL

/-! law_k53_rooms_never_filled: the walk, printed by tg.py -/
namespace Lw_k53
open PySem PySem.Spec L2 FL
/-- _law_box (script, k) slots 0:script 1:k 2:here 3:number 4:j 5:part -/
noncomputable def s7__law_box : FnS := (sSeq (sAsg (eBin gAdd (eBin gMul (eVar 3) (eC (.int 2147483647))) (eBin (g2 modD) (eBin gMul (eVar 5) (eBin gAdd (eVar 5) (eC (.int 13)))) (eC (.int 2147483647)))) (gN 3)) (sW [5] sNil))
noncomputable def s6__law_box : FnS := (sSeq (sAsg (eBin (g2 modD) (eBin gMul (eVar 5) (eVar 5)) (eC (.int 2147483629))) (gN 5)) s7__law_box)
noncomputable def s5__law_box : FnS := (sSeq (sAsg (eBin (g2 modD) (eBin gAdd (eBin gAdd (eBin gMul (eBin (g2 modD) (eVar 2) (eC (.int 2147483647))) (eC (.int 48271))) (eBin gMul (eC (.int 7919)) (eVar 4))) (eC (.int 1))) (eC (.int 2147483647))) (gN 5)) (sW [4] s6__law_box))
noncomputable def s8__law_box : FnS := (sRet (eLst (aCons (eVar 3) aNil)))
noncomputable def s4__law_box : FnS := (sSeq (sFor (iR1 (aCons (eC (.int 16)) aNil)) (gN 4) s5__law_box) (sW [2] s8__law_box))
noncomputable def s3__law_box : FnS := (sSeq (sAsg (eC (.int 0)) (gN 3)) s4__law_box)
noncomputable def s9__law_box : FnS := (sRet (eLst (aCons (eBin (g2 fdivD) (eVar 2) (eC (.int 2))) aNil)))
noncomputable def s2__law_box : FnS := (sIf (tst (eBin (gB eqS) (eBin (g2 modD) (eVar 2) (eC (.int 2))) (eC (.int 0)))) s9__law_box s3__law_box)
noncomputable def s10__law_box : FnS := (sSeq (sAsg (eBin (g2 ixD) (eVar 0) (eVar 1)) (gN 2)) (sW [0, 1] s2__law_box))
noncomputable def s1__law_box : FnS := (sIf (tst (eBin (gB ltD) (eVar 1) (eUn (g1 lenD) (eVar 0)))) (sW [2] s10__law_box) (sW [0, 1] s2__law_box))
noncomputable def s0__law_box : FnS := (sSeq (sAsg (eBin gAdd (eBin gMul (eC (.int 7919)) (eVar 1)) (eC (.int 13))) (gN 2)) s1__law_box)
noncomputable def f__law_box : FnS := s0__law_box
noncomputable def run__law_box : FnR := runBody 6 f__law_box
/-- _law_divisor (one, other) slots 0:one 1:other -/
noncomputable def s2__law_divisor : FnS := (sSeq (sPar 0 1 (aCons (eVar 1) (aCons (eBin (g2 modD) (eVar 0) (eVar 1)) aNil))) sNil)
noncomputable def s3__law_divisor : FnS := (sRet (eVar 0))
noncomputable def s1__law_divisor : FnS := (sSeq (sWhile (tst (eBin (gB gtD) (eVar 1) (eC (.int 0)))) s2__law_divisor) (sW [1] s3__law_divisor))
noncomputable def s0__law_divisor : FnS := (sSeq (sPar 0 1 (aCons (eUn (g1 absD) (eVar 0)) (aCons (eUn (g1 absD) (eVar 1)) aNil))) s1__law_divisor)
noncomputable def f__law_divisor : FnS := s0__law_divisor
noncomputable def run__law_divisor : FnR := runBody 2 f__law_divisor
/-- _law_due (weights) slots 0:weights 1:divides 2:heft 3:good 4:room 5:some -/
noncomputable def L1__law_due : FnE := (eLc (iAny (eVar 0)) [2] (gN 2) (tst (eBin (gB leD) (eVar 2) (eVar 4))) (eBin (g2 ixD) (eVar 3) (eBin (g2 subD) (eVar 4) (eVar 2))))
noncomputable def L2__law_due : FnE := (eLc (iR1 (aCons (eC (.int 420)) aNil)) [4] (gN 4) (fNot (tst (eBin (g2 ixD) (eVar 3) (eVar 4)))) (eVar 4))
noncomputable def s2__law_due : FnS := (sSeq (sAsg (eCall run__law_divisor 2 none (aCons (eVar 1) (aCons (eVar 2) aNil))) (gN 1)) (sW [2] sNil))
noncomputable def s6__law_due : FnS := (sSeq (sExpr (eMet 3 (eBin (gB inD) (eC (.bool true)) L1__law_due) (outApp 3))) (sW [4] sNil))
noncomputable def s8__law_due : FnS := (sRet (eTup (aCons (eIf (tst (eBin (gB neS) (eVar 5) (eLst aNil))) (eTup (aCons (eC (.str "last")) (aCons (eBin (g2 ixD) (eVar 5) (eUn (g1 negD) (eC (.int 1)))) aNil))) (eTup (aCons (eC (.str "none")) aNil))) (aCons (eUn (g1 lenD) (eVar 5)) aNil))))
noncomputable def s7__law_due : FnS := (sSeq (sAsg L2__law_due (gN 5)) (sW [3] s8__law_due))
noncomputable def s5__law_due : FnS := (sSeq (sFor (iR2 (aCons (eC (.int 1)) (aCons (eC (.int 420)) aNil))) (gN 4) s6__law_due) (sW [0] s7__law_due))
noncomputable def s4__law_due : FnS := (sSeq (sAsg (eLst (aCons (eC (.bool true)) aNil)) (gN 3)) s5__law_due)
noncomputable def s9__law_due : FnS := (sRet (eTup (aCons (eTup (aCons (eC (.str "ever")) (aCons (eVar 1) aNil))) (aCons (eC .none) aNil))))
noncomputable def s3__law_due : FnS := (sIf (tst (eBin (gB gtD) (eVar 1) (eC (.int 1)))) (sW [0] s9__law_due) (sW [1] s4__law_due))
noncomputable def s1__law_due : FnS := (sSeq (sFor (iAny (eVar 0)) (gN 2) s2__law_due) s3__law_due)
noncomputable def s0__law_due : FnS := (sSeq (sAsg (eC (.int 0)) (gN 1)) s1__law_due)
noncomputable def f__law_due : FnS := s0__law_due
noncomputable def run__law_due : FnR := runBody 6 f__law_due
/-- _law_take (box, many) slots 0:box 1:many 2:left 3:digit -/
noncomputable def s2__law_take : FnS := (sRet (eVar 3))
noncomputable def s1__law_take : FnS := (sSeq (sSetIx 0 (eC (.int 0)) (eVar 2)) (sW [2] s2__law_take))
noncomputable def s0__law_take : FnS := (sSeq (sAsg (eBin (g2 divmodD) (eBin (g2 ixD) (eVar 0) (eC (.int 0))) (eVar 1)) (gT (gsCons (gN 2) (gsCons (gN 3) gsNil)))) (sW [1] s1__law_take))
noncomputable def f__law_take : FnS := s0__law_take
noncomputable def run__law_take : FnR := runBody 4 f__law_take
/-- _law_endless (box, most, heaviest) slots 0:box 1:most 2:heaviest 3:kind 4:found 5:k 6:heft 7:given 8:gain -/
noncomputable def s6__law_endless : FnS := (sSeq (sExpr (eMet 4 (eTup (aCons (eVar 6) (aCons (eVar 8) (aCons (eC .none) aNil)))) (outApp 4))) (sW [6, 8] sNil))
noncomputable def s5__law_endless : FnS := (sSeq (sAsg (eBin (g2 ixD) (eLst (aCons (eVar 7) (aCons (eVar 6) (aCons (eBin gAdd (eBin gMul (eC (.int 3)) (eVar 6)) (eBin (g2 modD) (eVar 7) (eC (.int 3)))) (aCons (eC (.int 0)) (aCons (eBin gAdd (eBin (g2 powD) (eC (.int 10)) (eC (.int 20))) (eVar 7)) aNil)))))) (eVar 3)) (gN 8)) (sW [7] s6__law_endless))
noncomputable def s4__law_endless : FnS := (sSeq (sAsg (eCall run__law_take 2 (some 0) (aCons (eVar 0) (aCons (eC (.int 12)) aNil))) (gN 7)) s5__law_endless)
noncomputable def s3__law_endless : FnS := (sSeq (sAsg (eBin gAdd (eC (.int 1)) (eCall run__law_take 2 (some 0) (aCons (eVar 0) (aCons (eVar 2) aNil)))) (gN 6)) s4__law_endless)
noncomputable def s7__law_endless : FnS := (sRet (eUn (g1 tupleD) (eVar 4)))
noncomputable def s2__law_endless : FnS := (sSeq (sFor (iR1 (aCons (eBin gAdd (eC (.int 1)) (eCall run__law_take 2 (some 0) (aCons (eVar 0) (aCons (eVar 1) aNil)))) aNil)) (gN 5) (sW [5] s3__law_endless)) (sW [1, 2, 3] s7__law_endless))
noncomputable def s1__law_endless : FnS := (sSeq (sAsg (eLst aNil) (gN 4)) s2__law_endless)
noncomputable def s0__law_endless : FnS := (sSeq (sAsg (eCall run__law_take 2 (some 0) (aCons (eVar 0) (aCons (eC (.int 5)) aNil))) (gN 3)) s1__law_endless)
noncomputable def f__law_endless : FnS := s0__law_endless
noncomputable def run__law_endless : FnR := runBody 9 f__law_endless
/-- need_endless (store) slots 0:store 1:kind -/
noncomputable def L1_need_endless : FnE := (eLc (iAny (eVar 0)) [1] (gN 1) tOk (eBin (g2 ixD) (eVar 1) (eC (.int 0))))
noncomputable def L2_need_endless : FnE := (eLc (iAny (eVar 0)) [1] (gN 1) tOk (eBin (gB isNotND) (eBin (g2 ixD) (eVar 1) (eC (.int 2))) (eC .none)))
noncomputable def s2_need_endless : FnS := (sRaise "TooMany")
noncomputable def s1_need_endless : FnS := (sIf (tst (eBin (gB gtD) (eUn (g1 maxD) L1_need_endless) (eC (.int 20)))) (sW [0] s2_need_endless) (sW [0] sNil))
noncomputable def s3_need_endless : FnS := (sRaise "NotEndless")
noncomputable def s0_need_endless : FnS := (sIf (fOr (tst (eBin (gB eqS) (eVar 0) (eTup aNil))) (tst (eUn (g1 anyD) L2_need_endless))) (sW [0] s3_need_endless) s1_need_endless)
noncomputable def f_need_endless : FnS := s0_need_endless
noncomputable def run_need_endless : FnR := runBody 2 f_need_endless
/-- is_from (thing, least) slots 0:thing 1:least -/
noncomputable def s0_is_from : FnS := (sRet (eAnd (eUn (g1 (isiD .int)) (eVar 0)) (eAnd (eNot (eUn (g1 (isiD .bool)) (eVar 0))) (eBin (gB geD) (eVar 0) (eVar 1)))))
noncomputable def f_is_from : FnS := s0_is_from
noncomputable def run_is_from : FnR := runBody 2 f_is_from
/-- is_kind (thing) slots 0:thing -/
noncomputable def s2_is_kind : FnS := (sRet (eOr (eBin (gB isND) (eBin (g2 ixD) (eVar 0) (eC (.int 2))) (eC .none)) (eCall run_is_from 2 none (aCons (eBin (g2 ixD) (eVar 0) (eC (.int 2))) (aCons (eC (.int 0)) aNil)))))
noncomputable def s3_is_kind : FnS := (sRet (eC (.bool false)))
noncomputable def s1_is_kind : FnS := (sIf (fOr (fNot (tst (eCall run_is_from 2 none (aCons (eBin (g2 ixD) (eVar 0) (eC (.int 0))) (aCons (eC (.int 1)) aNil))))) (fNot (tst (eCall run_is_from 2 none (aCons (eBin (g2 ixD) (eVar 0) (eC (.int 1))) (aCons (eC (.int 0)) aNil)))))) (sW [0] s3_is_kind) s2_is_kind)
noncomputable def s4_is_kind : FnS := (sRet (eC (.bool false)))
noncomputable def s0_is_kind : FnS := (sIf (fOr (fNot (tst (eUn (g1 (isiD .tuple)) (eVar 0)))) (tst (eBin (gB neS) (eUn (g1 lenD) (eVar 0)) (eC (.int 3))))) (sW [0] s4_is_kind) s1_is_kind)
noncomputable def f_is_kind : FnS := s0_is_kind
noncomputable def run_is_kind : FnR := runBody 1 f_is_kind
/-- is_store (thing) slots 0:thing 1:one -/
noncomputable def L1_is_store : FnE := (eLc (iAny (eVar 0)) [1] (gN 1) tOk (eCall run_is_kind 1 none (aCons (eVar 1) aNil)))
noncomputable def s0_is_store : FnS := (sRet (eAnd (eUn (g1 (isiD .tuple)) (eVar 0)) (eAnd (eBin (gB leD) (eUn (g1 lenD) (eVar 0)) (eC (.int 12))) (eUn (g1 allD) L1_is_store))))
noncomputable def f_is_store : FnS := s0_is_store
noncomputable def run_is_store : FnR := runBody 2 f_is_store
/-- need_store (store) slots 0:store -/
noncomputable def s1_need_store : FnS := (sRaise "NoStore")
noncomputable def s0_need_store : FnS := (sIf (fNot (tst (eCall run_is_store 1 none (aCons (eVar 0) aNil)))) (sW [0] s1_need_store) (sW [0] sNil))
noncomputable def f_need_store : FnS := s0_need_store
noncomputable def run_need_store : FnR := runBody 1 f_need_store
/-- common (one, other) slots 0:one 1:other -/
noncomputable def s1_common : FnS := (sSeq (sPar 0 1 (aCons (eVar 1) (aCons (eBin (g2 modD) (eVar 0) (eVar 1)) aNil))) sNil)
noncomputable def s2_common : FnS := (sRet (eVar 0))
noncomputable def s0_common : FnS := (sSeq (sWhile (tst (eBin (gB gtD) (eVar 1) (eC (.int 0)))) s1_common) (sW [1] s2_common))
noncomputable def f_common : FnS := s0_common
noncomputable def run_common : FnR := runBody 2 f_common
/-- never (store) slots 0:store 1:divisor 2:kind 3:weights 4:good 5:room 6:weight 7:told -/
noncomputable def L1_never : FnE := (eLc (iAny (eVar 0)) [2] (gN 2) tOk (eBin (g2 ixD) (eVar 2) (eC (.int 0))))
noncomputable def L2_never : FnE := (eLc (iAny (eVar 3)) [6] (gN 6) tOk (eAnd (eBin (gB leD) (eVar 6) (eVar 5)) (eBin (g2 ixD) (eVar 4) (eBin (g2 subD) (eVar 5) (eVar 6)))))
noncomputable def L3_never : FnE := (eLc (iEnu (aCons (eVar 4) aNil)) [5, 7] (gT (gsCons (gN 5) (gsCons (gN 7) gsNil))) (fNot (tst (eVar 7))) (eVar 5))
noncomputable def s2_never : FnS := (sSeq (sAsg (eCall run_common 2 none (aCons (eVar 1) (aCons (eBin (g2 ixD) (eVar 2) (eC (.int 0))) aNil))) (gN 1)) (sW [2] sNil))
noncomputable def s6_never : FnS := (sSeq (sExpr (eMet 4 (eUn (g1 anyD) L2_never) (outApp 4))) (sW [5] sNil))
noncomputable def s7_never : FnS := (sRet (eTup (aCons (eVar 1) (aCons L3_never aNil))))
noncomputable def s5_never : FnS := (sSeq (sFor (iR2 (aCons (eC (.int 1)) (aCons (eBin gAdd (eBin gMul (eUn (g1 minD) (eVar 3)) (eUn (g1 maxD) (eVar 3))) (eC (.int 1))) aNil))) (gN 5) s6_never) (sW [3] s7_never))
noncomputable def s4_never : FnS := (sSeq (sAsg (eLst (aCons (eC (.bool true)) aNil)) (gN 4)) s5_never)
noncomputable def s3_never : FnS := (sSeq (sAsg L1_never (gN 3)) (sW [0] s4_never))
noncomputable def s1_never : FnS := (sSeq (sFor (iAny (eVar 0)) (gN 2) s2_never) s3_never)
noncomputable def s0_never : FnS := (sSeq (sAsg (eC (.int 0)) (gN 1)) s1_never)
noncomputable def f_never : FnS := s0_never
noncomputable def run_never : FnR := runBody 8 f_never
/-- never_filled (store) slots 0:store 1:divisor 2:some -/
noncomputable def s4_never_filled : FnS := (sRet (eIf (tst (eBin (gB neS) (eVar 2) (eLst aNil))) (eTup (aCons (eC (.str "last")) (aCons (eBin (g2 ixD) (eVar 2) (eUn (g1 negD) (eC (.int 1)))) aNil))) (eTup (aCons (eC (.str "none")) aNil))))
noncomputable def s5_never_filled : FnS := (sRet (eTup (aCons (eC (.str "ever")) (aCons (eVar 1) aNil))))
noncomputable def s3_never_filled : FnS := (sIf (tst (eBin (gB gtD) (eVar 1) (eC (.int 1)))) (sW [2] s5_never_filled) (sW [1] s4_never_filled))
noncomputable def s2_never_filled : FnS := (sSeq (sAsg (eCallF run_never 1 none (aCons (eVar 0) aNil)) (gT (gsCons (gN 1) (gsCons (gN 2) gsNil)))) (sW [0] s3_never_filled))
noncomputable def s1_never_filled : FnS := (sSeq (sExpr (eCall run_need_endless 1 none (aCons (eVar 0) aNil))) s2_never_filled)
noncomputable def s0_never_filled : FnS := (sSeq (sExpr (eCall run_need_store 1 none (aCons (eVar 0) aNil))) s1_never_filled)
noncomputable def f_never_filled : FnS := s0_never_filled
noncomputable def run_never_filled : FnR := runBody 3 f_never_filled
/-- never_many (store) slots 0:store 1:divisor 2:some -/
noncomputable def s3_never_many : FnS := (sRet (eIf (tst (eBin (gB gtD) (eVar 1) (eC (.int 1)))) (eC .none) (eUn (g1 lenD) (eVar 2))))
noncomputable def s2_never_many : FnS := (sSeq (sAsg (eCallF run_never 1 none (aCons (eVar 0) aNil)) (gT (gsCons (gN 1) (gsCons (gN 2) gsNil)))) (sW [0] s3_never_many))
noncomputable def s1_never_many : FnS := (sSeq (sExpr (eCall run_need_endless 1 none (aCons (eVar 0) aNil))) s2_never_many)
noncomputable def s0_never_many : FnS := (sSeq (sExpr (eCall run_need_store 1 none (aCons (eVar 0) aNil))) s1_never_many)
noncomputable def f_never_many : FnS := s0_never_many
noncomputable def run_never_many : FnR := runBody 3 f_never_many
/-- law (script) slots 0:script 1:k 2:box 3:by 4:store 5:due 6:many 7:heft 8:gain 9:most 10:kind -/
noncomputable def L1_law : FnE := (eLc (iAny (eVar 4)) [7, 8, 9] (gT (gsCons (gN 7) (gsCons (gN 8) (gsCons (gN 9) gsNil)))) tOk (eTup (aCons (eBin gMul (eVar 7) (eVar 3)) (aCons (eVar 8) (aCons (eVar 9) aNil)))))
noncomputable def L2_law : FnE := (eLc (iAny (eVar 4)) [10] (gN 10) tOk (eBin (g2 ixD) (eVar 10) (eC (.int 0))))
noncomputable def s7_law : FnS := (sRet (eC (.bool false)))
noncomputable def s6_law : FnS := (sIf (fOr (tst (eBin (gB neS) (eUn (g1 reprD) (eCall run_never_filled 1 none (aCons (eVar 4) aNil))) (eUn (g1 reprD) (eVar 5)))) (tst (eBin (gB neS) (eUn (g1 reprD) (eCall run_never_many 1 none (aCons (eVar 4) aNil))) (eUn (g1 reprD) (eVar 6))))) (sW [0, 4, 5, 6] s7_law) (sW [4, 5, 6] sNil))
noncomputable def s5_law : FnS := (sSeq (sAsg (eCall run__law_due 1 none (aCons L2_law aNil)) (gT (gsCons (gN 5) (gsCons (gN 6) gsNil)))) s6_law)
noncomputable def s4_law : FnS := (sSeq (sAsg (eUn (g1 tupleD) L1_law) (gN 4)) (sW [3] s5_law))
noncomputable def s3_law : FnS := (sSeq (sAsg (eCall run__law_endless 3 (some 0) (aCons (eVar 2) (aCons (eC (.int 5)) (aCons (eBin (g2 fdivD) (eBin (g2 ixD) (eLst (aCons (eC (.int 9)) (aCons (eC (.int 9)) (aCons (eC (.int 9)) (aCons (eC (.int 9)) (aCons (eC (.int 9)) (aCons (eC (.int 4)) (aCons (eC (.int 5)) (aCons (eBin gMul (eC (.int 10)) (eC (.int 2))) aNil))))))))) (eCall run__law_take 2 (some 0) (aCons (eVar 2) (aCons (eC (.int 8)) aNil)))) (eVar 3)) aNil)))) (gN 4)) (sW [2] s4_law))
noncomputable def s2_law : FnS := (sSeq (sAsg (eBin (g2 ixD) (eLst (aCons (eC (.int 1)) (aCons (eC (.int 1)) (aCons (eC (.int 1)) (aCons (eC (.int 2)) aNil))))) (eCall run__law_take 2 (some 0) (aCons (eVar 2) (aCons (eC (.int 4)) aNil)))) (gN 3)) s3_law)
noncomputable def s1_law : FnS := (sSeq (sAsg (eCall run__law_box 2 none (aCons (eVar 0) (aCons (eVar 1) aNil))) (gN 2)) (sW [1] s2_law))
noncomputable def s8_law : FnS := (sRet (eC (.bool true)))
noncomputable def s0_law : FnS := (sSeq (sFor (iR1 (aCons (eBin (g2 max2D) (eC (.int 1)) (eBin (g2 min2D) (eUn (g1 lenD) (eVar 0)) (eC (.int 4)))) aNil)) (gN 1) s1_law) (sW [0] s8_law))
noncomputable def f_law : FnS := s0_law
noncomputable def run_law : FnR := runBody 11 f_law
end Lw_k53

namespace Lw_k53
open PySem PySem.Spec L2 FL
/-! _law_box -/
@[simp] noncomputable def t9__law_box (v_here : Int) : (List Int) := ([(v_here / (2 : Int))] : List Int)
theorem w9__law_box (v_here : Int) : srVal (s9__law_box [none, none, some (.fz (PyData.int v_here)), none, none, none]) = (fun (t : (List Int)) => Rs.ok ((dL PyData.int) t)) (t9__law_box v_here) := by
  unfold s9__law_box t9__law_box
  exact (k_ret (r_lst PyData.int ([(v_here / (2 : Int))] : List Int) (r_cons (r_opd (r_bin (r_opd (r_var (i := 2) rfl)) (r_opd r_c) (q_g2 rfl rfl (z_fdiv (by decide +kernel))))) r_nil) rfl rfl) rfl)
@[reducible] def E4__law_box (v_here : Int) : (Int) → Ga := fun s => [none, none, some (.fz (PyData.int v_here)), some (.fz (PyData.int s)), none, none]
@[simp] noncomputable def t7__law_box (v_here : Int) (v_number : Int) (v_part : Int) : (Int) := (((v_number * (2147483647 : Int)) + ((v_part * (v_part + (13 : Int))) % (2147483647 : Int))))
@[simp] def o7__law_box (v_here : Int) (v_number : Int) (v_part : Int) : Prop := (mulOk v_number (2147483647 : Int) = true) ∧ (mulOk v_part (v_part + (13 : Int)) = true) ∧ True
theorem w7__law_box (v_here : Int) (v_number : Int) (v_part : Int) (h : o7__law_box v_here v_number v_part) : srNx (s7__law_box [none, none, some (.fz (PyData.int v_here)), some (.fz (PyData.int v_number)), none, some (.fz (PyData.int v_part))]) = (fun (t : (Int)) => Rs.ok ((E4__law_box v_here) t)) (t7__law_box v_here v_number v_part) := by
  unfold o7__law_box at h
  unfold s7__law_box t7__law_box
  exact (k_asg (r_bin (r_opd (r_bin (r_opd (r_var (i := 3) rfl)) (r_opd r_c) (q_mulI (h.1)))) (r_opd (r_bin (r_opd (r_bin (r_opd (r_var (i := 5) rfl)) (r_opd (r_bin (r_opd (r_var (i := 5) rfl)) (r_opd r_c) q_addI)) (q_mulI (h.2.1)))) (r_opd r_c) (q_g2 rfl rfl (z_mod (by decide))))) q_addI) (g_fz rfl) (k_w rfl rfl))
@[simp] noncomputable def t6__law_box (v_here : Int) (v_number : Int) (v_part : Int) : (Int) := (t7__law_box v_here v_number ((v_part * v_part) % (2147483629 : Int)))
@[simp] def o6__law_box (v_here : Int) (v_number : Int) (v_part : Int) : Prop := (mulOk v_part v_part = true) ∧ (o7__law_box v_here v_number ((v_part * v_part) % (2147483629 : Int)))
theorem w6__law_box (v_here : Int) (v_number : Int) (v_part : Int) (h : o6__law_box v_here v_number v_part) : srNx (s6__law_box [none, none, some (.fz (PyData.int v_here)), some (.fz (PyData.int v_number)), none, some (.fz (PyData.int v_part))]) = (fun (t : (Int)) => Rs.ok ((E4__law_box v_here) t)) (t6__law_box v_here v_number v_part) := by
  unfold o6__law_box at h
  unfold s6__law_box t6__law_box
  exact (k_asg (r_bin (r_opd (r_bin (r_opd (r_var (i := 5) rfl)) (r_opd (r_var (i := 5) rfl)) (q_mulI (h.1)))) (r_opd r_c) (q_g2 rfl rfl (z_mod (by decide)))) (g_fz rfl) (w7__law_box v_here v_number ((v_part * v_part) % (2147483629 : Int)) h.2))
@[simp] noncomputable def t5__law_box (v_here : Int) (v_number : Int) (v_j : Int) : (Int) := (t6__law_box v_here v_number (((((v_here % (2147483647 : Int)) * (48271 : Int)) + ((7919 : Int) * v_j)) + (1 : Int)) % (2147483647 : Int)))
@[simp] def o5__law_box (v_here : Int) (v_number : Int) (v_j : Int) : Prop := (mulOk (v_here % (2147483647 : Int)) (48271 : Int) = true) ∧ (mulOk (7919 : Int) v_j = true) ∧ (o6__law_box v_here v_number (((((v_here % (2147483647 : Int)) * (48271 : Int)) + ((7919 : Int) * v_j)) + (1 : Int)) % (2147483647 : Int)))
theorem w5__law_box (v_here : Int) (v_number : Int) (v_j : Int) (h : o5__law_box v_here v_number v_j) : srNx (s5__law_box [none, none, some (.fz (PyData.int v_here)), some (.fz (PyData.int v_number)), some (.fz (PyData.int v_j)), none]) = (fun (t : (Int)) => Rs.ok ((E4__law_box v_here) t)) (t5__law_box v_here v_number v_j) := by
  unfold o5__law_box at h
  unfold s5__law_box t5__law_box
  exact (k_asg (r_bin (r_opd (r_bin (r_opd (r_bin (r_opd (r_bin (r_opd (r_bin (r_opd (r_var (i := 2) rfl)) (r_opd r_c) (q_g2 rfl rfl (z_mod (by decide))))) (r_opd r_c) (q_mulI (h.1)))) (r_opd (r_bin (r_opd r_c) (r_opd (r_var (i := 4) rfl)) (q_mulI (h.2.1)))) q_addI)) (r_opd r_c) q_addI)) (r_opd r_c) (q_g2 rfl rfl (z_mod (by decide)))) (g_fz rfl) (k_w rfl (w6__law_box v_here v_number (((((v_here % (2147483647 : Int)) * (48271 : Int)) + ((7919 : Int) * v_j)) + (1 : Int)) % (2147483647 : Int)) h.2.2)))
@[simp] noncomputable def t8__law_box (v_number : Int) : (List Int) := ([v_number] : List Int)
theorem w8__law_box (v_number : Int) : srVal (s8__law_box [none, none, none, some (.fz (PyData.int v_number)), none, none]) = (fun (t : (List Int)) => Rs.ok ((dL PyData.int) t)) (t8__law_box v_number) := by
  unfold s8__law_box t8__law_box
  exact (k_ret (r_lst PyData.int ([v_number] : List Int) (r_cons (r_opd (r_var (i := 3) rfl)) r_nil) rfl rfl) rfl)
@[simp] noncomputable def t4__law_box (v_here : Int) (v_number : Int) : (List Int) := (let s6 := (List.foldl (fun (s3 : (Int)) (x4 : Int) => (t5__law_box v_here s3 x4)) (v_number) (rngI 0 (16 : Int))); (t8__law_box s6))
@[simp] def o4__law_box (v_here : Int) (v_number : Int) : Prop := (okF (fun (s3 : (Int)) (x4 : Int) => (o5__law_box v_here s3 x4)) (fun (s3 : (Int)) (x4 : Int) => (t5__law_box v_here s3 x4)) (rngI 0 (16 : Int)) (v_number) ∧ True)
theorem w4__law_box (v_here : Int) (v_number : Int) (h : o4__law_box v_here v_number) : srVal (s4__law_box [none, none, some (.fz (PyData.int v_here)), some (.fz (PyData.int v_number)), none, none]) = (fun (t : (List Int)) => Rs.ok ((dL PyData.int) t)) (t4__law_box v_here v_number) := by
  unfold o4__law_box at h
  unfold s4__law_box t4__law_box
  exact (k_for (E4__law_box v_here) (fun (s3 : (Int)) (x4 : Int) => (t5__law_box v_here s3 x4)) (fun (s3 : (Int)) (x4 : Int) => (o5__law_box v_here s3 x4)) (v_number) (r_iR1 (r_cons (r_opd r_c) r_nil) (by decide)) rfl (fun s3 x4 hx5 => ⟨_, (g_fz rfl), (w5__law_box v_here s3 x4 hx5)⟩) h.1 (k_w rfl (w8__law_box (List.foldl (fun (s3 : (Int)) (x4 : Int) => (t5__law_box v_here s3 x4)) (v_number) (rngI 0 (16 : Int))))))
@[simp] noncomputable def t3__law_box (v_here : Int) : (List Int) := (t4__law_box v_here (0 : Int))
@[simp] def o3__law_box (v_here : Int) : Prop := (o4__law_box v_here (0 : Int))
theorem w3__law_box (v_here : Int) (h : o3__law_box v_here) : srVal (s3__law_box [none, none, some (.fz (PyData.int v_here)), none, none, none]) = (fun (t : (List Int)) => Rs.ok ((dL PyData.int) t)) (t3__law_box v_here) := by
  unfold o3__law_box at h
  unfold s3__law_box t3__law_box
  exact (k_asg r_c (g_fz rfl) (w4__law_box v_here (0 : Int) h))
@[simp] noncomputable def t2__law_box (v_here : Int) : (List Int) := (if (decide ((v_here % (2 : Int)) = (0 : Int))) then (t9__law_box v_here) else (t3__law_box v_here))
@[simp] def o2__law_box (v_here : Int) : Prop := (((decide ((v_here % (2 : Int)) = (0 : Int))) = true → True) ∧ ((decide ((v_here % (2 : Int)) = (0 : Int))) = false → (o3__law_box v_here)))
theorem w2__law_box (v_here : Int) (h : o2__law_box v_here) : srVal (s2__law_box [none, none, some (.fz (PyData.int v_here)), none, none, none]) = (fun (t : (List Int)) => Rs.ok ((dL PyData.int) t)) (t2__law_box v_here) := by
  unfold o2__law_box at h
  unfold s2__law_box t2__law_box
  exact (k_if (mk := (fun (t : (List Int)) => Rs.ok ((dL PyData.int) t))) (r_tst (r_bin (r_opd (r_bin (r_opd (r_var (i := 2) rfl)) (r_opd r_c) (q_g2 rfl rfl (z_mod (by decide))))) (r_opd r_c) (q_gB (x := PyData.int (v_here % (2 : Int))) (y := PyData.int (0 : Int)) rfl rfl (z_eq (e := PyData.int) (a := (v_here % (2 : Int))) (b := (0 : Int)) eq_int sh_int rfl)))) (fun q2 => (w9__law_box v_here)) (fun q2 => (w3__law_box v_here (h.2 q2))))
@[simp] noncomputable def t10__law_box (v_script : (List Int)) (v_k : Int) : (List Int) := (t2__law_box (gI v_script v_k))
@[simp] def o10__law_box (v_script : (List Int)) (v_k : Int) : Prop := ((0 ≤ v_k ∧ v_k < (List.length v_script : Int))) ∧ (o2__law_box (gI v_script v_k))
theorem w10__law_box (v_script : (List Int)) (v_k : Int) (h : o10__law_box v_script v_k) : srVal (s10__law_box [some (.scr v_script), some (.fz (PyData.int v_k)), none, none, none, none]) = (fun (t : (List Int)) => Rs.ok ((dL PyData.int) t)) (t10__law_box v_script v_k) := by
  unfold o10__law_box at h
  unfold s10__law_box t10__law_box
  exact (k_asg (r_bin (r_ops (r_vsl (i := 0) rfl rfl)) (r_opd (r_var (i := 1) rfl)) (q_g2 rfl rfl (z_ixL (e := PyData.int) (h.1)))) (g_fz rfl) (k_w rfl (w2__law_box (gI v_script v_k) h.2)))
@[simp] noncomputable def t1__law_box (v_script : (List Int)) (v_k : Int) (v_here : Int) : (List Int) := (if (decide (v_k < (List.length v_script : Int))) then (t10__law_box v_script v_k) else (t2__law_box v_here))
@[simp] def o1__law_box (v_script : (List Int)) (v_k : Int) (v_here : Int) : Prop := (((decide (v_k < (List.length v_script : Int))) = true → (o10__law_box v_script v_k)) ∧ ((decide (v_k < (List.length v_script : Int))) = false → (o2__law_box v_here)))
theorem w1__law_box (v_script : (List Int)) (v_k : Int) (v_here : Int) (h : o1__law_box v_script v_k v_here) : srVal (s1__law_box [some (.scr v_script), some (.fz (PyData.int v_k)), some (.fz (PyData.int v_here)), none, none, none]) = (fun (t : (List Int)) => Rs.ok ((dL PyData.int) t)) (t1__law_box v_script v_k v_here) := by
  unfold o1__law_box at h
  unfold s1__law_box t1__law_box
  exact (k_if (mk := (fun (t : (List Int)) => Rs.ok ((dL PyData.int) t))) (r_tst (r_bin (r_opd (r_var (i := 1) rfl)) (r_opd (r_un (r_ops (r_vsl (i := 0) rfl rfl)) (q_g1 rfl (z_lenL (e := PyData.int))))) (q_gB rfl rfl rfl))) (fun q1 => (k_w rfl (w10__law_box v_script v_k (h.1 q1)))) (fun q1 => (k_w rfl (w2__law_box v_here (h.2 q1)))))
@[simp] noncomputable def t0__law_box (v_script : (List Int)) (v_k : Int) : (List Int) := (t1__law_box v_script v_k (((7919 : Int) * v_k) + (13 : Int)))
@[simp] def o0__law_box (v_script : (List Int)) (v_k : Int) : Prop := (mulOk (7919 : Int) v_k = true) ∧ (o1__law_box v_script v_k (((7919 : Int) * v_k) + (13 : Int)))
theorem w0__law_box (v_script : (List Int)) (v_k : Int) (h : o0__law_box v_script v_k) : srVal (s0__law_box [some (.scr v_script), some (.fz (PyData.int v_k)), none, none, none, none]) = (fun (t : (List Int)) => Rs.ok ((dL PyData.int) t)) (t0__law_box v_script v_k) := by
  unfold o0__law_box at h
  unfold s0__law_box t0__law_box
  exact (k_asg (r_bin (r_opd (r_bin (r_opd r_c) (r_opd (r_var (i := 1) rfl)) (q_mulI (h.1)))) (r_opd r_c) q_addI) (g_fz rfl) (w1__law_box v_script v_k (((7919 : Int) * v_k) + (13 : Int)) h.2))
noncomputable def t__law_box (v_script : (List Int)) (v_k : Int) : (List Int) := (t0__law_box v_script v_k)
def o__law_box (v_script : (List Int)) (v_k : Int) : Prop := (o0__law_box v_script v_k)
theorem v__law_box (v_script : (List Int)) (v_k : Int) (h : o__law_box v_script v_k) : (run__law_box [(.scr v_script), (.fz (PyData.int v_k))]).val = (fun (t : (List Int)) => Rs.ok ((dL PyData.int) t)) (t__law_box v_script v_k) := by
  unfold run__law_box f__law_box t__law_box
  rw [run_val]
  exact (w0__law_box v_script v_k h)
/-! _law_divisor -/
@[reducible] def E1__law_divisor : (Int × Int) → Ga := fun s => [some (.fz (PyData.int (s).1)), some (.fz (PyData.int (s).2))]
@[simp] noncomputable def t2__law_divisor (v_one : Int) (v_other : Int) : (Int × Int) := (v_other, (v_one % v_other))
@[simp] def o2__law_divisor (v_one : Int) (v_other : Int) : Prop := (0 < v_other) ∧ True
theorem w2__law_divisor (v_one : Int) (v_other : Int) (h : o2__law_divisor v_one v_other) : srNx (s2__law_divisor [some (.fz (PyData.int v_one)), some (.fz (PyData.int v_other))]) = (fun (t : (Int × Int)) => Rs.ok ((E1__law_divisor) t)) (t2__law_divisor v_one v_other) := by
  unfold o2__law_divisor at h
  unfold s2__law_divisor t2__law_divisor
  exact (k_par (r_cons (r_opd (r_var (i := 1) rfl)) (r_cons (r_opd (r_bin (r_opd (r_var (i := 0) rfl)) (r_opd (r_var (i := 1) rfl)) (q_g2 rfl rfl (z_mod (h.1))))) r_nil)) rfl rfl rfl)
@[simp] noncomputable def t3__law_divisor (v_one : Int) : Int := v_one
theorem w3__law_divisor (v_one : Int) : srVal (s3__law_divisor [some (.fz (PyData.int v_one)), none]) = (fun (t : Int) => Rs.ok (PyData.int t)) (t3__law_divisor v_one) := by
  unfold s3__law_divisor t3__law_divisor
  exact (k_ret (r_var (i := 0) rfl) rfl)
@[simp] noncomputable def t1__law_divisor (v_one : Int) (v_other : Int) : Int := (let s4 := ((whl (fun (s1 : (Int × Int)) => (decide ((0 : Int) < (s1).2))) (fun (s1 : (Int × Int)) => (t2__law_divisor (s1).1 (s1).2)) (v_other.natAbs + 1) (v_one, v_other)).getD (v_one, v_other)); (t3__law_divisor (s4).1))
@[simp] def o1__law_divisor (v_one : Int) (v_other : Int) : Prop := (okW (fun (s1 : (Int × Int)) => (decide ((0 : Int) < (s1).2))) (fun (s1 : (Int × Int)) => (t2__law_divisor (s1).1 (s1).2)) (fun (s1 : (Int × Int)) => ((decide ((0 : Int) < (s1).2)) = true → (o2__law_divisor (s1).1 (s1).2))) (v_other.natAbs + 1) (v_one, v_other) ∧ (whl (fun (s1 : (Int × Int)) => (decide ((0 : Int) < (s1).2))) (fun (s1 : (Int × Int)) => (t2__law_divisor (s1).1 (s1).2)) (v_other.natAbs + 1) (v_one, v_other)).isSome = true ∧ True)
theorem w1__law_divisor (v_one : Int) (v_other : Int) (h : o1__law_divisor v_one v_other) : srVal (s1__law_divisor [some (.fz (PyData.int v_one)), some (.fz (PyData.int v_other))]) = (fun (t : Int) => Rs.ok (PyData.int t)) (t1__law_divisor v_one v_other) := by
  unfold o1__law_divisor at h
  unfold s1__law_divisor t1__law_divisor
  exact (k_while (E1__law_divisor) (fun (s1 : (Int × Int)) => (decide ((0 : Int) < (s1).2))) (fun (s1 : (Int × Int)) => (t2__law_divisor (s1).1 (s1).2)) (fun (s1 : (Int × Int)) => ((decide ((0 : Int) < (s1).2)) = true → (o2__law_divisor (s1).1 (s1).2))) (v_other.natAbs + 1) (v_one, v_other) rfl (fun s1 hx2 => (r_tst (r_bin (r_opd (r_var (i := 1) rfl)) (r_opd r_c) (q_gB rfl rfl rfl)))) (fun s1 hx2 q3 => (w2__law_divisor (s1).1 (s1).2 (hx2 q3))) h.1 h.2.1 (k_w rfl (w3__law_divisor (((whl (fun (s1 : (Int × Int)) => (decide ((0 : Int) < (s1).2))) (fun (s1 : (Int × Int)) => (t2__law_divisor (s1).1 (s1).2)) (v_other.natAbs + 1) (v_one, v_other)).getD (v_one, v_other))).1)))
@[simp] noncomputable def t0__law_divisor (v_one : Int) (v_other : Int) : Int := (t1__law_divisor (absI v_one) (absI v_other))
@[simp] def o0__law_divisor (v_one : Int) (v_other : Int) : Prop := (o1__law_divisor (absI v_one) (absI v_other))
theorem w0__law_divisor (v_one : Int) (v_other : Int) (h : o0__law_divisor v_one v_other) : srVal (s0__law_divisor [some (.fz (PyData.int v_one)), some (.fz (PyData.int v_other))]) = (fun (t : Int) => Rs.ok (PyData.int t)) (t0__law_divisor v_one v_other) := by
  unfold o0__law_divisor at h
  unfold s0__law_divisor t0__law_divisor
  exact (k_par (r_cons (r_opd (r_un (r_opd (r_var (i := 0) rfl)) (q_g1 rfl rfl))) (r_cons (r_opd (r_un (r_opd (r_var (i := 1) rfl)) (q_g1 rfl rfl))) r_nil)) rfl rfl (w1__law_divisor (absI v_one) (absI v_other) h))
noncomputable def t__law_divisor (v_one : Int) (v_other : Int) : Int := (t0__law_divisor v_one v_other)
def o__law_divisor (v_one : Int) (v_other : Int) : Prop := (o0__law_divisor v_one v_other)
theorem v__law_divisor (v_one : Int) (v_other : Int) (h : o__law_divisor v_one v_other) : (run__law_divisor [(.fz (PyData.int v_one)), (.fz (PyData.int v_other))]).val = (fun (t : Int) => Rs.ok (PyData.int t)) (t__law_divisor v_one v_other) := by
  unfold run__law_divisor f__law_divisor t__law_divisor
  rw [run_val]
  exact (w0__law_divisor v_one v_other h)
/-! _law_due -/
@[reducible] def E1__law_due (v_weights : (List Int)) : (Int) → Ga := fun s => [some (.fz ((dL PyData.int) v_weights)), some (.fz (PyData.int s)), none, none, none, none]
@[simp] noncomputable def t2__law_due (v_weights : (List Int)) (v_divides : Int) (v_heft : Int) : (Int) := ((t__law_divisor v_divides v_heft))
@[simp] def o2__law_due (v_weights : (List Int)) (v_divides : Int) (v_heft : Int) : Prop := (o__law_divisor v_divides v_heft) ∧ True
theorem w2__law_due (v_weights : (List Int)) (v_divides : Int) (v_heft : Int) (h : o2__law_due v_weights v_divides v_heft) : srNx (s2__law_due [some (.fz ((dL PyData.int) v_weights)), some (.fz (PyData.int v_divides)), some (.fz (PyData.int v_heft)), none, none, none]) = (fun (t : (Int)) => Rs.ok ((E1__law_due v_weights) t)) (t2__law_due v_weights v_divides v_heft) := by
  unfold o2__law_due at h
  unfold s2__law_due t2__law_due
  exact (k_asg (r_call (r_cons (r_opd (r_var (i := 1) rfl)) (r_cons (r_opd (r_var (i := 2) rfl)) r_nil)) rfl rfl (v__law_divisor v_divides v_heft (h.1)) (nl_int (t__law_divisor v_divides v_heft))) (g_fz rfl) (k_w rfl rfl))
@[simp] noncomputable def t9__law_due (v_divides : Int) : (D × (Option Int)) := (((dP2 PyData.str PyData.int) (("ever" : Str), v_divides)), (none : (Option Int)))
theorem w9__law_due (v_divides : Int) : srVal (s9__law_due [none, some (.fz (PyData.int v_divides)), none, none, none, none]) = (fun (t : (D × (Option Int))) => Rs.ok ((dP2 dA (dO PyData.int)) t)) (t9__law_due v_divides) := by
  unfold s9__law_due t9__law_due
  exact (k_ret (r_conv (d' := (dP2 dA (dO PyData.int)) (((dP2 PyData.str PyData.int) (("ever" : Str), v_divides)), (none : (Option Int)))) (r_tup (r_cons (r_opd (r_conv (d' := dA ((dP2 PyData.str PyData.int) (("ever" : Str), v_divides))) (r_conv (d' := (dP2 PyData.str PyData.int) (("ever" : Str), v_divides)) (r_tup (r_cons (r_opd r_c) (r_cons (r_opd (r_var (i := 1) rfl)) r_nil)) rfl rfl) (by rfl)) (by rfl))) (r_cons (r_opd (r_conv (d' := (dO PyData.int) (none : (Option Int))) r_c (by rfl))) r_nil)) rfl rfl) (by rfl)) rfl)
@[reducible] def E5__law_due (v_weights : (List Int)) : ((List Bool)) → Ga := fun s => [some (.fz ((dL PyData.int) v_weights)), none, none, some (.ow (List.map PyData.bool s)), none, none]
@[simp] noncomputable def t6__law_due (v_weights : (List Int)) (v_good : (List Bool)) (v_room : Int) : ((List Bool)) := ((v_good ++ [(memB true (List.map (fun (x9 : Int) => (gI v_good (v_room - x9))) (List.filter (fun (x9 : Int) => (decide (x9 ≤ v_room))) v_weights)))]))
@[simp] def o6__law_due (v_weights : (List Int)) (v_good : (List Bool)) (v_room : Int) : Prop := (List.length v_weights ≤ 16777216) ∧ ((∀ x9 : Int, x9 ∈ v_weights → (((decide (x9 ≤ v_room)) = true) → (0 ≤ (v_room - x9) ∧ (v_room - x9) < (List.length v_good : Int))) ∧ True)) ∧ (List.length v_good < 16777216) ∧ True
theorem w6__law_due (v_weights : (List Int)) (v_good : (List Bool)) (v_room : Int) (h : o6__law_due v_weights v_good v_room) : srNx (s6__law_due [some (.fz ((dL PyData.int) v_weights)), none, none, some (.ow (List.map PyData.bool v_good)), some (.fz (PyData.int v_room)), none]) = (fun (t : ((List Bool))) => Rs.ok ((E5__law_due v_weights) t)) (t6__law_due v_weights v_good v_room) := by
  unfold o6__law_due at h
  unfold s6__law_due t6__law_due
  exact (k_expr (r_app (e := PyData.bool) (l := v_good) (v := (memB true (List.map (fun (x9 : Int) => (gI v_good (v_room - x9))) (List.filter (fun (x9 : Int) => (decide (x9 ≤ v_room))) v_weights)))) (r_opd (r_bin (r_opd r_c) (r_opw (r_lc PyData.bool (fun (x9 : Int) => (decide (x9 ≤ v_room))) (fun (x9 : Int) => (gI v_good (v_room - x9))) (r_iL (r_opd (r_var (i := 0) rfl)) rfl rfl) rfl rfl rfl (h.1) (fun x9 hx10 => ⟨_, (g_fz rfl), (r_tst (r_bin (r_opd (r_var (i := 2) rfl)) (r_opd (r_var (i := 4) rfl)) (q_gB rfl rfl rfl))), (fun q11 => ⟨_, _, _, (r_bin (r_ops (r_vsl (i := 3) rfl rfl)) (r_opd (r_bin (r_opd (r_var (i := 4) rfl)) (r_opd (r_var (i := 2) rfl)) (q_g2 rfl rfl rfl))) (q_g2 rfl rfl (z_ixL (e := PyData.bool) ((h.2.1 x9 hx10).1 q11)))), rfl, rfl⟩), (fun _ => rfl)⟩))) (q_gB (x := PyData.bool true) rfl rfl (z_inL (e := PyData.bool) (a := true) (l := (List.map (fun (x9 : Int) => (gI v_good (v_room - x9))) (List.filter (fun (x9 : Int) => (decide (x9 ≤ v_room))) v_weights))) eq_bool sh_bool rfl)))) rfl rfl rfl (h.2.2.1)) (k_w rfl rfl))
@[simp] noncomputable def t8__law_due (v_some : (List Int)) : (D × (Option Int)) := ((if (!decide (v_some = ([] : List Int))) then ((dP2 PyData.str PyData.int) (("last" : Str), (lastI v_some))) else ((dP1 PyData.str) ("none" : Str))), (some (List.length v_some : Int)))
@[simp] def o8__law_due (v_some : (List Int)) : Prop := (((!decide (v_some = ([] : List Int))) = true) → v_some ≠ []) ∧ True
theorem w8__law_due (v_some : (List Int)) (h : o8__law_due v_some) : srVal (s8__law_due [none, none, none, none, none, some (.ow (List.map PyData.int v_some))]) = (fun (t : (D × (Option Int))) => Rs.ok ((dP2 dA (dO PyData.int)) t)) (t8__law_due v_some) := by
  unfold o8__law_due at h
  unfold s8__law_due t8__law_due
  exact (k_ret (r_conv (d' := (dP2 dA (dO PyData.int)) ((if (!decide (v_some = ([] : List Int))) then ((dP2 PyData.str PyData.int) (("last" : Str), (lastI v_some))) else ((dP1 PyData.str) ("none" : Str))), (some (List.length v_some : Int)))) (r_tup (r_cons (r_opd (r_eif (e := dA) (r_tst (r_bin (r_ops (r_vsl (i := 5) rfl rfl)) (r_opw (r_lst PyData.int ([] : List Int) r_nil rfl rfl)) (q_gB (x := (dL PyData.int) v_some) (y := (dL PyData.int) ([] : List Int)) rfl rfl (z_ne (e := (dL PyData.int)) (a := v_some) (b := ([] : List Int)) (eq_L eq_int) (sh_L sh_int) rfl)))) (fun q16 => (r_conv (d' := dA ((dP2 PyData.str PyData.int) (("last" : Str), (lastI v_some)))) (r_conv (d' := (dP2 PyData.str PyData.int) (("last" : Str), (lastI v_some))) (r_tup (r_cons (r_opd r_c) (r_cons (r_opd (r_bin (r_ops (r_vsl (i := 5) rfl rfl)) (r_opd (r_un (r_opd r_c) (q_g1 rfl rfl))) (q_g2 rfl rfl (z_laL (e := PyData.int) (h.1 q16))))) r_nil)) rfl rfl) (by rfl)) (by rfl))) (fun q16 => (r_conv (d' := dA ((dP1 PyData.str) ("none" : Str))) (r_conv (d' := (dP1 PyData.str) ("none" : Str)) (r_tup (r_cons (r_opd r_c) r_nil) rfl rfl) (by rfl)) (by rfl))))) (r_cons (r_opd (r_conv (d' := (dO PyData.int) (some (List.length v_some : Int))) (r_un (r_ops (r_vsl (i := 5) rfl rfl)) (q_g1 rfl (z_lenL (e := PyData.int)))) (by rfl))) r_nil)) rfl rfl) (by rfl)) rfl)
@[simp] noncomputable def t7__law_due (v_good : (List Bool)) : (D × (Option Int)) := (t8__law_due (List.map (fun (x13 : Int) => x13) (List.filter (fun (x13 : Int) => (!(gI v_good x13))) (rngI 0 (420 : Int)))))
@[simp] def o7__law_due (v_good : (List Bool)) : Prop := ((∀ x13 : Int, x13 ∈ (rngI 0 (420 : Int)) → ((0 ≤ x13 ∧ x13 < (List.length v_good : Int))) ∧ True)) ∧ (o8__law_due (List.map (fun (x13 : Int) => x13) (List.filter (fun (x13 : Int) => (!(gI v_good x13))) (rngI 0 (420 : Int)))))
theorem w7__law_due (v_good : (List Bool)) (h : o7__law_due v_good) : srVal (s7__law_due [none, none, none, some (.ow (List.map PyData.bool v_good)), none, none]) = (fun (t : (D × (Option Int))) => Rs.ok ((dP2 dA (dO PyData.int)) t)) (t7__law_due v_good) := by
  unfold o7__law_due at h
  unfold s7__law_due t7__law_due
  exact (k_asg (r_lc PyData.int (fun (x13 : Int) => (!(gI v_good x13))) (fun (x13 : Int) => x13) (r_iR1 (r_cons (r_opd r_c) r_nil) (by decide)) rfl rfl rfl (by decide +kernel) (fun x13 hx14 => ⟨_, (g_fz rfl), (r_fnot (r_tst (r_bin (r_ops (r_vsl (i := 3) rfl rfl)) (r_opd (r_var (i := 4) rfl)) (q_g2 rfl rfl (z_ixL (e := PyData.bool) ((h.1 x13 hx14).1)))))), (fun q15 => ⟨_, _, _, (r_var (i := 4) rfl), rfl, rfl⟩), (fun _ => rfl)⟩)) (g_ow rfl) (k_w rfl (w8__law_due (List.map (fun (x13 : Int) => x13) (List.filter (fun (x13 : Int) => (!(gI v_good x13))) (rngI 0 (420 : Int)))) h.2)))
@[simp] noncomputable def t5__law_due (v_weights : (List Int)) (v_good : (List Bool)) : (D × (Option Int)) := (let s12 := (List.foldl (fun (s6 : ((List Bool))) (x7 : Int) => (t6__law_due v_weights s6 x7)) (v_good) (rngI (1 : Int) (420 : Int))); (t7__law_due s12))
@[simp] def o5__law_due (v_weights : (List Int)) (v_good : (List Bool)) : Prop := ((rgOk (1 : Int) = true ∧ rgOk (420 : Int) = true)) ∧ (okF (fun (s6 : ((List Bool))) (x7 : Int) => (o6__law_due v_weights s6 x7)) (fun (s6 : ((List Bool))) (x7 : Int) => (t6__law_due v_weights s6 x7)) (rngI (1 : Int) (420 : Int)) (v_good) ∧ (let s12 := (List.foldl (fun (s6 : ((List Bool))) (x7 : Int) => (t6__law_due v_weights s6 x7)) (v_good) (rngI (1 : Int) (420 : Int))); (o7__law_due s12)))
theorem w5__law_due (v_weights : (List Int)) (v_good : (List Bool)) (h : o5__law_due v_weights v_good) : srVal (s5__law_due [some (.fz ((dL PyData.int) v_weights)), none, none, some (.ow (List.map PyData.bool v_good)), none, none]) = (fun (t : (D × (Option Int))) => Rs.ok ((dP2 dA (dO PyData.int)) t)) (t5__law_due v_weights v_good) := by
  unfold o5__law_due at h
  unfold s5__law_due t5__law_due
  exact (k_for (E5__law_due v_weights) (fun (s6 : ((List Bool))) (x7 : Int) => (t6__law_due v_weights s6 x7)) (fun (s6 : ((List Bool))) (x7 : Int) => (o6__law_due v_weights s6 x7)) (v_good) (r_iR2 (r_cons (r_opd r_c) (r_cons (r_opd r_c) r_nil)) (h.1)) rfl (fun s6 x7 hx8 => ⟨_, (g_fz rfl), (w6__law_due v_weights s6 x7 hx8)⟩) h.2.1 (k_w rfl (w7__law_due (List.foldl (fun (s6 : ((List Bool))) (x7 : Int) => (t6__law_due v_weights s6 x7)) (v_good) (rngI (1 : Int) (420 : Int))) h.2.2)))
@[simp] noncomputable def t4__law_due (v_weights : (List Int)) : (D × (Option Int)) := (t5__law_due v_weights ([true] : List Bool))
@[simp] def o4__law_due (v_weights : (List Int)) : Prop := (o5__law_due v_weights ([true] : List Bool))
theorem w4__law_due (v_weights : (List Int)) (h : o4__law_due v_weights) : srVal (s4__law_due [some (.fz ((dL PyData.int) v_weights)), none, none, none, none, none]) = (fun (t : (D × (Option Int))) => Rs.ok ((dP2 dA (dO PyData.int)) t)) (t4__law_due v_weights) := by
  unfold o4__law_due at h
  unfold s4__law_due t4__law_due
  exact (k_asg (r_lst PyData.bool ([true] : List Bool) (r_cons (r_opd r_c) r_nil) rfl rfl) (g_ow rfl) (w5__law_due v_weights ([true] : List Bool) h))
@[simp] noncomputable def t3__law_due (v_weights : (List Int)) (v_divides : Int) : (D × (Option Int)) := (if (decide ((1 : Int) < v_divides)) then (t9__law_due v_divides) else (t4__law_due v_weights))
@[simp] def o3__law_due (v_weights : (List Int)) (v_divides : Int) : Prop := (((decide ((1 : Int) < v_divides)) = true → True) ∧ ((decide ((1 : Int) < v_divides)) = false → (o4__law_due v_weights)))
theorem w3__law_due (v_weights : (List Int)) (v_divides : Int) (h : o3__law_due v_weights v_divides) : srVal (s3__law_due [some (.fz ((dL PyData.int) v_weights)), some (.fz (PyData.int v_divides)), none, none, none, none]) = (fun (t : (D × (Option Int))) => Rs.ok ((dP2 dA (dO PyData.int)) t)) (t3__law_due v_weights v_divides) := by
  unfold o3__law_due at h
  unfold s3__law_due t3__law_due
  exact (k_if (mk := (fun (t : (D × (Option Int))) => Rs.ok ((dP2 dA (dO PyData.int)) t))) (r_tst (r_bin (r_opd (r_var (i := 1) rfl)) (r_opd r_c) (q_gB rfl rfl rfl))) (fun q5 => (k_w rfl (w9__law_due v_divides))) (fun q5 => (k_w rfl (w4__law_due v_weights (h.2 q5)))))
@[simp] noncomputable def t1__law_due (v_weights : (List Int)) (v_divides : Int) : (D × (Option Int)) := (let s4 := (List.foldl (fun (s1 : (Int)) (x2 : Int) => (t2__law_due v_weights s1 x2)) (v_divides) v_weights); (t3__law_due v_weights s4))
@[simp] def o1__law_due (v_weights : (List Int)) (v_divides : Int) : Prop := (okF (fun (s1 : (Int)) (x2 : Int) => (o2__law_due v_weights s1 x2)) (fun (s1 : (Int)) (x2 : Int) => (t2__law_due v_weights s1 x2)) v_weights (v_divides) ∧ (let s4 := (List.foldl (fun (s1 : (Int)) (x2 : Int) => (t2__law_due v_weights s1 x2)) (v_divides) v_weights); (o3__law_due v_weights s4)))
theorem w1__law_due (v_weights : (List Int)) (v_divides : Int) (h : o1__law_due v_weights v_divides) : srVal (s1__law_due [some (.fz ((dL PyData.int) v_weights)), some (.fz (PyData.int v_divides)), none, none, none, none]) = (fun (t : (D × (Option Int))) => Rs.ok ((dP2 dA (dO PyData.int)) t)) (t1__law_due v_weights v_divides) := by
  unfold o1__law_due at h
  unfold s1__law_due t1__law_due
  exact (k_for (E1__law_due v_weights) (fun (s1 : (Int)) (x2 : Int) => (t2__law_due v_weights s1 x2)) (fun (s1 : (Int)) (x2 : Int) => (o2__law_due v_weights s1 x2)) (v_divides) (r_iL (r_opd (r_var (i := 0) rfl)) rfl rfl) rfl (fun s1 x2 hx3 => ⟨_, (g_fz rfl), (w2__law_due v_weights s1 x2 hx3)⟩) h.1 (w3__law_due v_weights (List.foldl (fun (s1 : (Int)) (x2 : Int) => (t2__law_due v_weights s1 x2)) (v_divides) v_weights) h.2))
@[simp] noncomputable def t0__law_due (v_weights : (List Int)) : (D × (Option Int)) := (t1__law_due v_weights (0 : Int))
@[simp] def o0__law_due (v_weights : (List Int)) : Prop := (o1__law_due v_weights (0 : Int))
theorem w0__law_due (v_weights : (List Int)) (h : o0__law_due v_weights) : srVal (s0__law_due [some (.fz ((dL PyData.int) v_weights)), none, none, none, none, none]) = (fun (t : (D × (Option Int))) => Rs.ok ((dP2 dA (dO PyData.int)) t)) (t0__law_due v_weights) := by
  unfold o0__law_due at h
  unfold s0__law_due t0__law_due
  exact (k_asg r_c (g_fz rfl) (w1__law_due v_weights (0 : Int) h))
noncomputable def t__law_due (v_weights : (List Int)) : (D × (Option Int)) := (t0__law_due v_weights)
def o__law_due (v_weights : (List Int)) : Prop := (o0__law_due v_weights)
theorem v__law_due (v_weights : (List Int)) (h : o__law_due v_weights) : (run__law_due [(.fz ((dL PyData.int) v_weights))]).val = (fun (t : (D × (Option Int))) => Rs.ok ((dP2 dA (dO PyData.int)) t)) (t__law_due v_weights) := by
  unfold run__law_due f__law_due t__law_due
  rw [run_val]
  exact (w0__law_due v_weights h)
/-! _law_take -/
@[simp] noncomputable def t2__law_take (v_box : (List Int)) (v_digit : Int) : (Int × List Int) := (v_digit, v_box)
theorem w2__law_take (v_box : (List Int)) (v_digit : Int) : srIo 0 (s2__law_take [some (.io (List.map PyData.int v_box)), none, none, some (.fz (PyData.int v_digit))]) = (fun (t : (Int × List Int)) => Rs.ok (PyData.int t.1, List.map PyData.int t.2)) (t2__law_take v_box v_digit) := by
  unfold s2__law_take t2__law_take
  exact (k_retIo (r_var (i := 3) rfl) rfl rfl)
@[simp] noncomputable def t1__law_take (v_box : (List Int)) (v_left : Int) (v_digit : Int) : (Int × List Int) := (t2__law_take (setI v_box (0 : Int) v_left) v_digit)
@[simp] def o1__law_take (v_box : (List Int)) (v_left : Int) (v_digit : Int) : Prop := ((0 ≤ (0 : Int) ∧ (0 : Int) < (List.length v_box : Int))) ∧ True
theorem w1__law_take (v_box : (List Int)) (v_left : Int) (v_digit : Int) (h : o1__law_take v_box v_left v_digit) : srIo 0 (s1__law_take [some (.io (List.map PyData.int v_box)), none, some (.fz (PyData.int v_left)), some (.fz (PyData.int v_digit))]) = (fun (t : (Int × List Int)) => Rs.ok (PyData.int t.1, List.map PyData.int t.2)) (t1__law_take v_box v_left v_digit) := by
  unfold o1__law_take at h
  unfold s1__law_take t1__law_take
  exact (k_setIo (e := PyData.int) (l := v_box) (v := v_left) (r_opd (r_var (i := 2) rfl)) rfl r_c rfl rfl (h.1) (k_w rfl (w2__law_take (setI v_box (0 : Int) v_left) v_digit)))
@[simp] noncomputable def t0__law_take (v_box : (List Int)) (v_many : Int) : (Int × List Int) := (t1__law_take v_box (((gI v_box (0 : Int)) / v_many, (gI v_box (0 : Int)) % v_many)).1 (((gI v_box (0 : Int)) / v_many, (gI v_box (0 : Int)) % v_many)).2)
@[simp] def o0__law_take (v_box : (List Int)) (v_many : Int) : Prop := ((0 ≤ (0 : Int) ∧ (0 : Int) < (List.length v_box : Int))) ∧ (fdivOk v_many = true) ∧ (o1__law_take v_box (((gI v_box (0 : Int)) / v_many, (gI v_box (0 : Int)) % v_many)).1 (((gI v_box (0 : Int)) / v_many, (gI v_box (0 : Int)) % v_many)).2)
theorem w0__law_take (v_box : (List Int)) (v_many : Int) (h : o0__law_take v_box v_many) : srIo 0 (s0__law_take [some (.io (List.map PyData.int v_box)), some (.fz (PyData.int v_many)), none, none]) = (fun (t : (Int × List Int)) => Rs.ok (PyData.int t.1, List.map PyData.int t.2)) (t0__law_take v_box v_many) := by
  unfold o0__law_take at h
  unfold s0__law_take t0__law_take
  exact (k_asg (r_bin (r_opd (r_bin (r_ops (r_vsl (i := 0) rfl rfl)) (r_opd r_c) (q_g2 rfl rfl (z_ixL (e := PyData.int) (h.1))))) (r_opd (r_var (i := 1) rfl)) (q_g2 rfl rfl (z_dm (h.2.1)))) (g_t (g_c (g_fz rfl) (g_c (g_fz rfl) g_n))) (k_w rfl (w1__law_take v_box (((gI v_box (0 : Int)) / v_many, (gI v_box (0 : Int)) % v_many)).1 (((gI v_box (0 : Int)) / v_many, (gI v_box (0 : Int)) % v_many)).2 h.2.2)))
noncomputable def t__law_take (v_box : (List Int)) (v_many : Int) : (Int × List Int) := (t0__law_take v_box v_many)
def o__law_take (v_box : (List Int)) (v_many : Int) : Prop := (o0__law_take v_box v_many)
theorem v__law_take (v_box : (List Int)) (v_many : Int) (h : o__law_take v_box v_many) : (run__law_take [(.io (List.map PyData.int v_box)), (.fz (PyData.int v_many))]).io 0 = (fun (t : (Int × List Int)) => Rs.ok (PyData.int t.1, List.map PyData.int t.2)) (t__law_take v_box v_many) := by
  unfold run__law_take f__law_take t__law_take
  rw [run_io]
  exact (w0__law_take v_box v_many h)
/-! _law_endless -/
@[reducible] def E2__law_endless (v_most : Int) (v_heaviest : Int) (v_kind : Int) : ((List Int) × (List (Int × Int × (Option Int)))) → Ga := fun s => [some (.io (List.map PyData.int (s).1)), some (.fz (PyData.int v_most)), some (.fz (PyData.int v_heaviest)), some (.fz (PyData.int v_kind)), some (.ow (List.map (dP3 PyData.int PyData.int (dO PyData.int)) (s).2)), none, none, none, none]
@[simp] noncomputable def t6__law_endless (v_box : (List Int)) (v_most : Int) (v_heaviest : Int) (v_kind : Int) (v_found : (List (Int × Int × (Option Int)))) (v_heft : Int) (v_gain : Int) : ((List Int) × (List (Int × Int × (Option Int)))) := (v_box, (v_found ++ [(v_heft, v_gain, (none : (Option Int)))]))
@[simp] def o6__law_endless (v_box : (List Int)) (v_most : Int) (v_heaviest : Int) (v_kind : Int) (v_found : (List (Int × Int × (Option Int)))) (v_heft : Int) (v_gain : Int) : Prop := (List.length v_found < 16777216) ∧ True
theorem w6__law_endless (v_box : (List Int)) (v_most : Int) (v_heaviest : Int) (v_kind : Int) (v_found : (List (Int × Int × (Option Int)))) (v_heft : Int) (v_gain : Int) (h : o6__law_endless v_box v_most v_heaviest v_kind v_found v_heft v_gain) : srNx (s6__law_endless [some (.io (List.map PyData.int v_box)), some (.fz (PyData.int v_most)), some (.fz (PyData.int v_heaviest)), some (.fz (PyData.int v_kind)), some (.ow (List.map (dP3 PyData.int PyData.int (dO PyData.int)) v_found)), none, some (.fz (PyData.int v_heft)), none, some (.fz (PyData.int v_gain))]) = (fun (t : ((List Int) × (List (Int × Int × (Option Int))))) => Rs.ok ((E2__law_endless v_most v_heaviest v_kind) t)) (t6__law_endless v_box v_most v_heaviest v_kind v_found v_heft v_gain) := by
  unfold o6__law_endless at h
  unfold s6__law_endless t6__law_endless
  exact (k_expr (r_app (e := (dP3 PyData.int PyData.int (dO PyData.int))) (l := v_found) (v := (v_heft, v_gain, (none : (Option Int)))) (r_opd (r_conv (d' := (dP3 PyData.int PyData.int (dO PyData.int)) (v_heft, v_gain, (none : (Option Int)))) (r_tup (r_cons (r_opd (r_var (i := 6) rfl)) (r_cons (r_opd (r_var (i := 8) rfl)) (r_cons (r_opd (r_conv (d' := (dO PyData.int) (none : (Option Int))) r_c (by rfl))) r_nil))) rfl rfl) (by rfl))) rfl rfl rfl (h.1)) (k_w rfl rfl))
@[simp] noncomputable def t5__law_endless (v_box : (List Int)) (v_most : Int) (v_heaviest : Int) (v_kind : Int) (v_found : (List (Int × Int × (Option Int)))) (v_heft : Int) (v_given : Int) : ((List Int) × (List (Int × Int × (Option Int)))) := (t6__law_endless v_box v_most v_heaviest v_kind v_found v_heft (gI ([v_given, v_heft, (((3 : Int) * v_heft) + (v_given % (3 : Int))), (0 : Int), ((100000000000000000000 : Int) + v_given)] : List Int) v_kind))
@[simp] def o5__law_endless (v_box : (List Int)) (v_most : Int) (v_heaviest : Int) (v_kind : Int) (v_found : (List (Int × Int × (Option Int)))) (v_heft : Int) (v_given : Int) : Prop := (mulOk (3 : Int) v_heft = true) ∧ ((0 ≤ v_kind ∧ v_kind < (List.length ([v_given, v_heft, (((3 : Int) * v_heft) + (v_given % (3 : Int))), (0 : Int), ((100000000000000000000 : Int) + v_given)] : List Int) : Int))) ∧ (o6__law_endless v_box v_most v_heaviest v_kind v_found v_heft (gI ([v_given, v_heft, (((3 : Int) * v_heft) + (v_given % (3 : Int))), (0 : Int), ((100000000000000000000 : Int) + v_given)] : List Int) v_kind))
theorem w5__law_endless (v_box : (List Int)) (v_most : Int) (v_heaviest : Int) (v_kind : Int) (v_found : (List (Int × Int × (Option Int)))) (v_heft : Int) (v_given : Int) (h : o5__law_endless v_box v_most v_heaviest v_kind v_found v_heft v_given) : srNx (s5__law_endless [some (.io (List.map PyData.int v_box)), some (.fz (PyData.int v_most)), some (.fz (PyData.int v_heaviest)), some (.fz (PyData.int v_kind)), some (.ow (List.map (dP3 PyData.int PyData.int (dO PyData.int)) v_found)), none, some (.fz (PyData.int v_heft)), some (.fz (PyData.int v_given)), none]) = (fun (t : ((List Int) × (List (Int × Int × (Option Int))))) => Rs.ok ((E2__law_endless v_most v_heaviest v_kind) t)) (t5__law_endless v_box v_most v_heaviest v_kind v_found v_heft v_given) := by
  unfold o5__law_endless at h
  unfold s5__law_endless t5__law_endless
  exact (k_asg (r_bin (r_opw (r_lst PyData.int ([v_given, v_heft, (((3 : Int) * v_heft) + (v_given % (3 : Int))), (0 : Int), ((100000000000000000000 : Int) + v_given)] : List Int) (r_cons (r_opd (r_var (i := 7) rfl)) (r_cons (r_opd (r_var (i := 6) rfl)) (r_cons (r_opd (r_bin (r_opd (r_bin (r_opd r_c) (r_opd (r_var (i := 6) rfl)) (q_mulI (h.1)))) (r_opd (r_bin (r_opd (r_var (i := 7) rfl)) (r_opd r_c) (q_g2 rfl rfl (z_mod (by decide))))) q_addI)) (r_cons (r_opd r_c) (r_cons (r_opd (r_bin (r_opd (r_conv (d' := PyData.int (100000000000000000000 : Int)) (r_bin (r_opd r_c) (r_opd r_c) (q_g2 rfl rfl (z_pow (by decide)))) (congrArg PyData.int (by decide +kernel)))) (r_opd (r_var (i := 7) rfl)) q_addI)) r_nil))))) rfl rfl)) (r_opd (r_var (i := 3) rfl)) (q_g2 rfl rfl (z_ixL (e := PyData.int) (h.2.1)))) (g_fz rfl) (k_w rfl (w6__law_endless v_box v_most v_heaviest v_kind v_found v_heft (gI ([v_given, v_heft, (((3 : Int) * v_heft) + (v_given % (3 : Int))), (0 : Int), ((100000000000000000000 : Int) + v_given)] : List Int) v_kind) h.2.2)))
@[simp] noncomputable def t4__law_endless (v_box : (List Int)) (v_most : Int) (v_heaviest : Int) (v_kind : Int) (v_found : (List (Int × Int × (Option Int)))) (v_heft : Int) : ((List Int) × (List (Int × Int × (Option Int)))) := (t5__law_endless (t__law_take v_box (12 : Int)).2 v_most v_heaviest v_kind v_found v_heft (t__law_take v_box (12 : Int)).1)
@[simp] def o4__law_endless (v_box : (List Int)) (v_most : Int) (v_heaviest : Int) (v_kind : Int) (v_found : (List (Int × Int × (Option Int)))) (v_heft : Int) : Prop := (o__law_take v_box (12 : Int)) ∧ (o5__law_endless (t__law_take v_box (12 : Int)).2 v_most v_heaviest v_kind v_found v_heft (t__law_take v_box (12 : Int)).1)
theorem w4__law_endless (v_box : (List Int)) (v_most : Int) (v_heaviest : Int) (v_kind : Int) (v_found : (List (Int × Int × (Option Int)))) (v_heft : Int) (h : o4__law_endless v_box v_most v_heaviest v_kind v_found v_heft) : srNx (s4__law_endless [some (.io (List.map PyData.int v_box)), some (.fz (PyData.int v_most)), some (.fz (PyData.int v_heaviest)), some (.fz (PyData.int v_kind)), some (.ow (List.map (dP3 PyData.int PyData.int (dO PyData.int)) v_found)), none, some (.fz (PyData.int v_heft)), none, none]) = (fun (t : ((List Int) × (List (Int × Int × (Option Int))))) => Rs.ok ((E2__law_endless v_most v_heaviest v_kind) t)) (t4__law_endless v_box v_most v_heaviest v_kind v_found v_heft) := by
  unfold o4__law_endless at h
  unfold s4__law_endless t4__law_endless
  exact (k_asg (r_callIo (r_cons (r_ops (r_vsl (i := 0) rfl rfl)) (r_cons (r_opd r_c) r_nil)) rfl rfl rfl rfl (v__law_take v_box (12 : Int) (h.1)) (nls_map nl_int (t__law_take v_box (12 : Int)).2) rfl (nl_int (t__law_take v_box (12 : Int)).1)) (g_fz rfl) (w5__law_endless (t__law_take v_box (12 : Int)).2 v_most v_heaviest v_kind v_found v_heft (t__law_take v_box (12 : Int)).1 h.2))
@[simp] noncomputable def t3__law_endless (v_box : (List Int)) (v_most : Int) (v_heaviest : Int) (v_kind : Int) (v_found : (List (Int × Int × (Option Int)))) : ((List Int) × (List (Int × Int × (Option Int)))) := (t4__law_endless (t__law_take v_box v_heaviest).2 v_most v_heaviest v_kind v_found ((1 : Int) + (t__law_take v_box v_heaviest).1))
@[simp] def o3__law_endless (v_box : (List Int)) (v_most : Int) (v_heaviest : Int) (v_kind : Int) (v_found : (List (Int × Int × (Option Int)))) : Prop := (o__law_take v_box v_heaviest) ∧ (o4__law_endless (t__law_take v_box v_heaviest).2 v_most v_heaviest v_kind v_found ((1 : Int) + (t__law_take v_box v_heaviest).1))
theorem w3__law_endless (v_box : (List Int)) (v_most : Int) (v_heaviest : Int) (v_kind : Int) (v_found : (List (Int × Int × (Option Int)))) (h : o3__law_endless v_box v_most v_heaviest v_kind v_found) : srNx (s3__law_endless [some (.io (List.map PyData.int v_box)), some (.fz (PyData.int v_most)), some (.fz (PyData.int v_heaviest)), some (.fz (PyData.int v_kind)), some (.ow (List.map (dP3 PyData.int PyData.int (dO PyData.int)) v_found)), none, none, none, none]) = (fun (t : ((List Int) × (List (Int × Int × (Option Int))))) => Rs.ok ((E2__law_endless v_most v_heaviest v_kind) t)) (t3__law_endless v_box v_most v_heaviest v_kind v_found) := by
  unfold o3__law_endless at h
  unfold s3__law_endless t3__law_endless
  exact (k_asg (r_bin (r_opd r_c) (r_opd (r_callIo (r_cons (r_ops (r_vsl (i := 0) rfl rfl)) (r_cons (r_opd (r_var (i := 2) rfl)) r_nil)) rfl rfl rfl rfl (v__law_take v_box v_heaviest (h.1)) (nls_map nl_int (t__law_take v_box v_heaviest).2) rfl (nl_int (t__law_take v_box v_heaviest).1))) q_addI) (g_fz rfl) (w4__law_endless (t__law_take v_box v_heaviest).2 v_most v_heaviest v_kind v_found ((1 : Int) + (t__law_take v_box v_heaviest).1) h.2))
@[simp] noncomputable def t7__law_endless (v_box : (List Int)) (v_found : (List (Int × Int × (Option Int)))) : ((List (Int × Int × (Option Int))) × List Int) := (v_found, v_box)
theorem w7__law_endless (v_box : (List Int)) (v_found : (List (Int × Int × (Option Int)))) : srIo 0 (s7__law_endless [some (.io (List.map PyData.int v_box)), none, none, none, some (.ow (List.map (dP3 PyData.int PyData.int (dO PyData.int)) v_found)), none, none, none, none]) = (fun (t : ((List (Int × Int × (Option Int))) × List Int)) => Rs.ok ((dT (dP3 PyData.int PyData.int (dO PyData.int))) t.1, List.map PyData.int t.2)) (t7__law_endless v_box v_found) := by
  unfold s7__law_endless t7__law_endless
  exact (k_retIo (r_un (r_ops (r_vsl (i := 4) rfl rfl)) (q_g1 rfl (z_tup (e := (dP3 PyData.int PyData.int (dO PyData.int)))))) rfl rfl)
@[simp] noncomputable def t2__law_endless (v_box : (List Int)) (v_most : Int) (v_heaviest : Int) (v_kind : Int) (v_found : (List (Int × Int × (Option Int)))) : ((List (Int × Int × (Option Int))) × List Int) := (let s4 := (List.foldl (fun (s1 : ((List Int) × (List (Int × Int × (Option Int))))) (x2 : Int) => (t3__law_endless (s1).1 v_most v_heaviest v_kind (s1).2)) ((t__law_take v_box v_most).2, v_found) (rngI 0 ((1 : Int) + (t__law_take v_box v_most).1))); (t7__law_endless (s4).1 (s4).2))
@[simp] def o2__law_endless (v_box : (List Int)) (v_most : Int) (v_heaviest : Int) (v_kind : Int) (v_found : (List (Int × Int × (Option Int)))) : Prop := (o__law_take v_box v_most) ∧ (rgOk ((1 : Int) + (t__law_take v_box v_most).1) = true) ∧ (okF (fun (s1 : ((List Int) × (List (Int × Int × (Option Int))))) (x2 : Int) => (o3__law_endless (s1).1 v_most v_heaviest v_kind (s1).2)) (fun (s1 : ((List Int) × (List (Int × Int × (Option Int))))) (x2 : Int) => (t3__law_endless (s1).1 v_most v_heaviest v_kind (s1).2)) (rngI 0 ((1 : Int) + (t__law_take v_box v_most).1)) ((t__law_take v_box v_most).2, v_found) ∧ True)
theorem w2__law_endless (v_box : (List Int)) (v_most : Int) (v_heaviest : Int) (v_kind : Int) (v_found : (List (Int × Int × (Option Int)))) (h : o2__law_endless v_box v_most v_heaviest v_kind v_found) : srIo 0 (s2__law_endless [some (.io (List.map PyData.int v_box)), some (.fz (PyData.int v_most)), some (.fz (PyData.int v_heaviest)), some (.fz (PyData.int v_kind)), some (.ow (List.map (dP3 PyData.int PyData.int (dO PyData.int)) v_found)), none, none, none, none]) = (fun (t : ((List (Int × Int × (Option Int))) × List Int)) => Rs.ok ((dT (dP3 PyData.int PyData.int (dO PyData.int))) t.1, List.map PyData.int t.2)) (t2__law_endless v_box v_most v_heaviest v_kind v_found) := by
  unfold o2__law_endless at h
  unfold s2__law_endless t2__law_endless
  exact (k_for (E2__law_endless v_most v_heaviest v_kind) (fun (s1 : ((List Int) × (List (Int × Int × (Option Int))))) (x2 : Int) => (t3__law_endless (s1).1 v_most v_heaviest v_kind (s1).2)) (fun (s1 : ((List Int) × (List (Int × Int × (Option Int))))) (x2 : Int) => (o3__law_endless (s1).1 v_most v_heaviest v_kind (s1).2)) ((t__law_take v_box v_most).2, v_found) (r_iR1 (r_cons (r_opd (r_bin (r_opd r_c) (r_opd (r_callIo (r_cons (r_ops (r_vsl (i := 0) rfl rfl)) (r_cons (r_opd (r_var (i := 1) rfl)) r_nil)) rfl rfl rfl rfl (v__law_take v_box v_most (h.1)) (nls_map nl_int (t__law_take v_box v_most).2) rfl (nl_int (t__law_take v_box v_most).1))) q_addI)) r_nil) (h.2.1)) rfl (fun s1 x2 hx3 => ⟨_, (g_fz rfl), (k_w rfl (w3__law_endless (s1).1 v_most v_heaviest v_kind (s1).2 hx3))⟩) h.2.2.1 (k_w rfl (w7__law_endless ((List.foldl (fun (s1 : ((List Int) × (List (Int × Int × (Option Int))))) (x2 : Int) => (t3__law_endless (s1).1 v_most v_heaviest v_kind (s1).2)) ((t__law_take v_box v_most).2, v_found) (rngI 0 ((1 : Int) + (t__law_take v_box v_most).1)))).1 ((List.foldl (fun (s1 : ((List Int) × (List (Int × Int × (Option Int))))) (x2 : Int) => (t3__law_endless (s1).1 v_most v_heaviest v_kind (s1).2)) ((t__law_take v_box v_most).2, v_found) (rngI 0 ((1 : Int) + (t__law_take v_box v_most).1)))).2)))
@[simp] noncomputable def t1__law_endless (v_box : (List Int)) (v_most : Int) (v_heaviest : Int) (v_kind : Int) : ((List (Int × Int × (Option Int))) × List Int) := (t2__law_endless v_box v_most v_heaviest v_kind ([] : List (Int × Int × (Option Int))))
@[simp] def o1__law_endless (v_box : (List Int)) (v_most : Int) (v_heaviest : Int) (v_kind : Int) : Prop := (o2__law_endless v_box v_most v_heaviest v_kind ([] : List (Int × Int × (Option Int))))
theorem w1__law_endless (v_box : (List Int)) (v_most : Int) (v_heaviest : Int) (v_kind : Int) (h : o1__law_endless v_box v_most v_heaviest v_kind) : srIo 0 (s1__law_endless [some (.io (List.map PyData.int v_box)), some (.fz (PyData.int v_most)), some (.fz (PyData.int v_heaviest)), some (.fz (PyData.int v_kind)), none, none, none, none, none]) = (fun (t : ((List (Int × Int × (Option Int))) × List Int)) => Rs.ok ((dT (dP3 PyData.int PyData.int (dO PyData.int))) t.1, List.map PyData.int t.2)) (t1__law_endless v_box v_most v_heaviest v_kind) := by
  unfold o1__law_endless at h
  unfold s1__law_endless t1__law_endless
  exact (k_asg (r_lst (dP3 PyData.int PyData.int (dO PyData.int)) ([] : List (Int × Int × (Option Int))) r_nil rfl rfl) (g_ow rfl) (w2__law_endless v_box v_most v_heaviest v_kind ([] : List (Int × Int × (Option Int))) h))
@[simp] noncomputable def t0__law_endless (v_box : (List Int)) (v_most : Int) (v_heaviest : Int) : ((List (Int × Int × (Option Int))) × List Int) := (t1__law_endless (t__law_take v_box (5 : Int)).2 v_most v_heaviest (t__law_take v_box (5 : Int)).1)
@[simp] def o0__law_endless (v_box : (List Int)) (v_most : Int) (v_heaviest : Int) : Prop := (o__law_take v_box (5 : Int)) ∧ (o1__law_endless (t__law_take v_box (5 : Int)).2 v_most v_heaviest (t__law_take v_box (5 : Int)).1)
theorem w0__law_endless (v_box : (List Int)) (v_most : Int) (v_heaviest : Int) (h : o0__law_endless v_box v_most v_heaviest) : srIo 0 (s0__law_endless [some (.io (List.map PyData.int v_box)), some (.fz (PyData.int v_most)), some (.fz (PyData.int v_heaviest)), none, none, none, none, none, none]) = (fun (t : ((List (Int × Int × (Option Int))) × List Int)) => Rs.ok ((dT (dP3 PyData.int PyData.int (dO PyData.int))) t.1, List.map PyData.int t.2)) (t0__law_endless v_box v_most v_heaviest) := by
  unfold o0__law_endless at h
  unfold s0__law_endless t0__law_endless
  exact (k_asg (r_callIo (r_cons (r_ops (r_vsl (i := 0) rfl rfl)) (r_cons (r_opd r_c) r_nil)) rfl rfl rfl rfl (v__law_take v_box (5 : Int) (h.1)) (nls_map nl_int (t__law_take v_box (5 : Int)).2) rfl (nl_int (t__law_take v_box (5 : Int)).1)) (g_fz rfl) (w1__law_endless (t__law_take v_box (5 : Int)).2 v_most v_heaviest (t__law_take v_box (5 : Int)).1 h.2))
noncomputable def t__law_endless (v_box : (List Int)) (v_most : Int) (v_heaviest : Int) : ((List (Int × Int × (Option Int))) × List Int) := (t0__law_endless v_box v_most v_heaviest)
def o__law_endless (v_box : (List Int)) (v_most : Int) (v_heaviest : Int) : Prop := (o0__law_endless v_box v_most v_heaviest)
theorem v__law_endless (v_box : (List Int)) (v_most : Int) (v_heaviest : Int) (h : o__law_endless v_box v_most v_heaviest) : (run__law_endless [(.io (List.map PyData.int v_box)), (.fz (PyData.int v_most)), (.fz (PyData.int v_heaviest))]).io 0 = (fun (t : ((List (Int × Int × (Option Int))) × List Int)) => Rs.ok ((dT (dP3 PyData.int PyData.int (dO PyData.int))) t.1, List.map PyData.int t.2)) (t__law_endless v_box v_most v_heaviest) := by
  unfold run__law_endless f__law_endless t__law_endless
  rw [run_io]
  exact (w0__law_endless v_box v_most v_heaviest h)
/-! need_endless -/
@[simp] noncomputable def t3_need_endless : (Ex Unit) := (Except.error ⟨"NotEndless", none⟩)
theorem w3_need_endless : srVal (s3_need_endless [none, none]) = (toRs dU) (t3_need_endless) := by
  unfold s3_need_endless t3_need_endless
  exact rfl
@[simp] noncomputable def t2_need_endless : (Ex Unit) := (Except.error ⟨"TooMany", none⟩)
theorem w2_need_endless : srVal (s2_need_endless [none, none]) = (toRs dU) (t2_need_endless) := by
  unfold s2_need_endless t2_need_endless
  exact rfl
@[simp] noncomputable def t1_need_endless (v_store : (List (Int × Int × (Option Int)))) : (Ex Unit) := (if (decide ((20 : Int) < (maxL (List.map (fun (x6 : (Int × Int × (Option Int))) => (x6).1) v_store)))) then (t2_need_endless) else (Except.ok ()))
@[simp] def o1_need_endless (v_store : (List (Int × Int × (Option Int)))) : Prop := (List.length v_store ≤ 16777216) ∧ (True) ∧ ((List.map (fun (x6 : (Int × Int × (Option Int))) => (x6).1) v_store) ≠ []) ∧ True
theorem w1_need_endless (v_store : (List (Int × Int × (Option Int)))) (h : o1_need_endless v_store) : srVal (s1_need_endless [some (.fz ((dT (dP3 PyData.int PyData.int (dO PyData.int))) v_store)), none]) = (toRs dU) (t1_need_endless v_store) := by
  unfold o1_need_endless at h
  unfold s1_need_endless t1_need_endless
  exact (k_if (mk := (toRs dU)) (r_tst (r_bin (r_opd (r_un (r_opw (r_lc0 PyData.int (fun (x6 : (Int × Int × (Option Int))) => (x6).1) (r_iT (e := (dP3 PyData.int PyData.int (dO PyData.int))) (r_opd (r_var (i := 0) rfl)) rfl) rfl rfl rfl (h.1) (fun x6 hx7 => ⟨_, (g_fz rfl), ⟨_, _, _, (r_conv (d' := PyData.int (x6).1) (r_bin (r_opd (r_var (i := 1) rfl)) (r_opd r_c) (q_g2 rfl rfl rfl)) rfl), rfl, rfl⟩⟩))) (q_g1 rfl (z_max (h.2.2.1))))) (r_opd r_c) (q_gB rfl rfl rfl))) (fun q9 => (k_w rfl (w2_need_endless))) (fun q9 => (k_w rfl rfl)))
@[simp] noncomputable def t0_need_endless (v_store : (List (Int × Int × (Option Int)))) : (Ex Unit) := (if ((decide (v_store = ([] : (List (Int × Int × (Option Int)))))) || (List.any (List.map (fun (x2 : (Int × Int × (Option Int))) => (!Option.isNone (x2).2.2)) v_store) id)) then (t3_need_endless) else (t1_need_endless v_store))
@[simp] def o0_need_endless (v_store : (List (Int × Int × (Option Int)))) : Prop := (((decide (v_store = ([] : (List (Int × Int × (Option Int)))))) = false) → List.length v_store ≤ 16777216) ∧ (((decide (v_store = ([] : (List (Int × Int × (Option Int)))))) = false) → True) ∧ ((((decide (v_store = ([] : (List (Int × Int × (Option Int)))))) || (List.any (List.map (fun (x2 : (Int × Int × (Option Int))) => (!Option.isNone (x2).2.2)) v_store) id)) = true → True) ∧ (((decide (v_store = ([] : (List (Int × Int × (Option Int)))))) || (List.any (List.map (fun (x2 : (Int × Int × (Option Int))) => (!Option.isNone (x2).2.2)) v_store) id)) = false → (o1_need_endless v_store)))
theorem w0_need_endless (v_store : (List (Int × Int × (Option Int)))) (h : o0_need_endless v_store) : srVal (s0_need_endless [some (.fz ((dT (dP3 PyData.int PyData.int (dO PyData.int))) v_store)), none]) = (toRs dU) (t0_need_endless v_store) := by
  unfold o0_need_endless at h
  unfold s0_need_endless t0_need_endless
  exact (k_if (mk := (toRs dU)) (r_for (r_tst (r_bin (r_opd (r_var (i := 0) rfl)) (r_opd (r_conv (d' := (dT (dP3 PyData.int PyData.int (dO PyData.int))) ([] : (List (Int × Int × (Option Int))))) (r_tup r_nil rfl rfl) (by rfl))) (q_gB (x := (dT (dP3 PyData.int PyData.int (dO PyData.int))) v_store) (y := (dT (dP3 PyData.int PyData.int (dO PyData.int))) ([] : (List (Int × Int × (Option Int))))) rfl rfl (z_eq (e := (dT (dP3 PyData.int PyData.int (dO PyData.int)))) (a := v_store) (b := ([] : (List (Int × Int × (Option Int))))) (eq_T (eq_P3 eq_int eq_int (eq_O eq_int nn_int))) (sh_T (sh_P3 sh_int sh_int (sh_O sh_int))) rfl)))) (fun q1 => (r_tst (r_un (r_opw (r_lc0 PyData.bool (fun (x2 : (Int × Int × (Option Int))) => (!Option.isNone (x2).2.2)) (r_iT (e := (dP3 PyData.int PyData.int (dO PyData.int))) (r_opd (r_var (i := 0) rfl)) rfl) rfl rfl rfl (h.1 q1) (fun x2 hx3 => ⟨_, (g_fz rfl), ⟨_, _, _, (r_bin (r_opd (r_conv (d' := (dO PyData.int) (x2).2.2) (r_bin (r_opd (r_var (i := 1) rfl)) (r_opd r_c) (q_g2 rfl rfl rfl)) rfl)) (r_opd r_c) (q_gB rfl rfl (z_inO (e := PyData.int) nn_int))), rfl, rfl⟩⟩))) (q_g1 rfl z_any))))) (fun q5 => (k_w rfl (w3_need_endless))) (fun q5 => (w1_need_endless v_store (h.2.2.2 q5))))
noncomputable def t_need_endless (v_store : (List (Int × Int × (Option Int)))) : (Ex Unit) := (t0_need_endless v_store)
def o_need_endless (v_store : (List (Int × Int × (Option Int)))) : Prop := (o0_need_endless v_store)
theorem v_need_endless (v_store : (List (Int × Int × (Option Int)))) (h : o_need_endless v_store) : (run_need_endless [(.fz ((dT (dP3 PyData.int PyData.int (dO PyData.int))) v_store))]).val = (toRs dU) (t_need_endless v_store) := by
  unfold run_need_endless f_need_endless t_need_endless
  rw [run_val]
  exact (w0_need_endless v_store h)
/-! is_from -/
@[simp] noncomputable def t0_is_from (v_thing : D) (v_least : Int) : Bool := ((isiB .int v_thing) && ((!(isiB .bool v_thing)) && (decide (v_least ≤ (asInt v_thing)))))
@[simp] def o0_is_from (v_thing : D) (v_least : Int) : Prop := (((isiB .int v_thing) = true) → ((!(isiB .bool v_thing)) = true) → isInt v_thing = true) ∧ True
theorem w0_is_from (v_thing : D) (v_least : Int) (h : o0_is_from v_thing v_least) : srVal (s0_is_from [some (.fz (dA v_thing)), some (.fz (PyData.int v_least))]) = (fun (t : Bool) => Rs.ok (PyData.bool t)) (t0_is_from v_thing v_least) := by
  unfold o0_is_from at h
  unfold s0_is_from t0_is_from
  exact (k_ret (r_eand (r_conv (d' := PyData.bool (isiB .int v_thing)) (r_un (r_opd (r_var (i := 0) rfl)) (q_g1 rfl rfl)) rfl) (fun q1 => (r_eand (r_enot (r_conv (d' := PyData.bool (isiB .bool v_thing)) (r_un (r_opd (r_var (i := 0) rfl)) (q_g1 rfl rfl)) rfl)) (fun q2 => (r_bin (r_opd (r_conv (r_var (i := 0) rfl) (c_int (h.1 q1 q2)))) (r_opd (r_var (i := 1) rfl)) (q_gB rfl rfl rfl)))))) rfl)
noncomputable def t_is_from (v_thing : D) (v_least : Int) : Bool := (t0_is_from v_thing v_least)
def o_is_from (v_thing : D) (v_least : Int) : Prop := (o0_is_from v_thing v_least)
theorem v_is_from (v_thing : D) (v_least : Int) (h : o_is_from v_thing v_least) : (run_is_from [(.fz (dA v_thing)), (.fz (PyData.int v_least))]).val = (fun (t : Bool) => Rs.ok (PyData.bool t)) (t_is_from v_thing v_least) := by
  unfold run_is_from f_is_from t_is_from
  rw [run_val]
  exact (w0_is_from v_thing v_least h)
/-! is_kind -/
@[simp] noncomputable def t4_is_kind : Bool := false
theorem w4_is_kind : srVal (s4_is_kind [none]) = (fun (t : Bool) => Rs.ok (PyData.bool t)) (t4_is_kind) := by
  unfold s4_is_kind t4_is_kind
  exact (k_ret r_c rfl)
@[simp] noncomputable def t3_is_kind : Bool := false
theorem w3_is_kind : srVal (s3_is_kind [none]) = (fun (t : Bool) => Rs.ok (PyData.bool t)) (t3_is_kind) := by
  unfold s3_is_kind t3_is_kind
  exact (k_ret r_c rfl)
@[simp] noncomputable def t2_is_kind (v_thing : D) : Bool := ((isNone ((ixD v_thing (.int (2 : Int))).getD .none)) || (t_is_from ((ixD v_thing (.int (2 : Int))).getD .none) (0 : Int)))
@[simp] def o2_is_kind (v_thing : D) : Prop := ((ixD v_thing (.int (2 : Int))).isSome = true) ∧ (((isNone ((ixD v_thing (.int (2 : Int))).getD .none)) = false) → (ixD v_thing (.int (2 : Int))).isSome = true) ∧ (((isNone ((ixD v_thing (.int (2 : Int))).getD .none)) = false) → o_is_from ((ixD v_thing (.int (2 : Int))).getD .none) (0 : Int)) ∧ True
theorem w2_is_kind (v_thing : D) (h : o2_is_kind v_thing) : srVal (s2_is_kind [some (.fz (dA v_thing))]) = (fun (t : Bool) => Rs.ok (PyData.bool t)) (t2_is_kind v_thing) := by
  unfold o2_is_kind at h
  unfold s2_is_kind t2_is_kind
  exact (k_ret (r_eor (r_bin (r_opd (r_bin (r_opd (r_var (i := 0) rfl)) (r_opd r_c) (q_g2 rfl rfl (z_some (h.1))))) (r_opd r_c) (q_gB rfl rfl rfl)) (fun q5 => (r_call (r_cons (r_opd (r_bin (r_opd (r_var (i := 0) rfl)) (r_opd r_c) (q_g2 rfl rfl (z_some (h.2.1 q5))))) (r_cons (r_opd r_c) r_nil)) rfl rfl (v_is_from ((ixD v_thing (.int (2 : Int))).getD .none) (0 : Int) (h.2.2.1 q5)) (nl_bool (t_is_from ((ixD v_thing (.int (2 : Int))).getD .none) (0 : Int)))))) rfl)
@[simp] noncomputable def t1_is_kind (v_thing : D) : Bool := (if ((!(t_is_from ((ixD v_thing (.int (0 : Int))).getD .none) (1 : Int))) || (!(t_is_from ((ixD v_thing (.int (1 : Int))).getD .none) (0 : Int)))) then (t3_is_kind) else (t2_is_kind v_thing))
@[simp] def o1_is_kind (v_thing : D) : Prop := ((ixD v_thing (.int (0 : Int))).isSome = true) ∧ (o_is_from ((ixD v_thing (.int (0 : Int))).getD .none) (1 : Int)) ∧ (((!(t_is_from ((ixD v_thing (.int (0 : Int))).getD .none) (1 : Int))) = false) → (ixD v_thing (.int (1 : Int))).isSome = true) ∧ (((!(t_is_from ((ixD v_thing (.int (0 : Int))).getD .none) (1 : Int))) = false) → o_is_from ((ixD v_thing (.int (1 : Int))).getD .none) (0 : Int)) ∧ ((((!(t_is_from ((ixD v_thing (.int (0 : Int))).getD .none) (1 : Int))) || (!(t_is_from ((ixD v_thing (.int (1 : Int))).getD .none) (0 : Int)))) = true → True) ∧ (((!(t_is_from ((ixD v_thing (.int (0 : Int))).getD .none) (1 : Int))) || (!(t_is_from ((ixD v_thing (.int (1 : Int))).getD .none) (0 : Int)))) = false → (o2_is_kind v_thing)))
theorem w1_is_kind (v_thing : D) (h : o1_is_kind v_thing) : srVal (s1_is_kind [some (.fz (dA v_thing))]) = (fun (t : Bool) => Rs.ok (PyData.bool t)) (t1_is_kind v_thing) := by
  unfold o1_is_kind at h
  unfold s1_is_kind t1_is_kind
  exact (k_if (mk := (fun (t : Bool) => Rs.ok (PyData.bool t))) (r_for (r_fnot (r_tst (r_call (r_cons (r_opd (r_bin (r_opd (r_var (i := 0) rfl)) (r_opd r_c) (q_g2 rfl rfl (z_some (h.1))))) (r_cons (r_opd r_c) r_nil)) rfl rfl (v_is_from ((ixD v_thing (.int (0 : Int))).getD .none) (1 : Int) (h.2.1)) (nl_bool (t_is_from ((ixD v_thing (.int (0 : Int))).getD .none) (1 : Int)))))) (fun q3 => (r_fnot (r_tst (r_call (r_cons (r_opd (r_bin (r_opd (r_var (i := 0) rfl)) (r_opd r_c) (q_g2 rfl rfl (z_some (h.2.2.1 q3))))) (r_cons (r_opd r_c) r_nil)) rfl rfl (v_is_from ((ixD v_thing (.int (1 : Int))).getD .none) (0 : Int) (h.2.2.2.1 q3)) (nl_bool (t_is_from ((ixD v_thing (.int (1 : Int))).getD .none) (0 : Int)))))))) (fun q4 => (k_w rfl (w3_is_kind))) (fun q4 => (w2_is_kind v_thing (h.2.2.2.2.2 q4))))
@[simp] noncomputable def t0_is_kind (v_thing : D) : Bool := (if ((!(isiB .tuple v_thing)) || (!decide ((lenA v_thing) = (3 : Int)))) then (t4_is_kind) else (t1_is_kind v_thing))
@[simp] def o0_is_kind (v_thing : D) : Prop := (((!(isiB .tuple v_thing)) = false) → (lenD v_thing).isSome = true) ∧ ((((!(isiB .tuple v_thing)) || (!decide ((lenA v_thing) = (3 : Int)))) = true → True) ∧ (((!(isiB .tuple v_thing)) || (!decide ((lenA v_thing) = (3 : Int)))) = false → (o1_is_kind v_thing)))
theorem w0_is_kind (v_thing : D) (h : o0_is_kind v_thing) : srVal (s0_is_kind [some (.fz (dA v_thing))]) = (fun (t : Bool) => Rs.ok (PyData.bool t)) (t0_is_kind v_thing) := by
  unfold o0_is_kind at h
  unfold s0_is_kind t0_is_kind
  exact (k_if (mk := (fun (t : Bool) => Rs.ok (PyData.bool t))) (r_for (r_fnot (r_tst (r_conv (d' := PyData.bool (isiB .tuple v_thing)) (r_un (r_opd (r_var (i := 0) rfl)) (q_g1 rfl rfl)) rfl))) (fun q1 => (r_tst (r_bin (r_opd (r_un (r_opd (r_var (i := 0) rfl)) (q_g1 rfl (z_lenA (h.1 q1))))) (r_opd r_c) (q_gB (x := PyData.int (lenA v_thing)) (y := PyData.int (3 : Int)) rfl rfl (z_ne (e := PyData.int) (a := (lenA v_thing)) (b := (3 : Int)) eq_int sh_int rfl)))))) (fun q2 => (k_w rfl (w4_is_kind))) (fun q2 => (w1_is_kind v_thing (h.2.2 q2))))
noncomputable def t_is_kind (v_thing : D) : Bool := (t0_is_kind v_thing)
def o_is_kind (v_thing : D) : Prop := (o0_is_kind v_thing)
theorem v_is_kind (v_thing : D) (h : o_is_kind v_thing) : (run_is_kind [(.fz (dA v_thing))]).val = (fun (t : Bool) => Rs.ok (PyData.bool t)) (t_is_kind v_thing) := by
  unfold run_is_kind f_is_kind t_is_kind
  rw [run_val]
  exact (w0_is_kind v_thing h)
/-! is_store -/
@[simp] noncomputable def t0_is_store (v_thing : D) : Bool := ((isiB .tuple v_thing) && ((decide ((lenA v_thing) ≤ (12 : Int))) && (List.all (List.map (fun (x3 : D) => (t_is_kind x3)) (asTup v_thing)) id)))
@[simp] def o0_is_store (v_thing : D) : Prop := (((isiB .tuple v_thing) = true) → (lenD v_thing).isSome = true) ∧ (((isiB .tuple v_thing) = true) → ((decide ((lenA v_thing) ≤ (12 : Int))) = true) → isiB .tuple v_thing = true) ∧ (((isiB .tuple v_thing) = true) → ((decide ((lenA v_thing) ≤ (12 : Int))) = true) → List.length (asTup v_thing) ≤ 16777216) ∧ (((isiB .tuple v_thing) = true) → ((decide ((lenA v_thing) ≤ (12 : Int))) = true) → (∀ x3 : D, x3 ∈ (asTup v_thing) → (o_is_kind x3) ∧ True)) ∧ True
theorem w0_is_store (v_thing : D) (h : o0_is_store v_thing) : srVal (s0_is_store [some (.fz (dA v_thing)), none]) = (fun (t : Bool) => Rs.ok (PyData.bool t)) (t0_is_store v_thing) := by
  unfold o0_is_store at h
  unfold s0_is_store t0_is_store
  exact (k_ret (r_eand (r_conv (d' := PyData.bool (isiB .tuple v_thing)) (r_un (r_opd (r_var (i := 0) rfl)) (q_g1 rfl rfl)) rfl) (fun q1 => (r_eand (r_bin (r_opd (r_un (r_opd (r_var (i := 0) rfl)) (q_g1 rfl (z_lenA (h.1 q1))))) (r_opd r_c) (q_gB rfl rfl rfl)) (fun q2 => (r_un (r_opw (r_lc0 PyData.bool (fun (x3 : D) => (t_is_kind x3)) (r_iT (e := dA) (r_opd (r_conv (r_var (i := 0) rfl) (c_tup (h.2.1 q1 q2)))) rfl) rfl rfl rfl (h.2.2.1 q1 q2) (fun x3 hx4 => ⟨_, (g_fz rfl), ⟨_, _, _, (r_call (r_cons (r_opd (r_var (i := 1) rfl)) r_nil) rfl rfl (v_is_kind x3 ((h.2.2.2.1 q1 q2 x3 hx4).1)) (nl_bool (t_is_kind x3))), rfl, rfl⟩⟩))) (q_g1 rfl z_all)))))) rfl)
noncomputable def t_is_store (v_thing : D) : Bool := (t0_is_store v_thing)
def o_is_store (v_thing : D) : Prop := (o0_is_store v_thing)
theorem v_is_store (v_thing : D) (h : o_is_store v_thing) : (run_is_store [(.fz (dA v_thing))]).val = (fun (t : Bool) => Rs.ok (PyData.bool t)) (t_is_store v_thing) := by
  unfold run_is_store f_is_store t_is_store
  rw [run_val]
  exact (w0_is_store v_thing h)
/-! need_store -/
@[simp] noncomputable def t1_need_store : (Ex Unit) := (Except.error ⟨"NoStore", none⟩)
theorem w1_need_store : srVal (s1_need_store [none]) = (toRs dU) (t1_need_store) := by
  unfold s1_need_store t1_need_store
  exact rfl
@[simp] noncomputable def t0_need_store (v_store : D) : (Ex Unit) := (if (!(t_is_store v_store)) then (t1_need_store) else (Except.ok ()))
@[simp] def o0_need_store (v_store : D) : Prop := (o_is_store v_store) ∧ True
theorem w0_need_store (v_store : D) (h : o0_need_store v_store) : srVal (s0_need_store [some (.fz (dA v_store))]) = (toRs dU) (t0_need_store v_store) := by
  unfold o0_need_store at h
  unfold s0_need_store t0_need_store
  exact (k_if (mk := (toRs dU)) (r_fnot (r_tst (r_call (r_cons (r_opd (r_var (i := 0) rfl)) r_nil) rfl rfl (v_is_store v_store (h.1)) (nl_bool (t_is_store v_store))))) (fun q1 => (k_w rfl (w1_need_store))) (fun q1 => (k_w rfl rfl)))
noncomputable def t_need_store (v_store : D) : (Ex Unit) := (t0_need_store v_store)
def o_need_store (v_store : D) : Prop := (o0_need_store v_store)
theorem v_need_store (v_store : D) (h : o_need_store v_store) : (run_need_store [(.fz (dA v_store))]).val = (toRs dU) (t_need_store v_store) := by
  unfold run_need_store f_need_store t_need_store
  rw [run_val]
  exact (w0_need_store v_store h)
/-! common -/
@[reducible] def E0_common : (Int × Int) → Ga := fun s => [some (.fz (PyData.int (s).1)), some (.fz (PyData.int (s).2))]
@[simp] noncomputable def t1_common (v_one : Int) (v_other : Int) : (Int × Int) := (v_other, (v_one % v_other))
@[simp] def o1_common (v_one : Int) (v_other : Int) : Prop := (0 < v_other) ∧ True
theorem w1_common (v_one : Int) (v_other : Int) (h : o1_common v_one v_other) : srNx (s1_common [some (.fz (PyData.int v_one)), some (.fz (PyData.int v_other))]) = (fun (t : (Int × Int)) => Rs.ok ((E0_common) t)) (t1_common v_one v_other) := by
  unfold o1_common at h
  unfold s1_common t1_common
  exact (k_par (r_cons (r_opd (r_var (i := 1) rfl)) (r_cons (r_opd (r_bin (r_opd (r_var (i := 0) rfl)) (r_opd (r_var (i := 1) rfl)) (q_g2 rfl rfl (z_mod (h.1))))) r_nil)) rfl rfl rfl)
@[simp] noncomputable def t2_common (v_one : Int) : Int := v_one
theorem w2_common (v_one : Int) : srVal (s2_common [some (.fz (PyData.int v_one)), none]) = (fun (t : Int) => Rs.ok (PyData.int t)) (t2_common v_one) := by
  unfold s2_common t2_common
  exact (k_ret (r_var (i := 0) rfl) rfl)
@[simp] noncomputable def t0_common (v_one : Int) (v_other : Int) : Int := (let s4 := ((whl (fun (s1 : (Int × Int)) => (decide ((0 : Int) < (s1).2))) (fun (s1 : (Int × Int)) => (t1_common (s1).1 (s1).2)) (v_other.toNat + 1) (v_one, v_other)).getD (v_one, v_other)); (t2_common (s4).1))
@[simp] def o0_common (v_one : Int) (v_other : Int) : Prop := (okW (fun (s1 : (Int × Int)) => (decide ((0 : Int) < (s1).2))) (fun (s1 : (Int × Int)) => (t1_common (s1).1 (s1).2)) (fun (s1 : (Int × Int)) => ((decide ((0 : Int) < (s1).2)) = true → (o1_common (s1).1 (s1).2))) (v_other.toNat + 1) (v_one, v_other) ∧ (whl (fun (s1 : (Int × Int)) => (decide ((0 : Int) < (s1).2))) (fun (s1 : (Int × Int)) => (t1_common (s1).1 (s1).2)) (v_other.toNat + 1) (v_one, v_other)).isSome = true ∧ True)
theorem w0_common (v_one : Int) (v_other : Int) (h : o0_common v_one v_other) : srVal (s0_common [some (.fz (PyData.int v_one)), some (.fz (PyData.int v_other))]) = (fun (t : Int) => Rs.ok (PyData.int t)) (t0_common v_one v_other) := by
  unfold o0_common at h
  unfold s0_common t0_common
  exact (k_while (E0_common) (fun (s1 : (Int × Int)) => (decide ((0 : Int) < (s1).2))) (fun (s1 : (Int × Int)) => (t1_common (s1).1 (s1).2)) (fun (s1 : (Int × Int)) => ((decide ((0 : Int) < (s1).2)) = true → (o1_common (s1).1 (s1).2))) (v_other.toNat + 1) (v_one, v_other) rfl (fun s1 hx2 => (r_tst (r_bin (r_opd (r_var (i := 1) rfl)) (r_opd r_c) (q_gB rfl rfl rfl)))) (fun s1 hx2 q3 => (w1_common (s1).1 (s1).2 (hx2 q3))) h.1 h.2.1 (k_w rfl (w2_common (((whl (fun (s1 : (Int × Int)) => (decide ((0 : Int) < (s1).2))) (fun (s1 : (Int × Int)) => (t1_common (s1).1 (s1).2)) (v_other.toNat + 1) (v_one, v_other)).getD (v_one, v_other))).1)))
noncomputable def t_common (v_one : Int) (v_other : Int) : Int := (t0_common v_one v_other)
def o_common (v_one : Int) (v_other : Int) : Prop := (o0_common v_one v_other)
theorem v_common (v_one : Int) (v_other : Int) (h : o_common v_one v_other) : (run_common [(.fz (PyData.int v_one)), (.fz (PyData.int v_other))]).val = (fun (t : Int) => Rs.ok (PyData.int t)) (t_common v_one v_other) := by
  unfold run_common f_common t_common
  rw [run_val]
  exact (w0_common v_one v_other h)
/-! never -/
@[reducible] def E1_never (v_store : (List (Int × Int × (Option Int)))) : (Int) → Ga := fun s => [some (.fz ((dT (dP3 PyData.int PyData.int (dO PyData.int))) v_store)), some (.fz (PyData.int s)), none, none, none, none, none, none]
@[simp] noncomputable def t2_never (v_store : (List (Int × Int × (Option Int)))) (v_divisor : Int) (v_kind : (Int × Int × (Option Int))) : (Int) := ((t_common v_divisor (v_kind).1))
@[simp] def o2_never (v_store : (List (Int × Int × (Option Int)))) (v_divisor : Int) (v_kind : (Int × Int × (Option Int))) : Prop := (o_common v_divisor (v_kind).1) ∧ True
theorem w2_never (v_store : (List (Int × Int × (Option Int)))) (v_divisor : Int) (v_kind : (Int × Int × (Option Int))) (h : o2_never v_store v_divisor v_kind) : srNx (s2_never [some (.fz ((dT (dP3 PyData.int PyData.int (dO PyData.int))) v_store)), some (.fz (PyData.int v_divisor)), some (.fz ((dP3 PyData.int PyData.int (dO PyData.int)) v_kind)), none, none, none, none, none]) = (fun (t : (Int)) => Rs.ok ((E1_never v_store) t)) (t2_never v_store v_divisor v_kind) := by
  unfold o2_never at h
  unfold s2_never t2_never
  exact (k_asg (r_call (r_cons (r_opd (r_var (i := 1) rfl)) (r_cons (r_opd (r_conv (d' := PyData.int (v_kind).1) (r_bin (r_opd (r_var (i := 2) rfl)) (r_opd r_c) (q_g2 rfl rfl rfl)) rfl)) r_nil)) rfl rfl (v_common v_divisor (v_kind).1 (h.1)) (nl_int (t_common v_divisor (v_kind).1))) (g_fz rfl) (k_w rfl rfl))
@[reducible] def E5_never (v_divisor : Int) (v_weights : (List Int)) : ((List Bool)) → Ga := fun s => [none, some (.fz (PyData.int v_divisor)), none, some (.ow (List.map PyData.int v_weights)), some (.ow (List.map PyData.bool s)), none, none, none]
@[simp] noncomputable def t6_never (v_divisor : Int) (v_weights : (List Int)) (v_good : (List Bool)) (v_room : Int) : ((List Bool)) := ((v_good ++ [(List.any (List.map (fun (x11 : Int) => ((decide (x11 ≤ v_room)) && (gI v_good (v_room - x11)))) v_weights) id)]))
@[simp] def o6_never (v_divisor : Int) (v_weights : (List Int)) (v_good : (List Bool)) (v_room : Int) : Prop := (List.length v_weights ≤ 16777216) ∧ ((∀ x11 : Int, x11 ∈ v_weights → (((decide (x11 ≤ v_room)) = true) → (0 ≤ (v_room - x11) ∧ (v_room - x11) < (List.length v_good : Int))) ∧ True)) ∧ (List.length v_good < 16777216) ∧ True
theorem w6_never (v_divisor : Int) (v_weights : (List Int)) (v_good : (List Bool)) (v_room : Int) (h : o6_never v_divisor v_weights v_good v_room) : srNx (s6_never [none, some (.fz (PyData.int v_divisor)), none, some (.ow (List.map PyData.int v_weights)), some (.ow (List.map PyData.bool v_good)), some (.fz (PyData.int v_room)), none, none]) = (fun (t : ((List Bool))) => Rs.ok ((E5_never v_divisor v_weights) t)) (t6_never v_divisor v_weights v_good v_room) := by
  unfold o6_never at h
  unfold s6_never t6_never
  exact (k_expr (r_app (e := PyData.bool) (l := v_good) (v := (List.any (List.map (fun (x11 : Int) => ((decide (x11 ≤ v_room)) && (gI v_good (v_room - x11)))) v_weights) id)) (r_opd (r_un (r_opw (r_lcl0 PyData.bool (fun (x11 : Int) => ((decide (x11 ≤ v_room)) && (gI v_good (v_room - x11)))) (r_iL (r_ops (r_vsl (i := 3) rfl rfl)) rfl rfl) rfl rfl rfl rfl rfl (h.1) (fun x11 hx12 => ⟨_, (g_fz rfl), ⟨_, _, _, (r_eand (r_bin (r_opd (r_var (i := 6) rfl)) (r_opd (r_var (i := 5) rfl)) (q_gB rfl rfl rfl)) (fun q14 => (r_bin (r_ops (r_vsl (i := 4) rfl rfl)) (r_opd (r_bin (r_opd (r_var (i := 5) rfl)) (r_opd (r_var (i := 6) rfl)) (q_g2 rfl rfl rfl))) (q_g2 rfl rfl (z_ixL (e := PyData.bool) ((h.2.1 x11 hx12).1 q14)))))), rfl, rfl⟩⟩))) (q_g1 rfl z_any))) rfl rfl rfl (h.2.2.1)) (k_w rfl rfl))
@[simp] noncomputable def t7_never (v_divisor : Int) (v_good : (List Bool)) : (Int × (List Int)) := (v_divisor, (List.map (fun (x16 : (Int × Bool)) => (x16).1) (List.filter (fun (x16 : (Int × Bool)) => (!(x16).2)) (enuL v_good))))
@[simp] def o7_never (v_divisor : Int) (v_good : (List Bool)) : Prop := (List.length (enuL v_good) ≤ 16777216) ∧ (True) ∧ True
theorem w7_never (v_divisor : Int) (v_good : (List Bool)) (h : o7_never v_divisor v_good) : srVal (s7_never [none, some (.fz (PyData.int v_divisor)), none, none, some (.ow (List.map PyData.bool v_good)), none, none, none]) = (fun (t : (Int × (List Int))) => Rs.ok ((dP2 PyData.int (dL PyData.int)) t)) (t7_never v_divisor v_good) := by
  unfold o7_never at h
  unfold s7_never t7_never
  exact (k_ret (r_conv (d' := (dP2 PyData.int (dL PyData.int)) (v_divisor, (List.map (fun (x16 : (Int × Bool)) => (x16).1) (List.filter (fun (x16 : (Int × Bool)) => (!(x16).2)) (enuL v_good))))) (r_tup (r_cons (r_opd (r_var (i := 1) rfl)) (r_cons (r_opw (r_lcl PyData.int (fun (x16 : (Int × Bool)) => (!(x16).2)) (fun (x16 : (Int × Bool)) => (x16).1) (r_enL (e := PyData.bool) (r_cons (r_ops (r_vsl (i := 4) rfl rfl)) r_nil) rfl rfl) rfl rfl rfl rfl rfl (h.1) (fun x16 hx17 => ⟨_, (g_t (g_c (g_fz rfl) (g_c (g_fz rfl) g_n))), (r_fnot (r_tst (r_var (i := 7) rfl))), (fun q18 => ⟨_, _, _, (r_var (i := 5) rfl), rfl, rfl⟩), (fun _ => rfl)⟩))) r_nil)) rfl rfl) (by rfl)) rfl)
@[simp] noncomputable def t5_never (v_divisor : Int) (v_weights : (List Int)) (v_good : (List Bool)) : (Int × (List Int)) := (let s15 := (List.foldl (fun (s8 : ((List Bool))) (x9 : Int) => (t6_never v_divisor v_weights s8 x9)) (v_good) (rngI (1 : Int) (((minL v_weights) * (maxL v_weights)) + (1 : Int)))); (t7_never v_divisor s15))
@[simp] def o5_never (v_divisor : Int) (v_weights : (List Int)) (v_good : (List Bool)) : Prop := (v_weights ≠ []) ∧ (v_weights ≠ []) ∧ (mulOk (minL v_weights) (maxL v_weights) = true) ∧ ((rgOk (1 : Int) = true ∧ rgOk (((minL v_weights) * (maxL v_weights)) + (1 : Int)) = true)) ∧ (okF (fun (s8 : ((List Bool))) (x9 : Int) => (o6_never v_divisor v_weights s8 x9)) (fun (s8 : ((List Bool))) (x9 : Int) => (t6_never v_divisor v_weights s8 x9)) (rngI (1 : Int) (((minL v_weights) * (maxL v_weights)) + (1 : Int))) (v_good) ∧ (let s15 := (List.foldl (fun (s8 : ((List Bool))) (x9 : Int) => (t6_never v_divisor v_weights s8 x9)) (v_good) (rngI (1 : Int) (((minL v_weights) * (maxL v_weights)) + (1 : Int)))); (o7_never v_divisor s15)))
theorem w5_never (v_divisor : Int) (v_weights : (List Int)) (v_good : (List Bool)) (h : o5_never v_divisor v_weights v_good) : srVal (s5_never [none, some (.fz (PyData.int v_divisor)), none, some (.ow (List.map PyData.int v_weights)), some (.ow (List.map PyData.bool v_good)), none, none, none]) = (fun (t : (Int × (List Int))) => Rs.ok ((dP2 PyData.int (dL PyData.int)) t)) (t5_never v_divisor v_weights v_good) := by
  unfold o5_never at h
  unfold s5_never t5_never
  exact (k_for (E5_never v_divisor v_weights) (fun (s8 : ((List Bool))) (x9 : Int) => (t6_never v_divisor v_weights s8 x9)) (fun (s8 : ((List Bool))) (x9 : Int) => (o6_never v_divisor v_weights s8 x9)) (v_good) (r_iR2 (r_cons (r_opd r_c) (r_cons (r_opd (r_bin (r_opd (r_bin (r_opd (r_un (r_ops (r_vsl (i := 3) rfl rfl)) (q_g1 rfl (z_min (h.1))))) (r_opd (r_un (r_ops (r_vsl (i := 3) rfl rfl)) (q_g1 rfl (z_max (h.2.1))))) (q_mulI (h.2.2.1)))) (r_opd r_c) q_addI)) r_nil)) (h.2.2.2.1)) rfl (fun s8 x9 hx10 => ⟨_, (g_fz rfl), (w6_never v_divisor v_weights s8 x9 hx10)⟩) h.2.2.2.2.1 (k_w rfl (w7_never v_divisor (List.foldl (fun (s8 : ((List Bool))) (x9 : Int) => (t6_never v_divisor v_weights s8 x9)) (v_good) (rngI (1 : Int) (((minL v_weights) * (maxL v_weights)) + (1 : Int)))) h.2.2.2.2.2)))
@[simp] noncomputable def t4_never (v_divisor : Int) (v_weights : (List Int)) : (Int × (List Int)) := (t5_never v_divisor v_weights ([true] : List Bool))
@[simp] def o4_never (v_divisor : Int) (v_weights : (List Int)) : Prop := (o5_never v_divisor v_weights ([true] : List Bool))
theorem w4_never (v_divisor : Int) (v_weights : (List Int)) (h : o4_never v_divisor v_weights) : srVal (s4_never [none, some (.fz (PyData.int v_divisor)), none, some (.ow (List.map PyData.int v_weights)), none, none, none, none]) = (fun (t : (Int × (List Int))) => Rs.ok ((dP2 PyData.int (dL PyData.int)) t)) (t4_never v_divisor v_weights) := by
  unfold o4_never at h
  unfold s4_never t4_never
  exact (k_asg (r_lst PyData.bool ([true] : List Bool) (r_cons (r_opd r_c) r_nil) rfl rfl) (g_ow rfl) (w5_never v_divisor v_weights ([true] : List Bool) h))
@[simp] noncomputable def t3_never (v_store : (List (Int × Int × (Option Int)))) (v_divisor : Int) : (Int × (List Int)) := (t4_never v_divisor (List.map (fun (x5 : (Int × Int × (Option Int))) => (x5).1) v_store))
@[simp] def o3_never (v_store : (List (Int × Int × (Option Int)))) (v_divisor : Int) : Prop := (List.length v_store ≤ 16777216) ∧ (True) ∧ (o4_never v_divisor (List.map (fun (x5 : (Int × Int × (Option Int))) => (x5).1) v_store))
theorem w3_never (v_store : (List (Int × Int × (Option Int)))) (v_divisor : Int) (h : o3_never v_store v_divisor) : srVal (s3_never [some (.fz ((dT (dP3 PyData.int PyData.int (dO PyData.int))) v_store)), some (.fz (PyData.int v_divisor)), none, none, none, none, none, none]) = (fun (t : (Int × (List Int))) => Rs.ok ((dP2 PyData.int (dL PyData.int)) t)) (t3_never v_store v_divisor) := by
  unfold o3_never at h
  unfold s3_never t3_never
  exact (k_asg (r_lc0 PyData.int (fun (x5 : (Int × Int × (Option Int))) => (x5).1) (r_iT (e := (dP3 PyData.int PyData.int (dO PyData.int))) (r_opd (r_var (i := 0) rfl)) rfl) rfl rfl rfl (h.1) (fun x5 hx6 => ⟨_, (g_fz rfl), ⟨_, _, _, (r_conv (d' := PyData.int (x5).1) (r_bin (r_opd (r_var (i := 2) rfl)) (r_opd r_c) (q_g2 rfl rfl rfl)) rfl), rfl, rfl⟩⟩)) (g_ow rfl) (k_w rfl (w4_never v_divisor (List.map (fun (x5 : (Int × Int × (Option Int))) => (x5).1) v_store) h.2.2)))
@[simp] noncomputable def t1_never (v_store : (List (Int × Int × (Option Int)))) (v_divisor : Int) : (Int × (List Int)) := (let s4 := (List.foldl (fun (s1 : (Int)) (x2 : (Int × Int × (Option Int))) => (t2_never v_store s1 x2)) (v_divisor) v_store); (t3_never v_store s4))
@[simp] def o1_never (v_store : (List (Int × Int × (Option Int)))) (v_divisor : Int) : Prop := (okF (fun (s1 : (Int)) (x2 : (Int × Int × (Option Int))) => (o2_never v_store s1 x2)) (fun (s1 : (Int)) (x2 : (Int × Int × (Option Int))) => (t2_never v_store s1 x2)) v_store (v_divisor) ∧ (let s4 := (List.foldl (fun (s1 : (Int)) (x2 : (Int × Int × (Option Int))) => (t2_never v_store s1 x2)) (v_divisor) v_store); (o3_never v_store s4)))
theorem w1_never (v_store : (List (Int × Int × (Option Int)))) (v_divisor : Int) (h : o1_never v_store v_divisor) : srVal (s1_never [some (.fz ((dT (dP3 PyData.int PyData.int (dO PyData.int))) v_store)), some (.fz (PyData.int v_divisor)), none, none, none, none, none, none]) = (fun (t : (Int × (List Int))) => Rs.ok ((dP2 PyData.int (dL PyData.int)) t)) (t1_never v_store v_divisor) := by
  unfold o1_never at h
  unfold s1_never t1_never
  exact (k_for (E1_never v_store) (fun (s1 : (Int)) (x2 : (Int × Int × (Option Int))) => (t2_never v_store s1 x2)) (fun (s1 : (Int)) (x2 : (Int × Int × (Option Int))) => (o2_never v_store s1 x2)) (v_divisor) (r_iT (e := (dP3 PyData.int PyData.int (dO PyData.int))) (r_opd (r_var (i := 0) rfl)) rfl) rfl (fun s1 x2 hx3 => ⟨_, (g_fz rfl), (w2_never v_store s1 x2 hx3)⟩) h.1 (w3_never v_store (List.foldl (fun (s1 : (Int)) (x2 : (Int × Int × (Option Int))) => (t2_never v_store s1 x2)) (v_divisor) v_store) h.2))
@[simp] noncomputable def t0_never (v_store : (List (Int × Int × (Option Int)))) : (Int × (List Int)) := (t1_never v_store (0 : Int))
@[simp] def o0_never (v_store : (List (Int × Int × (Option Int)))) : Prop := (o1_never v_store (0 : Int))
theorem w0_never (v_store : (List (Int × Int × (Option Int)))) (h : o0_never v_store) : srVal (s0_never [some (.fz ((dT (dP3 PyData.int PyData.int (dO PyData.int))) v_store)), none, none, none, none, none, none, none]) = (fun (t : (Int × (List Int))) => Rs.ok ((dP2 PyData.int (dL PyData.int)) t)) (t0_never v_store) := by
  unfold o0_never at h
  unfold s0_never t0_never
  exact (k_asg r_c (g_fz rfl) (w1_never v_store (0 : Int) h))
noncomputable def t_never (v_store : (List (Int × Int × (Option Int)))) : (Int × (List Int)) := (t0_never v_store)
def o_never (v_store : (List (Int × Int × (Option Int)))) : Prop := (o0_never v_store)
theorem v_never (v_store : (List (Int × Int × (Option Int)))) (h : o_never v_store) : (run_never [(.fz ((dT (dP3 PyData.int PyData.int (dO PyData.int))) v_store))]).val = (fun (t : (Int × (List Int))) => Rs.ok ((dP2 PyData.int (dL PyData.int)) t)) (t_never v_store) := by
  unfold run_never f_never t_never
  rw [run_val]
  exact (w0_never v_store h)
/-! never_filled -/
@[simp] noncomputable def t5_never_filled (v_divisor : Int) : (Ex D) := (Except.ok ((dP2 PyData.str PyData.int) (("ever" : Str), v_divisor)))
theorem w5_never_filled (v_divisor : Int) : srVal (s5_never_filled [none, some (.fz (PyData.int v_divisor)), none]) = (toRs dA) (t5_never_filled v_divisor) := by
  unfold s5_never_filled t5_never_filled
  exact (k_ret (r_conv (d' := dA ((dP2 PyData.str PyData.int) (("ever" : Str), v_divisor))) (r_conv (d' := (dP2 PyData.str PyData.int) (("ever" : Str), v_divisor)) (r_tup (r_cons (r_opd r_c) (r_cons (r_opd (r_var (i := 1) rfl)) r_nil)) rfl rfl) (by rfl)) (by rfl)) rfl)
@[simp] noncomputable def t4_never_filled (v_some : (List Int)) : (Ex D) := (Except.ok (if (!decide (v_some = ([] : List Int))) then ((dP2 PyData.str PyData.int) (("last" : Str), (lastI v_some))) else ((dP1 PyData.str) ("none" : Str))))
@[simp] def o4_never_filled (v_some : (List Int)) : Prop := (((!decide (v_some = ([] : List Int))) = true) → v_some ≠ []) ∧ True
theorem w4_never_filled (v_some : (List Int)) (h : o4_never_filled v_some) : srVal (s4_never_filled [none, none, some (.fz ((dL PyData.int) v_some))]) = (toRs dA) (t4_never_filled v_some) := by
  unfold o4_never_filled at h
  unfold s4_never_filled t4_never_filled
  exact (k_ret (r_eif (e := dA) (r_tst (r_bin (r_opd (r_var (i := 2) rfl)) (r_opw (r_lst PyData.int ([] : List Int) r_nil rfl rfl)) (q_gB (x := (dL PyData.int) v_some) (y := (dL PyData.int) ([] : List Int)) rfl rfl (z_ne (e := (dL PyData.int)) (a := v_some) (b := ([] : List Int)) (eq_L eq_int) (sh_L sh_int) rfl)))) (fun q6 => (r_conv (d' := dA ((dP2 PyData.str PyData.int) (("last" : Str), (lastI v_some)))) (r_conv (d' := (dP2 PyData.str PyData.int) (("last" : Str), (lastI v_some))) (r_tup (r_cons (r_opd r_c) (r_cons (r_opd (r_bin (r_opd (r_var (i := 2) rfl)) (r_opd (r_un (r_opd r_c) (q_g1 rfl rfl))) (q_g2 rfl rfl (z_laL (e := PyData.int) (h.1 q6))))) r_nil)) rfl rfl) (by rfl)) (by rfl))) (fun q6 => (r_conv (d' := dA ((dP1 PyData.str) ("none" : Str))) (r_conv (d' := (dP1 PyData.str) ("none" : Str)) (r_tup (r_cons (r_opd r_c) r_nil) rfl rfl) (by rfl)) (by rfl)))) rfl)
@[simp] noncomputable def t3_never_filled (v_divisor : Int) (v_some : (List Int)) : (Ex D) := (if (decide ((1 : Int) < v_divisor)) then (t5_never_filled v_divisor) else (t4_never_filled v_some))
@[simp] def o3_never_filled (v_divisor : Int) (v_some : (List Int)) : Prop := (((decide ((1 : Int) < v_divisor)) = true → True) ∧ ((decide ((1 : Int) < v_divisor)) = false → (o4_never_filled v_some)))
theorem w3_never_filled (v_divisor : Int) (v_some : (List Int)) (h : o3_never_filled v_divisor v_some) : srVal (s3_never_filled [none, some (.fz (PyData.int v_divisor)), some (.fz ((dL PyData.int) v_some))]) = (toRs dA) (t3_never_filled v_divisor v_some) := by
  unfold o3_never_filled at h
  unfold s3_never_filled t3_never_filled
  exact (k_if (mk := (toRs dA)) (r_tst (r_bin (r_opd (r_var (i := 1) rfl)) (r_opd r_c) (q_gB rfl rfl rfl))) (fun q5 => (k_w rfl (w5_never_filled v_divisor))) (fun q5 => (k_w rfl (w4_never_filled v_some (h.2 q5)))))
@[simp] noncomputable def t2_never_filled (v_store : (List (Int × Int × (Option Int)))) : (Ex D) := (t3_never_filled ((t_never v_store)).1 ((t_never v_store)).2)
@[simp] def o2_never_filled (v_store : (List (Int × Int × (Option Int)))) : Prop := (o_never v_store) ∧ (o3_never_filled ((t_never v_store)).1 ((t_never v_store)).2)
theorem w2_never_filled (v_store : (List (Int × Int × (Option Int)))) (h : o2_never_filled v_store) : srVal (s2_never_filled [some (.fz ((dT (dP3 PyData.int PyData.int (dO PyData.int))) v_store)), none, none]) = (toRs dA) (t2_never_filled v_store) := by
  unfold o2_never_filled at h
  unfold s2_never_filled t2_never_filled
  exact (k_asg (r_callF (r_cons (r_opd (r_var (i := 0) rfl)) r_nil) rfl rfl (v_never v_store (h.1)) rfl) (g_t (g_c (g_fz rfl) (g_c (g_fz rfl) g_n))) (k_w rfl (w3_never_filled ((t_never v_store)).1 ((t_never v_store)).2 h.2)))
@[simp] noncomputable def t1_never_filled (v_store : (List (Int × Int × (Option Int)))) : (Ex D) := (exC (t_need_endless v_store) (fun u3 => (t2_never_filled v_store)) (fun e => Except.error e))
@[simp] def o1_never_filled (v_store : (List (Int × Int × (Option Int)))) : Prop := (o_need_endless v_store) ∧ (∀ u3, (t_need_endless v_store) = .ok u3 → (o2_never_filled v_store))
theorem w1_never_filled (v_store : (List (Int × Int × (Option Int)))) (h : o1_never_filled v_store) : srVal (s1_never_filled [some (.fz ((dT (dP3 PyData.int PyData.int (dO PyData.int))) v_store)), none, none]) = (toRs dA) (t1_never_filled v_store) := by
  unfold o1_never_filled at h
  unfold s1_never_filled t1_never_filled
  exact (k_exX (mk := (toRs dA)) (r_callX (r_cons (r_opd (r_var (i := 0) rfl)) r_nil) rfl rfl (v_need_endless v_store (h.1)) nl_U) (fun u3 q4 => (w2_never_filled v_store (h.2 u3 q4))) (fun _ => rfl))
@[simp] noncomputable def t0_never_filled (v_store : (List (Int × Int × (Option Int)))) : (Ex D) := (exC (t_need_store ((dT (dP3 PyData.int PyData.int (dO PyData.int))) v_store)) (fun u1 => (t1_never_filled v_store)) (fun e => Except.error e))
@[simp] def o0_never_filled (v_store : (List (Int × Int × (Option Int)))) : Prop := (o_need_store ((dT (dP3 PyData.int PyData.int (dO PyData.int))) v_store)) ∧ (∀ u1, (t_need_store ((dT (dP3 PyData.int PyData.int (dO PyData.int))) v_store)) = .ok u1 → (o1_never_filled v_store))
theorem w0_never_filled (v_store : (List (Int × Int × (Option Int)))) (h : o0_never_filled v_store) : srVal (s0_never_filled [some (.fz ((dT (dP3 PyData.int PyData.int (dO PyData.int))) v_store)), none, none]) = (toRs dA) (t0_never_filled v_store) := by
  unfold o0_never_filled at h
  unfold s0_never_filled t0_never_filled
  exact (k_exX (mk := (toRs dA)) (r_callX (r_cons (r_opd (r_var (i := 0) rfl)) r_nil) rfl rfl (v_need_store ((dT (dP3 PyData.int PyData.int (dO PyData.int))) v_store) (h.1)) nl_U) (fun u1 q2 => (w1_never_filled v_store (h.2 u1 q2))) (fun _ => rfl))
noncomputable def t_never_filled (v_store : (List (Int × Int × (Option Int)))) : (Ex D) := (t0_never_filled v_store)
def o_never_filled (v_store : (List (Int × Int × (Option Int)))) : Prop := (o0_never_filled v_store)
theorem v_never_filled (v_store : (List (Int × Int × (Option Int)))) (h : o_never_filled v_store) : (run_never_filled [(.fz ((dT (dP3 PyData.int PyData.int (dO PyData.int))) v_store))]).val = (toRs dA) (t_never_filled v_store) := by
  unfold run_never_filled f_never_filled t_never_filled
  rw [run_val]
  exact (w0_never_filled v_store h)
/-! never_many -/
@[simp] noncomputable def t3_never_many (v_divisor : Int) (v_some : (List Int)) : (Ex (Option Int)) := (Except.ok (if (decide ((1 : Int) < v_divisor)) then (none : (Option Int)) else (some (List.length v_some : Int))))
theorem w3_never_many (v_divisor : Int) (v_some : (List Int)) : srVal (s3_never_many [none, some (.fz (PyData.int v_divisor)), some (.fz ((dL PyData.int) v_some))]) = (toRs (dO PyData.int)) (t3_never_many v_divisor v_some) := by
  unfold s3_never_many t3_never_many
  exact (k_ret (r_eif (e := (dO PyData.int)) (r_tst (r_bin (r_opd (r_var (i := 1) rfl)) (r_opd r_c) (q_gB rfl rfl rfl))) (fun q5 => (r_conv (d' := (dO PyData.int) (none : (Option Int))) r_c (by rfl))) (fun q5 => (r_conv (d' := (dO PyData.int) (some (List.length v_some : Int))) (r_un (r_opd (r_var (i := 2) rfl)) (q_g1 rfl (z_lenL (e := PyData.int)))) (by rfl)))) rfl)
@[simp] noncomputable def t2_never_many (v_store : (List (Int × Int × (Option Int)))) : (Ex (Option Int)) := (t3_never_many ((t_never v_store)).1 ((t_never v_store)).2)
@[simp] def o2_never_many (v_store : (List (Int × Int × (Option Int)))) : Prop := (o_never v_store) ∧ True
theorem w2_never_many (v_store : (List (Int × Int × (Option Int)))) (h : o2_never_many v_store) : srVal (s2_never_many [some (.fz ((dT (dP3 PyData.int PyData.int (dO PyData.int))) v_store)), none, none]) = (toRs (dO PyData.int)) (t2_never_many v_store) := by
  unfold o2_never_many at h
  unfold s2_never_many t2_never_many
  exact (k_asg (r_callF (r_cons (r_opd (r_var (i := 0) rfl)) r_nil) rfl rfl (v_never v_store (h.1)) rfl) (g_t (g_c (g_fz rfl) (g_c (g_fz rfl) g_n))) (k_w rfl (w3_never_many ((t_never v_store)).1 ((t_never v_store)).2)))
@[simp] noncomputable def t1_never_many (v_store : (List (Int × Int × (Option Int)))) : (Ex (Option Int)) := (exC (t_need_endless v_store) (fun u3 => (t2_never_many v_store)) (fun e => Except.error e))
@[simp] def o1_never_many (v_store : (List (Int × Int × (Option Int)))) : Prop := (o_need_endless v_store) ∧ (∀ u3, (t_need_endless v_store) = .ok u3 → (o2_never_many v_store))
theorem w1_never_many (v_store : (List (Int × Int × (Option Int)))) (h : o1_never_many v_store) : srVal (s1_never_many [some (.fz ((dT (dP3 PyData.int PyData.int (dO PyData.int))) v_store)), none, none]) = (toRs (dO PyData.int)) (t1_never_many v_store) := by
  unfold o1_never_many at h
  unfold s1_never_many t1_never_many
  exact (k_exX (mk := (toRs (dO PyData.int))) (r_callX (r_cons (r_opd (r_var (i := 0) rfl)) r_nil) rfl rfl (v_need_endless v_store (h.1)) nl_U) (fun u3 q4 => (w2_never_many v_store (h.2 u3 q4))) (fun _ => rfl))
@[simp] noncomputable def t0_never_many (v_store : (List (Int × Int × (Option Int)))) : (Ex (Option Int)) := (exC (t_need_store ((dT (dP3 PyData.int PyData.int (dO PyData.int))) v_store)) (fun u1 => (t1_never_many v_store)) (fun e => Except.error e))
@[simp] def o0_never_many (v_store : (List (Int × Int × (Option Int)))) : Prop := (o_need_store ((dT (dP3 PyData.int PyData.int (dO PyData.int))) v_store)) ∧ (∀ u1, (t_need_store ((dT (dP3 PyData.int PyData.int (dO PyData.int))) v_store)) = .ok u1 → (o1_never_many v_store))
theorem w0_never_many (v_store : (List (Int × Int × (Option Int)))) (h : o0_never_many v_store) : srVal (s0_never_many [some (.fz ((dT (dP3 PyData.int PyData.int (dO PyData.int))) v_store)), none, none]) = (toRs (dO PyData.int)) (t0_never_many v_store) := by
  unfold o0_never_many at h
  unfold s0_never_many t0_never_many
  exact (k_exX (mk := (toRs (dO PyData.int))) (r_callX (r_cons (r_opd (r_var (i := 0) rfl)) r_nil) rfl rfl (v_need_store ((dT (dP3 PyData.int PyData.int (dO PyData.int))) v_store) (h.1)) nl_U) (fun u1 q2 => (w1_never_many v_store (h.2 u1 q2))) (fun _ => rfl))
noncomputable def t_never_many (v_store : (List (Int × Int × (Option Int)))) : (Ex (Option Int)) := (t0_never_many v_store)
def o_never_many (v_store : (List (Int × Int × (Option Int)))) : Prop := (o0_never_many v_store)
theorem v_never_many (v_store : (List (Int × Int × (Option Int)))) (h : o_never_many v_store) : (run_never_many [(.fz ((dT (dP3 PyData.int PyData.int (dO PyData.int))) v_store))]).val = (toRs (dO PyData.int)) (t_never_many v_store) := by
  unfold run_never_many f_never_many t_never_many
  rw [run_val]
  exact (w0_never_many v_store h)
/-! law -/
@[reducible] def E0_law (v_script : (List Int)) : Unit → Ga := fun s => [some (.scr v_script), none, none, none, none, none, none, none, none, none, none]
@[simp] noncomputable def t7_law : (TO Unit Bool) := (TO.ret false)
theorem w7_law (v_script : (List Int)) : srT (s7_law [none, none, none, none, none, none, none, none, none, none, none]) = (mkT (E0_law v_script) (fun (t : Bool) => Rs.ok (PyData.bool t))) (t7_law) := by
  unfold s7_law t7_law
  exact (k_retT r_c rfl)
@[simp] noncomputable def t6_law (v_script : (List Int)) (v_store : (List (Int × Int × (Option Int)))) (v_due : D) (v_many : (Option Int)) : (TO Unit Bool) := (if ((!decide ((repT (getOk (t_never_filled v_store))) = (repT v_due))) || (!decide ((repT ((dO PyData.int) (getOk (t_never_many v_store)))) = (repT ((dO PyData.int) v_many))))) then (t7_law) else (TO.nx ()))
@[simp] def o6_law (v_script : (List Int)) (v_store : (List (Int × Int × (Option Int)))) (v_due : D) (v_many : (Option Int)) : Prop := (o_never_filled v_store) ∧ (isOk (t_never_filled v_store) = true) ∧ (noL (getOk (t_never_filled v_store)) = true) ∧ ((reprD (getOk (t_never_filled v_store))).isSome = true) ∧ ((reprD v_due).isSome = true) ∧ (((!decide ((repT (getOk (t_never_filled v_store))) = (repT v_due))) = false) → o_never_many v_store) ∧ (((!decide ((repT (getOk (t_never_filled v_store))) = (repT v_due))) = false) → isOk (t_never_many v_store) = true) ∧ (((!decide ((repT (getOk (t_never_filled v_store))) = (repT v_due))) = false) → (reprD ((dO PyData.int) (getOk (t_never_many v_store)))).isSome = true) ∧ (((!decide ((repT (getOk (t_never_filled v_store))) = (repT v_due))) = false) → (reprD ((dO PyData.int) v_many)).isSome = true) ∧ True
theorem w6_law (v_script : (List Int)) (v_store : (List (Int × Int × (Option Int)))) (v_due : D) (v_many : (Option Int)) (h : o6_law v_script v_store v_due v_many) : srT (s6_law [some (.scr v_script), none, none, none, some (.fz ((dT (dP3 PyData.int PyData.int (dO PyData.int))) v_store)), some (.fz (dA v_due)), some (.fz ((dO PyData.int) v_many)), none, none, none, none]) = (mkT (E0_law v_script) (fun (t : Bool) => Rs.ok (PyData.bool t))) (t6_law v_script v_store v_due v_many) := by
  unfold o6_law at h
  unfold s6_law t6_law
  exact (k_if (mk := (mkT (E0_law v_script) (fun (t : Bool) => Rs.ok (PyData.bool t)))) (r_for (r_tst (r_bin (r_opd (r_un (r_opd (r_call (d := (getOk (t_never_filled v_store))) (r_cons (r_opd (r_var (i := 4) rfl)) r_nil) rfl rfl (x_ok (e := dA) (v_never_filled v_store (h.1)) (h.2.1)) (h.2.2.1))) (q_g1 (x := (getOk (t_never_filled v_store))) rfl (z_repr (h.2.2.2.1))))) (r_opd (r_un (r_opd (r_var (i := 5) rfl)) (q_g1 (x := v_due) rfl (z_repr (h.2.2.2.2.1))))) (q_gB rfl rfl z_nes))) (fun q10 => (r_tst (r_bin (r_opd (r_un (r_opd (r_call (r_cons (r_opd (r_var (i := 4) rfl)) r_nil) rfl rfl (x_ok (v_never_many v_store (h.2.2.2.2.2.1 q10)) (h.2.2.2.2.2.2.1 q10)) ((nl_O nl_int) (getOk (t_never_many v_store))))) (q_g1 (x := ((dO PyData.int) (getOk (t_never_many v_store)))) rfl (z_repr (h.2.2.2.2.2.2.2.1 q10))))) (r_opd (r_un (r_opd (r_var (i := 6) rfl)) (q_g1 (x := ((dO PyData.int) v_many)) rfl (z_repr (h.2.2.2.2.2.2.2.2.1 q10))))) (q_gB rfl rfl z_nes))))) (fun q11 => (k_w rfl (w7_law v_script))) (fun q11 => (k_w rfl rfl)))
@[simp] noncomputable def t5_law (v_script : (List Int)) (v_store : (List (Int × Int × (Option Int)))) : (TO Unit Bool) := (t6_law v_script v_store ((t__law_due (List.map (fun (x7 : (Int × Int × (Option Int))) => (x7).1) v_store))).1 ((t__law_due (List.map (fun (x7 : (Int × Int × (Option Int))) => (x7).1) v_store))).2)
@[simp] def o5_law (v_script : (List Int)) (v_store : (List (Int × Int × (Option Int)))) : Prop := (List.length v_store ≤ 16777216) ∧ (True) ∧ (o__law_due (List.map (fun (x7 : (Int × Int × (Option Int))) => (x7).1) v_store)) ∧ (noL ((dP2 dA (dO PyData.int)) (t__law_due (List.map (fun (x7 : (Int × Int × (Option Int))) => (x7).1) v_store))) = true) ∧ (o6_law v_script v_store ((t__law_due (List.map (fun (x7 : (Int × Int × (Option Int))) => (x7).1) v_store))).1 ((t__law_due (List.map (fun (x7 : (Int × Int × (Option Int))) => (x7).1) v_store))).2)
theorem w5_law (v_script : (List Int)) (v_store : (List (Int × Int × (Option Int)))) (h : o5_law v_script v_store) : srT (s5_law [some (.scr v_script), none, none, none, some (.fz ((dT (dP3 PyData.int PyData.int (dO PyData.int))) v_store)), none, none, none, none, none, none]) = (mkT (E0_law v_script) (fun (t : Bool) => Rs.ok (PyData.bool t))) (t5_law v_script v_store) := by
  unfold o5_law at h
  unfold s5_law t5_law
  exact (k_asg (r_call (d := ((dP2 dA (dO PyData.int)) (t__law_due (List.map (fun (x7 : (Int × Int × (Option Int))) => (x7).1) v_store)))) (r_cons (r_opw (r_lc0 PyData.int (fun (x7 : (Int × Int × (Option Int))) => (x7).1) (r_iT (e := (dP3 PyData.int PyData.int (dO PyData.int))) (r_opd (r_var (i := 4) rfl)) rfl) rfl rfl rfl (h.1) (fun x7 hx8 => ⟨_, (g_fz rfl), ⟨_, _, _, (r_conv (d' := PyData.int (x7).1) (r_bin (r_opd (r_var (i := 10) rfl)) (r_opd r_c) (q_g2 rfl rfl rfl)) rfl), rfl, rfl⟩⟩))) r_nil) rfl rfl (v__law_due (List.map (fun (x7 : (Int × Int × (Option Int))) => (x7).1) v_store) (h.2.2.1)) (h.2.2.2.1)) (g_t (g_c (g_fz rfl) (g_c (g_fz rfl) g_n))) (w6_law v_script v_store ((t__law_due (List.map (fun (x7 : (Int × Int × (Option Int))) => (x7).1) v_store))).1 ((t__law_due (List.map (fun (x7 : (Int × Int × (Option Int))) => (x7).1) v_store))).2 h.2.2.2.2))
@[simp] noncomputable def t4_law (v_script : (List Int)) (v_by : Int) (v_store : (List (Int × Int × (Option Int)))) : (TO Unit Bool) := (t5_law v_script (List.map (fun (x4 : (Int × Int × (Option Int))) => (((x4).1 * v_by), (x4).2.1, (x4).2.2)) v_store))
@[simp] def o4_law (v_script : (List Int)) (v_by : Int) (v_store : (List (Int × Int × (Option Int)))) : Prop := (List.length v_store ≤ 16777216) ∧ ((∀ x4 : (Int × Int × (Option Int)), x4 ∈ v_store → (mulOk (x4).1 v_by = true) ∧ True)) ∧ (o5_law v_script (List.map (fun (x4 : (Int × Int × (Option Int))) => (((x4).1 * v_by), (x4).2.1, (x4).2.2)) v_store))
theorem w4_law (v_script : (List Int)) (v_by : Int) (v_store : (List (Int × Int × (Option Int)))) (h : o4_law v_script v_by v_store) : srT (s4_law [some (.scr v_script), none, none, some (.fz (PyData.int v_by)), some (.fz ((dT (dP3 PyData.int PyData.int (dO PyData.int))) v_store)), none, none, none, none, none, none]) = (mkT (E0_law v_script) (fun (t : Bool) => Rs.ok (PyData.bool t))) (t4_law v_script v_by v_store) := by
  unfold o4_law at h
  unfold s4_law t4_law
  exact (k_asg (r_un (r_opw (r_lc0 (dP3 PyData.int PyData.int (dO PyData.int)) (fun (x4 : (Int × Int × (Option Int))) => (((x4).1 * v_by), (x4).2.1, (x4).2.2)) (r_iT (e := (dP3 PyData.int PyData.int (dO PyData.int))) (r_opd (r_var (i := 4) rfl)) rfl) rfl rfl rfl (h.1) (fun x4 hx5 => ⟨_, (g_t (g_c (g_fz rfl) (g_c (g_fz rfl) (g_c (g_fz rfl) g_n)))), ⟨_, _, _, (r_conv (d' := (dP3 PyData.int PyData.int (dO PyData.int)) (((x4).1 * v_by), (x4).2.1, (x4).2.2)) (r_tup (r_cons (r_opd (r_bin (r_opd (r_var (i := 7) rfl)) (r_opd (r_var (i := 3) rfl)) (q_mulI ((h.2.1 x4 hx5).1)))) (r_cons (r_opd (r_var (i := 8) rfl)) (r_cons (r_opd (r_var (i := 9) rfl)) r_nil))) rfl rfl) (by rfl)), rfl, rfl⟩⟩))) (q_g1 rfl (z_tup (e := (dP3 PyData.int PyData.int (dO PyData.int)))))) (g_fz rfl) (k_w rfl (w5_law v_script (List.map (fun (x4 : (Int × Int × (Option Int))) => (((x4).1 * v_by), (x4).2.1, (x4).2.2)) v_store) h.2.2)))
@[simp] noncomputable def t3_law (v_script : (List Int)) (v_box : (List Int)) (v_by : Int) : (TO Unit Bool) := (t4_law v_script v_by (t__law_endless (t__law_take v_box (8 : Int)).2 (5 : Int) ((gI ([(9 : Int), (9 : Int), (9 : Int), (9 : Int), (9 : Int), (4 : Int), (5 : Int), ((10 : Int) * (2 : Int))] : List Int) (t__law_take v_box (8 : Int)).1) / v_by)).1)
@[simp] def o3_law (v_script : (List Int)) (v_box : (List Int)) (v_by : Int) : Prop := (mulOk (10 : Int) (2 : Int) = true) ∧ (o__law_take v_box (8 : Int)) ∧ ((0 ≤ (t__law_take v_box (8 : Int)).1 ∧ (t__law_take v_box (8 : Int)).1 < (List.length ([(9 : Int), (9 : Int), (9 : Int), (9 : Int), (9 : Int), (4 : Int), (5 : Int), ((10 : Int) * (2 : Int))] : List Int) : Int))) ∧ (fdivOk v_by = true) ∧ (o__law_endless (t__law_take v_box (8 : Int)).2 (5 : Int) ((gI ([(9 : Int), (9 : Int), (9 : Int), (9 : Int), (9 : Int), (4 : Int), (5 : Int), ((10 : Int) * (2 : Int))] : List Int) (t__law_take v_box (8 : Int)).1) / v_by)) ∧ (o4_law v_script v_by (t__law_endless (t__law_take v_box (8 : Int)).2 (5 : Int) ((gI ([(9 : Int), (9 : Int), (9 : Int), (9 : Int), (9 : Int), (4 : Int), (5 : Int), ((10 : Int) * (2 : Int))] : List Int) (t__law_take v_box (8 : Int)).1) / v_by)).1)
theorem w3_law (v_script : (List Int)) (v_box : (List Int)) (v_by : Int) (h : o3_law v_script v_box v_by) : srT (s3_law [some (.scr v_script), none, some (.ow (List.map PyData.int v_box)), some (.fz (PyData.int v_by)), none, none, none, none, none, none, none]) = (mkT (E0_law v_script) (fun (t : Bool) => Rs.ok (PyData.bool t))) (t3_law v_script v_box v_by) := by
  unfold o3_law at h
  unfold s3_law t3_law
  exact (k_asg (r_callIo (r_cons (r_ops (r_vsl (i := 2) rfl rfl)) (r_cons (r_opd r_c) (r_cons (r_opd (r_bin (r_opd (r_bin (r_opw (r_lst PyData.int ([(9 : Int), (9 : Int), (9 : Int), (9 : Int), (9 : Int), (4 : Int), (5 : Int), ((10 : Int) * (2 : Int))] : List Int) (r_cons (r_opd r_c) (r_cons (r_opd r_c) (r_cons (r_opd r_c) (r_cons (r_opd r_c) (r_cons (r_opd r_c) (r_cons (r_opd r_c) (r_cons (r_opd r_c) (r_cons (r_opd (r_bin (r_opd r_c) (r_opd r_c) (q_mulI (h.1)))) r_nil)))))))) rfl rfl)) (r_opd (r_callIo (r_cons (r_ops (r_vsl (i := 2) rfl rfl)) (r_cons (r_opd r_c) r_nil)) rfl rfl rfl rfl (v__law_take v_box (8 : Int) (h.2.1)) (nls_map nl_int (t__law_take v_box (8 : Int)).2) rfl (nl_int (t__law_take v_box (8 : Int)).1))) (q_g2 rfl rfl (z_ixL (e := PyData.int) (h.2.2.1))))) (r_opd (r_var (i := 3) rfl)) (q_g2 rfl rfl (z_fdiv (h.2.2.2.1))))) r_nil))) rfl rfl rfl rfl (v__law_endless (t__law_take v_box (8 : Int)).2 (5 : Int) ((gI ([(9 : Int), (9 : Int), (9 : Int), (9 : Int), (9 : Int), (4 : Int), (5 : Int), ((10 : Int) * (2 : Int))] : List Int) (t__law_take v_box (8 : Int)).1) / v_by) (h.2.2.2.2.1)) (nls_map nl_int (t__law_endless (t__law_take v_box (8 : Int)).2 (5 : Int) ((gI ([(9 : Int), (9 : Int), (9 : Int), (9 : Int), (9 : Int), (4 : Int), (5 : Int), ((10 : Int) * (2 : Int))] : List Int) (t__law_take v_box (8 : Int)).1) / v_by)).2) rfl ((nl_T (nl_P3 nl_int nl_int (nl_O nl_int))) (t__law_endless (t__law_take v_box (8 : Int)).2 (5 : Int) ((gI ([(9 : Int), (9 : Int), (9 : Int), (9 : Int), (9 : Int), (4 : Int), (5 : Int), ((10 : Int) * (2 : Int))] : List Int) (t__law_take v_box (8 : Int)).1) / v_by)).1)) (g_fz rfl) (k_w rfl (w4_law v_script v_by (t__law_endless (t__law_take v_box (8 : Int)).2 (5 : Int) ((gI ([(9 : Int), (9 : Int), (9 : Int), (9 : Int), (9 : Int), (4 : Int), (5 : Int), ((10 : Int) * (2 : Int))] : List Int) (t__law_take v_box (8 : Int)).1) / v_by)).1 h.2.2.2.2.2)))
@[simp] noncomputable def t2_law (v_script : (List Int)) (v_box : (List Int)) : (TO Unit Bool) := (t3_law v_script (t__law_take v_box (4 : Int)).2 (gI ([(1 : Int), (1 : Int), (1 : Int), (2 : Int)] : List Int) (t__law_take v_box (4 : Int)).1))
@[simp] def o2_law (v_script : (List Int)) (v_box : (List Int)) : Prop := (o__law_take v_box (4 : Int)) ∧ ((0 ≤ (t__law_take v_box (4 : Int)).1 ∧ (t__law_take v_box (4 : Int)).1 < (List.length ([(1 : Int), (1 : Int), (1 : Int), (2 : Int)] : List Int) : Int))) ∧ (o3_law v_script (t__law_take v_box (4 : Int)).2 (gI ([(1 : Int), (1 : Int), (1 : Int), (2 : Int)] : List Int) (t__law_take v_box (4 : Int)).1))
theorem w2_law (v_script : (List Int)) (v_box : (List Int)) (h : o2_law v_script v_box) : srT (s2_law [some (.scr v_script), none, some (.ow (List.map PyData.int v_box)), none, none, none, none, none, none, none, none]) = (mkT (E0_law v_script) (fun (t : Bool) => Rs.ok (PyData.bool t))) (t2_law v_script v_box) := by
  unfold o2_law at h
  unfold s2_law t2_law
  exact (k_asg (r_bin (r_opw (r_lst PyData.int ([(1 : Int), (1 : Int), (1 : Int), (2 : Int)] : List Int) (r_cons (r_opd r_c) (r_cons (r_opd r_c) (r_cons (r_opd r_c) (r_cons (r_opd r_c) r_nil)))) rfl rfl)) (r_opd (r_callIo (r_cons (r_ops (r_vsl (i := 2) rfl rfl)) (r_cons (r_opd r_c) r_nil)) rfl rfl rfl rfl (v__law_take v_box (4 : Int) (h.1)) (nls_map nl_int (t__law_take v_box (4 : Int)).2) rfl (nl_int (t__law_take v_box (4 : Int)).1))) (q_g2 rfl rfl (z_ixL (e := PyData.int) (h.2.1)))) (g_fz rfl) (w3_law v_script (t__law_take v_box (4 : Int)).2 (gI ([(1 : Int), (1 : Int), (1 : Int), (2 : Int)] : List Int) (t__law_take v_box (4 : Int)).1) h.2.2))
@[simp] noncomputable def t1_law (v_script : (List Int)) (v_k : Int) : (TO Unit Bool) := (t2_law v_script (t__law_box v_script v_k))
@[simp] def o1_law (v_script : (List Int)) (v_k : Int) : Prop := (o__law_box v_script v_k) ∧ (o2_law v_script (t__law_box v_script v_k))
theorem w1_law (v_script : (List Int)) (v_k : Int) (h : o1_law v_script v_k) : srT (s1_law [some (.scr v_script), some (.fz (PyData.int v_k)), none, none, none, none, none, none, none, none, none]) = (mkT (E0_law v_script) (fun (t : Bool) => Rs.ok (PyData.bool t))) (t1_law v_script v_k) := by
  unfold o1_law at h
  unfold s1_law t1_law
  exact (k_asg (r_callL (r_cons (r_ops (r_vsl (i := 0) rfl rfl)) (r_cons (r_opd (r_var (i := 1) rfl)) r_nil)) rfl rfl (v__law_box v_script v_k (h.1)) (all_cons rfl (all_cons (nl_int v_k) all_nil)) nl_int) (g_ow rfl) (k_w rfl (w2_law v_script (t__law_box v_script v_k) h.2)))
@[simp] noncomputable def t8_law : Bool := true
theorem w8_law : srVal (s8_law [none, none, none, none, none, none, none, none, none, none, none]) = (fun (t : Bool) => Rs.ok (PyData.bool t)) (t8_law) := by
  unfold s8_law t8_law
  exact (k_ret r_c rfl)
@[simp] noncomputable def t0_law (v_script : (List Int)) : Bool := (elT (forT (fun (s1 : Unit) (x2 : Int) => (t1_law v_script x2)) (rngI 0 (max (1 : Int) (min (List.length v_script : Int) (4 : Int)))) ()) (fun (s12 : Unit) => (t8_law)) (fun r13 => r13))
@[simp] def o0_law (v_script : (List Int)) : Prop := (rgOk (max (1 : Int) (min (List.length v_script : Int) (4 : Int))) = true) ∧ (okT (fun (s1 : Unit) (x2 : Int) => (o1_law v_script x2)) (fun (s1 : Unit) (x2 : Int) => (t1_law v_script x2)) (rngI 0 (max (1 : Int) (min (List.length v_script : Int) (4 : Int)))) () ∧ True)
theorem w0_law (v_script : (List Int)) (h : o0_law v_script) : srVal (s0_law [some (.scr v_script), none, none, none, none, none, none, none, none, none, none]) = (fun (t : Bool) => Rs.ok (PyData.bool t)) (t0_law v_script) := by
  unfold o0_law at h
  unfold s0_law t0_law
  exact (k_forT (mk := (fun (t : Bool) => Rs.ok (PyData.bool t))) finr_val (fun (t : Bool) => Rs.ok (PyData.bool t)) (E0_law v_script) (fun (s1 : Unit) (x2 : Int) => (t1_law v_script x2)) (fun (s1 : Unit) (x2 : Int) => (o1_law v_script x2)) () (r_iR1 (r_cons (r_opd (r_bin (r_opd r_c) (r_opd (r_bin (r_opd (r_un (r_ops (r_vsl (i := 0) rfl rfl)) (q_g1 rfl (z_lenL (e := PyData.int))))) (r_opd r_c) (q_g2 rfl rfl rfl))) (q_g2 rfl rfl rfl))) r_nil) (h.1)) rfl (fun s1 x2 hx3 => ⟨_, (g_fz rfl), (w1_law v_script x2 hx3)⟩) h.2.1 (fun s12 q14 => (k_w rfl (w8_law))) (fun _ => rfl))
noncomputable def t_law (v_script : (List Int)) : Bool := (t0_law v_script)
def o_law (v_script : (List Int)) : Prop := (o0_law v_script)
theorem v_law (v_script : (List Int)) (h : o_law v_script) : (run_law [(.scr v_script)]).val = (fun (t : Bool) => Rs.ok (PyData.bool t)) (t_law v_script) := by
  unfold run_law f_law t_law
  rw [run_val]
  exact (w0_law v_script h)
end Lw_k53

namespace Lw_k53
open PySem PySem.Spec L2 FL
theorem take_t {b m : Int} : t__law_take [b] m = (b % m, [b / m]) := rfl
theorem take_o {b m : Int} (h : 0 < m) (h2 : m < 18446744073709551616) : o__law_take [b] m := by
  simp [o__law_take, fdiv_s h h2]
theorem md_b {i m : Int} (h : 0 < m) (l : m ≤ 2147483647) : bits 31 (i % m) := by
  have a := Int.emod_nonneg i (Int.ne_of_gt h)
  have b := Int.emod_lt_of_pos i h
  show (i % m).natAbs < 2 ^ 31
  omega
theorem box_run (here : Int) : okF (fun s x => o5__law_box here s x) (fun s x => t5__law_box here s x) (rngI 0 16) 0 := by
  refine (fold_idx (fun i s => bits (40 * i + 31) s) (by unfold bits; decide) fun i s x hx hb => ?_).1
  obtain ⟨rfl, hi⟩ := rng_get hx
  have m1 : mulOk (here % 2147483647) 48271 = true := mulOk_of (md_b (by decide) (by decide)) (m := 31) (by unfold bits; decide) (by decide)
  have m2 : mulOk 7919 (0 + (i : Int)) = true := mulOk_of (n := 31) (m := 31) (by unfold bits; decide) (by unfold bits; omega) (by decide)
  simp only [o5__law_box, o6__law_box, o7__law_box, t5__law_box, t6__law_box, t7__law_box]
  generalize hp : (here % 2147483647 * 48271 + 7919 * (0 + (i : Int)) + 1) % 2147483647 = p
  have bp : bits 31 p := by rw [← hp]; exact md_b (by decide) (by decide)
  generalize hq : p * p % 2147483629 = q
  have bq : bits 31 q := by rw [← hq]; exact md_b (by decide) (by decide)
  have b1 : bits (40 * i + 62) (s * 2147483647) := (bits.mul hb (m := 31) (by unfold bits; decide)).up (by omega)
  have b2 : bits (40 * i + 62) (q * (q + 13) % 2147483647) := (md_b (i := q * (q + 13)) (m := 2147483647) (by decide) (by decide)).up (by omega)
  exact ⟨⟨m1, m2, mulOk_of bp bp (by decide), mulOk_of hb (m := 31) (by unfold bits; decide) (by omega), mulOk_of bq (m := 32) (bits.add bq (by unfold bits; decide)) (by decide), trivial⟩, (bits.add b1 b2).up (by omega)⟩
theorem box_s (ns : List Int) (k : Int) (h0 : 0 ≤ k) (hk : k < 1000) : o__law_box ns k ∧ ∃ b, t__law_box ns k = [b] := by
  have m1 : mulOk 7919 k = true := mulOk_of (n := 31) (m := 31) (by unfold bits; decide) (by unfold bits; omega) (by decide)
  have rest : ∀ here : Int, o2__law_box here ∧ ∃ b, t2__law_box here = [b] := fun here => by
    have := box_run here
    by_cases c : here % 2 = 0
    · exact ⟨⟨fun _ => trivial, fun q => by simp [c] at q⟩, here / 2, by simp [c]⟩
    · exact ⟨⟨fun _ => trivial, fun _ => ⟨this, trivial⟩⟩, _, by simp only [t2__law_box, c, decide_false, Bool.false_eq_true, if_false, t3__law_box, t4__law_box, t8__law_box]; rfl⟩
  have r1 := rest (7919 * k + 13)
  have r2 := rest (gI ns k)
  by_cases c : k < (ns.length : Int)
  · exact ⟨⟨m1, fun _ => ⟨⟨h0, c⟩, r2.1⟩, fun q => by simp [c] at q⟩, by simpa only [t__law_box, t0__law_box, t1__law_box, c, decide_true, if_true, t10__law_box] using r2.2⟩
  · exact ⟨⟨m1, fun q => by simp [c] at q, fun _ => r1.1⟩, by simpa only [t__law_box, t0__law_box, t1__law_box, c, decide_false, Bool.false_eq_true, if_false] using r1.2⟩
theorem is_from_i {i l : Int} : t_is_from (.int i) l = decide (l ≤ i) ∧ o_is_from (.int i) l := ⟨rfl, by simp [o_is_from]⟩
theorem is_from_o (d : D) (l : Int) : o_is_from d l := ⟨fun a b => by
  cases d <;> first | rfl | exact Bool.noConfusion a | exact Bool.noConfusion b, trivial⟩
theorem is_from_int {d : D} {l : Int} (h : t_is_from d l = true) : isInt d = true := by
  cases d <;> first | rfl | exact Bool.noConfusion h
theorem is_kind_s {k : KK} (h : Kok k) : t_is_kind (dK k) = true ∧ o_is_kind (dK k) := by
  obtain ⟨w, v, m⟩ := k
  have hw := h.w; have hv := h.v
  cases m with
  | none => exact ⟨by simp [t_is_kind, is_from_i.1, hw, hv, dO], by simp [o_is_kind, is_from_i.1, is_from_i.2, hw, hv, dO]⟩
  | some x =>
    have hx := h.m x rfl
    exact ⟨by simp [t_is_kind, is_from_i.1, hw, hv, dO, hx], by simp [o_is_kind, is_from_i.1, is_from_i.2, hw, hv, dO, hx]⟩
theorem is_store_s {l : List KK} (h : ∀ k ∈ l, Kok k) (hl : l.length ≤ 12) : t_is_store (dT dK l) = true ∧ o_is_store (dT dK l) := by
  have h1 : ∀ k ∈ l, t_is_kind (dK k) = true := fun k hk => (is_kind_s (h k hk)).1
  have h2 : ∀ k ∈ l, o_is_kind (dK k) := fun k hk => (is_kind_s (h k hk)).2
  have l2 : (l.length : Int) ≤ 12 := by omega
  have l3 : l.length ≤ 16777216 := by omega
  exact ⟨by simp [t_is_store, l2]; exact fun a b c hk => h1 _ hk, by simp [o_is_store, l2, l3]; exact fun _ a b c hk e => e ▸ h2 _ hk⟩
theorem need_store_s {l : List KK} (h : ∀ k ∈ l, Kok k) (hl : l.length ≤ 12) : t_need_store (dT dK l) = .ok () ∧ o_need_store (dT dK l) := by
  obtain ⟨a, b⟩ := is_store_s h hl
  exact ⟨by simp [t_need_store, a], by simp [o_need_store, b]⟩
theorem lenA_t (xs : List D) : lenA (.tuple xs) = xs.length := by
  have := lenA_dT (e := dA) (l := xs)
  unfold dT at this
  rwa [map_dA] at this
theorem lenD_t (xs : List D) : lenD (.tuple xs) = some (.int xs.length) := by
  have := lenD_dT (e := dA) (l := xs)
  unfold dT at this
  rwa [map_dA] at this
theorem tup_of {d : D} (h : isiB .tuple d = true) : ∃ xs, d = .tuple xs := by
  cases d <;> first | exact ⟨_, rfl⟩ | exact Bool.noConfusion h
theorem is_kind_o (d : D) : o_is_kind d := by
  unfold o_is_kind o0_is_kind
  by_cases q : isiB .tuple d = true
  · obtain ⟨xs, rfl⟩ := tup_of q
    refine ⟨fun _ => by rw [lenD_t]; rfl, fun _ => trivial, fun h => ?_⟩
    rw [lenA_t] at h
    have h3 : xs.length = 3 := by
      simp at h
      omega
    match xs, h3 with
    | [a, b, c], _ => exact ⟨rfl, is_from_o _ _, fun _ => rfl, fun _ => is_from_o _ _, fun _ => trivial, fun _ => ⟨rfl, fun _ => rfl, fun _ => is_from_o _ _, trivial⟩⟩
  · rw [eq_false_of_ne_true q]
    exact ⟨fun h => (by cases h), fun _ => trivial, fun h => by cases h⟩
theorem is_store_o (d : D) : o_is_store d := by
  unfold o_is_store o0_is_store
  by_cases q : isiB .tuple d = true
  · obtain ⟨xs, rfl⟩ := tup_of q
    refine ⟨fun _ => by rw [lenD_t]; rfl, fun _ _ => rfl, fun _ h => ?_, fun _ _ x _ => ⟨is_kind_o x, trivial⟩, trivial⟩
    rw [lenA_t] at h
    have := of_decide_eq_true h
    show xs.length ≤ 16777216
    omega
  · rw [eq_false_of_ne_true q]
    exact ⟨fun h => (by cases h), fun h => (by cases h), fun h => (by cases h), fun h => (by cases h), trivial⟩
theorem need_store_d (d : D) : t_need_store d = (if t_is_store d then .ok () else .error ⟨"NoStore", none⟩) ∧ o_need_store d := by
  refine ⟨?_, is_store_o d, trivial⟩
  unfold t_need_store t0_need_store t1_need_store
  cases t_is_store d <;> rfl
theorem need_bad {d : D} (h : t_is_store d = false) : t_need_store d = .error ⟨"NoStore", none⟩ ∧ o_need_store d := by
  obtain ⟨a, b⟩ := need_store_d d
  rw [h] at a
  exact ⟨a, b⟩
theorem take_b {b m : Int} {n : Nat} (h : 0 < m) (h2 : bits n m) (h3 : n ≤ 9000) : o__law_take [b] m := by
  simp [o__law_take, fdiv_b h h2 h3]
structure EK (k : KK) : Prop where
  ok : Kok k
  w : k.1 ≤ 20
  v : k.2.1 ≤ 147573952589676412927
  e : k.2.2 = none
theorem EK.bw {k : KK} (h : EK k) : bits 5 k.1 := by have := h.ok.w; have := h.w; exact show _ < _ by omega
theorem EK.bv {k : KK} (h : EK k) : bits 67 k.2.1 := by have := h.ok.v; have := h.v; exact show _ < _ by omega
section
variable {st : List KK} (ek : ∀ k ∈ st, EK k) (l12 : st.length ≤ 12)
include ek l12
theorem EKok : ∀ k ∈ st, Kok k := fun k hk => (ek k hk).ok
variable (ne : st ≠ [])
include ne
theorem max_s : ∃ M : Int, maxL (List.map (fun (x1 : KK) => x1.1) st) = M ∧ 1 ≤ M ∧ M ≤ 20 ∧ (∀ k ∈ st, k.1 ≤ M) ∧ List.map (fun (x1 : KK) => x1.1) st ≠ [] := by
  have n : List.map (fun (x1 : KK) => x1.1) st ≠ [] := fun e => ne (List.map_eq_nil_iff.mp e)
  obtain ⟨a, b⟩ := maxL_mem n
  obtain ⟨k, hk, e⟩ := List.mem_map.mp a
  refine ⟨_, rfl, ?_, ?_, fun k hk => b _ (List.mem_map.mpr ⟨k, hk, rfl⟩), n⟩
  · rw [← e]; exact (ek k hk).ok.w
  · rw [← e]; exact (ek k hk).w
theorem endless_s : t_need_endless st = .ok () ∧ o_need_endless st := by
  obtain ⟨M, e, h1, h2, h3, n⟩ := max_s ek l12 ne
  have d : decide (st = []) = false := decide_eq_false ne
  have an : List.any (List.map (fun (x2 : KK) => !Option.isNone x2.2.2) st) id = false := by
    rw [List.any_eq_false]
    intro x hx
    obtain ⟨k, hk, rfl⟩ := List.mem_map.mp hx
    rw [(ek k hk).e]; decide
  unfold t_need_endless o_need_endless t0_need_endless o0_need_endless
  rw [d, an]
  unfold t1_need_endless o1_need_endless
  rw [e]
  refine ⟨?_, fun _ => by omega, fun _ => trivial, fun z => (by simp at z), fun _ => ⟨by omega, trivial, n, trivial⟩⟩
  rw [if_neg (by simp), if_neg (by simp; omega)]
end
theorem common_s {a b : Int} (ha : 0 ≤ a) (hb : 0 ≤ b) : t_common a b = gc a b ∧ o_common a b := by
  obtain ⟨p, q⟩ := gcd_whl (c := fun s1 : Int × Int => decide (0 < s1.2)) (ok := fun s1 : Int × Int => decide (0 < s1.2) = true → o1_common s1.1 s1.2) (fun s h => by
      by_cases z : s.2 = 0
      · simp [z]
      · have : 0 < s.2 := by omega
        simp [z, this]) (fun s h z => ⟨by simpa using z, trivial⟩) ha hb
  have e : t_common a b = ((whl (fun s1 : Int × Int => decide (0 < s1.2)) (fun s1 : Int × Int => (s1.2, s1.1 % s1.2)) (b.toNat + 1) (a, b)).getD (a, b)).1 := rfl
  refine ⟨by rw [e, q]; rfl, p, ?_, trivial⟩
  have e2 : (whl (fun s1 : Int × Int => decide (0 < s1.2)) (fun s1 : Int × Int => t1_common s1.1 s1.2) (b.toNat + 1) (a, b)) = some (gc a b, 0) := q
  rw [e2]; rfl
end Lw_k53

namespace Lw_k53
open PySem PySem.Spec L2 FL
theorem endless_io {b most hv : Int} (m1 : 1 ≤ most) (m2 : most ≤ 12) (h1 : 1 ≤ hv) (h2 : hv ≤ 20) : o__law_endless [b] most hv ∧ ∃ ks b', t__law_endless [b] most hv = (ks, [b']) ∧ 1 ≤ ks.length ∧ (ks.length : Int) ≤ most ∧ ∀ k ∈ ks, EK k ∧ k.1 ≤ hv := by
  have k0 := Int.emod_nonneg b (show (5 : Int) ≠ 0 by decide)
  have k1 := Int.emod_lt_of_pos b (show (0 : Int) < 5 by decide)
  have n0 := Int.emod_nonneg (b / 5) (show most ≠ 0 by omega)
  have n1 := Int.emod_lt_of_pos (b / 5) (show 0 < most by omega)
  generalize hk : b % 5 = kind at *
  obtain ⟨q1, b', ks, e, hl, hks⟩ := fold_idx (ok := fun (s1 : List Int × List KK) (x2 : Int) => o3__law_endless s1.1 most hv kind s1.2) (step := fun (s1 : List Int × List KK) (x2 : Int) => t3__law_endless s1.1 most hv kind s1.2) (fun i s => ∃ b' ks, s = ([b'], ks) ∧ ks.length = i ∧ ∀ k ∈ ks, EK k ∧ k.1 ≤ hv) (l := rngI 0 (1 + b / 5 % most)) (s := ([b / 5 / most], [])) ⟨_, [], rfl, rfl, fun k hk => by cases hk⟩ fun i s x hx ⟨b', ks, e, hl, hks⟩ => by
    subst e
    obtain ⟨rfl, hi⟩ := rng_get hx
    have a1 := Int.emod_nonneg b' (show hv ≠ 0 by omega)
    have a2 := Int.emod_lt_of_pos b' (show 0 < hv by omega)
    have c1 := Int.emod_nonneg (b' / hv) (show (12 : Int) ≠ 0 by decide)
    have c2 := Int.emod_lt_of_pos (b' / hv) (show (0 : Int) < 12 by decide)
    generalize hu : b' % hv = u at *
    generalize hg : b' / hv % 12 = g at *
    have g1 := Int.emod_nonneg g (show (3 : Int) ≠ 0 by decide)
    have g2 := Int.emod_lt_of_pos g (show (0 : Int) < 3 by decide)
    have gain : 0 ≤ gI [g, 1 + u, 3 * (1 + u) + g % 3, 0, 100000000000000000000 + g] kind ∧ gI [g, 1 + u, 3 * (1 + u) + g % 3, 0, 100000000000000000000 + g] kind ≤ 147573952589676412927 := by
      have hm := gI_mem (l := [g, 1 + u, 3 * (1 + u) + g % 3, 0, 100000000000000000000 + g]) (i := kind) k0 (by simpa using k1)
      generalize gI [g, 1 + u, 3 * (1 + u) + g % 3, 0, 100000000000000000000 + g] kind = z at *
      simp only [List.mem_cons, List.not_mem_nil, or_false] at hm
      rcases hm with h | h | h | h | h <;> omega
    refine ⟨?_, b' / hv / 12, ks ++ [(1 + u, gI [g, 1 + u, 3 * (1 + u) + g % 3, 0, 100000000000000000000 + g] kind, none)], ?_, by simp [hl], fun k hk' => ?_⟩
    · simp only [o3__law_endless, o4__law_endless, take_t, hu]
      refine ⟨take_o (by omega) (by omega), take_o (by decide) (by decide), mulOk_of (n := 2) (m := 6) (show _ < _ by decide) (show _ < _ by omega) (by decide), ⟨k0, by simpa using k1⟩, by omega, trivial⟩
    · simp only [t3__law_endless, t4__law_endless, take_t, hu, t5__law_endless, t6__law_endless, hg]
    · rcases List.mem_append.mp hk' with q | q
      · exact hks k q
      · obtain rfl := List.mem_singleton.mp q
        exact ⟨⟨⟨by show 1 ≤ 1 + u; omega, gain.1, fun x hx => by cases hx⟩, by show 1 + u ≤ 20; omega, gain.2, rfl⟩, by show 1 + u ≤ hv; omega⟩
  rw [rng0_len] at hl
  refine ⟨⟨take_o (by decide) (by decide), ?_⟩, ks, b', ?_, by omega, by omega, hks⟩
  · simp only [o1__law_endless, o2__law_endless, take_t, hk]
    exact ⟨take_o (by omega) (by omega), rg_s (by omega) (by omega), q1, trivial⟩
  · simp only [t__law_endless, t0__law_endless, t1__law_endless, t2__law_endless, take_t, hk, e]
    rfl
theorem divisor_s {a b : Int} (ha : 0 ≤ a) (hb : 0 ≤ b) : t__law_divisor a b = gc a b ∧ o__law_divisor a b := by
  have na : absI a = a := by unfold absI; rw [if_neg (by omega)]
  have nb : absI b = b := by unfold absI; rw [if_neg (by omega)]
  obtain ⟨p, q⟩ := gcd_whl (c := fun s1 : Int × Int => decide (0 < s1.2)) (ok := fun s1 : Int × Int => decide (0 < s1.2) = true → o2__law_divisor s1.1 s1.2) (fun s h => by
      by_cases z : s.2 = 0
      · simp [z]
      · have : 0 < s.2 := by omega
        simp [z, this]) (fun s h z => ⟨by simpa using z, trivial⟩) ha hb
  have nt : b.natAbs = b.toNat := by omega
  unfold t__law_divisor o__law_divisor t0__law_divisor o0__law_divisor
  rw [na, nb]
  unfold t1__law_divisor o1__law_divisor
  rw [nt]
  have e2 : (whl (fun s1 : Int × Int => decide (0 < s1.2)) (fun s1 : Int × Int => t2__law_divisor s1.1 s1.2) (b.toNat + 1) (a, b)) = some (gc a b, 0) := q
  rw [e2]
  exact ⟨rfl, p, rfl, trivial⟩
theorem gc_nn (a b : Int) : 0 ≤ gc a b := by unfold gc; omega
theorem gc_fold {α : Type} {f : α → Int} {ok : Int → α → Prop} {step : Int → α → Int} {l : List α} (h : ∀ s x, x ∈ l → 0 ≤ s → ok s x ∧ step s x = gc s (f x)) : okF ok step l 0 ∧ l.foldl step 0 = (l.map f).foldl gc 0 := by
  obtain ⟨a, b⟩ := fold_pre (ok := ok) (step := step) (fun p s => 0 ≤ s ∧ s = (p.map f).foldl gc 0) (l := l) (s := 0) ⟨Int.le_refl 0, rfl⟩ fun p x r s e ⟨h0, hs⟩ => by
    obtain ⟨a, b⟩ := h s x (by rw [e]; simp) h0
    refine ⟨a, by rw [b]; exact gc_nn _ _, ?_⟩
    rw [b, List.map_append, List.foldl_append, ← hs]; rfl
  exact ⟨a, b.2⟩
def WK (ws : List Int) : Prop := (∀ w ∈ ws, 1 ≤ w ∧ w ≤ 20) ∧ ws.length ≤ 12 ∧ ws ≠ []
theorem WK.ok {ws : List Int} (h : WK ws) : ∀ w ∈ ws, 1 ≤ w := fun w hw => (h.1 w hw).1
theorem gc_le {ws : List Int} (h : WK ws) : 0 ≤ ws.foldl gc 0 ∧ ws.foldl gc 0 ≤ 20 ∧ ws.foldl gc 0 ≠ 0 := by
  have : ∀ (l : List Int) (g : Int), 0 ≤ g → (∀ w ∈ l, 1 ≤ w ∧ w ≤ 20) → (g ≠ 0 ∧ g ≤ 20 ∨ (l ≠ [] ∧ g = 0)) → 0 ≤ l.foldl gc g ∧ l.foldl gc g ≤ 20 ∧ l.foldl gc g ≠ 0 := fun l => by
    induction l with
    | nil => intro g g0 _ h; rcases h with h | h; exact ⟨g0, h.2, h.1⟩; exact absurd rfl h.1
    | cons w l ih =>
      intro g g0 hw _
      have w1 := hw w (by simp)
      have d : gc g w ∣ w := by unfold gc; exact Int.gcd_dvd_right ..
      have le := Int.le_of_dvd (by omega) d
      have nz : gc g w ≠ 0 := fun z => by rw [z] at d; have := Int.zero_dvd.mp d; omega
      exact ih (gc g w) (gc_nn _ _) (fun x hx => hw x (by simp [hx])) (.inl ⟨nz, by omega⟩)
  exact this ws 0 (Int.le_refl 0) h.1 (.inr ⟨h.2.2, rfl⟩)
def BadL (ws : List Int) : List Int := (rngI 0 420).filter fun h => !FLd ws h
def DueD (ws : List Int) : D × Option Int := if 1 < ws.foldl gc 0 then (dP2 PyData.str PyData.int ("ever", ws.foldl gc 0), none) else ((if (!decide (BadL ws = [])) = true then dP2 PyData.str PyData.int ("last", lastI (BadL ws)) else dP1 PyData.str "none"), some ((BadL ws).length : Int))
section
variable {ws : List Int} (wk : WK ws)
include wk
theorem law_due_s : t__law_due ws = DueD ws ∧ o__law_due ws := by
  obtain ⟨ga, gb⟩ := gc_fold (f := fun x : Int => x) (ok := fun (s1 : Int) (x2 : Int) => o2__law_due ws s1 x2) (step := fun (s1 : Int) (x2 : Int) => t2__law_due ws s1 x2) (l := ws) fun s x hx h0 => by
    obtain ⟨a, b⟩ := divisor_s h0 (show 0 ≤ x by have := wk.ok x hx; omega)
    exact ⟨⟨b, trivial⟩, a⟩
  rw [List.map_id'] at gb
  obtain ⟨a, b⟩ := fold_idx (ok := fun (s6 : List Bool) (x7 : Int) => o6__law_due ws s6 x7) (step := fun (s6 : List Bool) (x7 : Int) => t6__law_due ws s6 x7) (fun i s => s = GL ws i) (l := rngI 1 420) (s := [true]) rfl fun i s x hx hs => by
    subst hs
    obtain ⟨e, lt⟩ := rng_get hx
    have e : x = ((i + 1 : Nat) : Int) := by omega
    subst e
    have gl := GL_len ws i
    have wl := wk.2.1
    refine ⟨⟨by omega, fun w hw => ⟨fun d => ?_, trivial⟩, by omega, trivial⟩, ?_⟩
    · have := of_decide_eq_true d
      have := wk.ok w hw
      rw [gl]; omega
    · show GL ws i ++ [_] = GL ws i ++ [_]
      congr 2
      unfold memB
      rw [Bool.eq_iff_iff, decide_eq_true_eq, List.any_eq_true]
      constructor
      · intro h
        obtain ⟨w, hw, e⟩ := List.mem_map.mp h
        obtain ⟨w1, w2⟩ := List.mem_filter.mp hw
        exact ⟨w, w1, by rw [w2, e]; rfl⟩
      · rintro ⟨w, hw, e⟩
        have e := Bool.and_eq_true_iff.mp e
        exact List.mem_map.mpr ⟨w, List.mem_filter.mpr ⟨hw, e.1⟩, e.2⟩
  have b : List.foldl (fun (s6 : List Bool) (x7 : Int) => t6__law_due ws s6 x7) [true] (rngI 1 420) = GL ws 419 := b
  have bl : List.map (fun x13 : Int => x13) (List.filter (fun x13 : Int => !gI (GL ws 419) x13) (rngI 0 420)) = BadL ws := by
    rw [List.map_id']
    refine List.filter_congr fun h hh => ?_
    have := mem_rng.mp hh
    rw [GL_at ws this.1 (by omega)]
  have t4 : t4__law_due ws = ((if (!decide (BadL ws = [])) = true then dP2 PyData.str PyData.int ("last", lastI (BadL ws)) else dP1 PyData.str "none"), some ((BadL ws).length : Int)) ∧ o4__law_due ws := by
    unfold t4__law_due o4__law_due t5__law_due o5__law_due
    rw [b]
    dsimp only
    unfold t7__law_due o7__law_due
    rw [bl]
    exact ⟨rfl, ⟨rg_s (by omega) (by omega), rg_s (by omega) (by omega)⟩, a, fun x hx => ⟨by have := mem_rng.mp hx; rw [GL_len]; omega, trivial⟩, fun z => by simpa using z, trivial⟩
  unfold t__law_due o__law_due t0__law_due o0__law_due t1__law_due o1__law_due
  rw [gb]
  dsimp only
  unfold t3__law_due o3__law_due DueD
  by_cases c : 1 < ws.foldl gc 0
  · rw [if_pos c, decide_eq_true c]
    exact ⟨rfl, ga, fun _ => trivial, fun z => by cases z⟩
  · rw [if_neg c, decide_eq_false c]
    exact ⟨t4.1, ga, fun z => (by cases z), fun _ => t4.2⟩
end
section
variable {st : List KK} (ek : ∀ k ∈ st, EK k) (l12 : st.length ≤ 12) (ne : st ≠ [])
include ek l12 ne
theorem wk_s : WK (st.map fun x5 : KK => x5.1) := by
  refine ⟨fun w hw => ?_, by rw [List.length_map]; exact l12, fun e => ne (List.map_eq_nil_iff.mp e)⟩
  obtain ⟨k, hk, rfl⟩ := List.mem_map.mp hw
  exact ⟨(ek k hk).ok.w, (ek k hk).w⟩
theorem never_s : ∃ some, t_never st = ((st.map fun x5 : KK => x5.1).foldl gc 0, some) ∧ o_never st ∧ ((st.map fun x5 : KK => x5.1).foldl gc 0 = 1 → some = BadL (st.map fun x5 : KK => x5.1)) := by
  have wk := wk_s ek l12 ne
  obtain ⟨ga, gb⟩ := gc_fold (f := fun x : KK => x.1) (ok := fun (s1 : Int) (x2 : KK) => o2_never st s1 x2) (step := fun (s1 : Int) (x2 : KK) => t2_never st s1 x2) (l := st) fun s x hx h0 => by
    obtain ⟨a, b⟩ := common_s h0 (show 0 ≤ x.1 by have := (ek x hx).ok.w; omega)
    exact ⟨⟨b, trivial⟩, a⟩
  generalize hw : (st.map fun x5 : KK => x5.1) = ws at *
  obtain ⟨mn1, mn2⟩ := minL_mem wk.2.2
  obtain ⟨mx1, mx2⟩ := maxL_mem wk.2.2
  have a1 := wk.1 _ mn1
  have a2 := wk.1 _ mx1
  generalize hmn : minL ws = mn at *
  generalize hmx : maxL ws = mx at *
  have p := Int.mul_nonneg (show 0 ≤ mn by omega) (show 0 ≤ mx by omega)
  have p2 : mn * mx ≤ 20 * 20 := Int.mul_le_mul a1.2 a2.2 (by omega) (by omega)
  obtain ⟨n, hn⟩ := Int.eq_ofNat_of_zero_le p
  obtain ⟨a, b⟩ := fold_idx (ok := fun (s8 : List Bool) (x9 : Int) => o6_never (ws.foldl gc 0) ws s8 x9) (step := fun (s8 : List Bool) (x9 : Int) => t6_never (ws.foldl gc 0) ws s8 x9) (fun i s => s = GL ws i) (l := rngI 1 (mn * mx + 1)) (s := [true]) rfl fun i s x hx hs => by
    subst hs
    obtain ⟨e, lt⟩ := rng_get hx
    have e : x = ((i + 1 : Nat) : Int) := by omega
    subst e
    have gl := GL_len ws i
    have wl := wk.2.1
    refine ⟨⟨by omega, fun w hw => ⟨fun d => ?_, trivial⟩, by omega, trivial⟩, ?_⟩
    · have := of_decide_eq_true d
      have := wk.ok w hw
      rw [gl]; omega
    · show GL ws i ++ [_] = GL ws i ++ [_]
      rw [List.any_map]; rfl
  have rl : (rngI 1 (mn * mx + 1)).length = n := by unfold rngI; rw [hn]; simp
  rw [rl] at b
  have eL : (enuL (GL ws n)).length ≤ 16777216 := by
    show (enuF 0 (GL ws n)).length ≤ _
    rw [enuF_len, GL_len]; omega
  refine ⟨List.map (fun x : Int × Bool => x.1) (List.filter (fun x : Int × Bool => !x.2) (enuL (GL ws n))), ?_, ?_, fun g1 => ?_⟩
  · unfold t_never t0_never t1_never
    rw [gb]
    dsimp only
    unfold t3_never t4_never t5_never
    rw [hw, hmn, hmx]
    dsimp only
    rw [b]; rfl
  · unfold o_never o0_never o1_never
    rw [gb]
    dsimp only
    unfold o3_never o4_never o5_never
    rw [hw, hmn, hmx]
    dsimp only
    rw [b]
    refine ⟨ga, by omega, trivial, wk.2.2, wk.2.2, mulOk_of (n := 5) (m := 5) (show _ < _ by omega) (show _ < _ by omega) (by decide), ⟨rg_s (by omega) (by omega), rg_s (by omega) (by omega)⟩, a, eL, trivial, trivial⟩
  · rw [bad_list]
    have := bad_more (ws := ws) (n := n + 1) (420 - (n + 1)) fun h hh => filled_all wk.ok mn1 g1 mx2 (by rw [Int.sub_mul, Int.one_mul]; omega)
    rw [← this, show n + 1 + (420 - (n + 1)) = 420 by omega]
    rfl
theorem filled_s : t_never_filled st = .ok (DueD (st.map fun x5 : KK => x5.1)).1 ∧ o_never_filled st := by
  obtain ⟨p, q⟩ := need_store_s (EKok ek l12) l12
  obtain ⟨b1, b2⟩ := endless_s ek l12 ne
  obtain ⟨sm, e, o, g⟩ := never_s ek l12 ne
  have gl := gc_le (wk_s ek l12 ne)
  generalize hw : (st.map fun x5 : KK => x5.1) = ws at *
  have core : t3_never_filled (ws.foldl gc 0) sm = .ok (DueD ws).1 ∧ o3_never_filled (ws.foldl gc 0) sm := by
    unfold t3_never_filled o3_never_filled DueD
    by_cases c : 1 < ws.foldl gc 0
    · rw [if_pos c, decide_eq_true c]
      exact ⟨rfl, fun _ => trivial, fun z => by cases z⟩
    · rw [if_neg c, decide_eq_false c, g (by omega)]
      exact ⟨rfl, fun z => (by cases z), fun _ => ⟨fun z => by simpa using z, trivial⟩⟩
  refine ⟨?_, q, fun _ _ => ⟨b2, fun _ _ => ⟨o, ?_⟩⟩⟩
  · unfold t_never_filled t0_never_filled t1_never_filled
    rw [p, exC_ok, b1, exC_ok]
    unfold t2_never_filled
    rw [e]; exact core.1
  · rw [e]; exact core.2
theorem many_s : t_never_many st = .ok (DueD (st.map fun x5 : KK => x5.1)).2 ∧ o_never_many st := by
  obtain ⟨p, q⟩ := need_store_s (EKok ek l12) l12
  obtain ⟨b1, b2⟩ := endless_s ek l12 ne
  obtain ⟨sm, e, o, g⟩ := never_s ek l12 ne
  have gl := gc_le (wk_s ek l12 ne)
  generalize hw : (st.map fun x5 : KK => x5.1) = ws at *
  refine ⟨?_, q, fun _ _ => ⟨b2, fun _ _ => ⟨o, trivial⟩⟩⟩
  unfold t_never_many t0_never_many t1_never_many
  rw [p, exC_ok, b1, exC_ok]
  unfold t2_never_many
  rw [e]
  unfold t3_never_many DueD
  by_cases c : 1 < ws.foldl gc 0
  · rw [if_pos c, if_pos (decide_eq_true c)]
  · rw [if_neg c, if_neg (by simp; omega), g (by omega)]
end
end Lw_k53

namespace Lw_k53
open PySem PySem.Spec L2 FL
theorem lastI_mem {l : List Int} (h : l ≠ []) : lastI l ∈ l := by
  have : l = l.dropLast ++ [l.getLast h] := (List.dropLast_concat_getLast h).symm
  rw [this, lastI_snoc]; simp
theorem rp_ever : RP 1921 0 (PyData.str "ever") := rp_s (by decide +kernel) (by decide +kernel)
theorem rp_last : RP 1921 0 (PyData.str "last") := rp_s (by decide +kernel) (by decide +kernel)
theorem due_rp {ws : List Int} (wk : WK ws) : noL (DueD ws).1 = true ∧ (reprD (DueD ws).1).isSome = true ∧ (reprD (dO PyData.int (DueD ws).2)).isSome = true := by
  have gl := gc_le wk
  have bl : (BadL ws).length ≤ 420 := by
    have := List.length_filter_le (fun h => !FLd ws h) (rngI 0 420)
    rw [rng0_len] at this
    exact this
  unfold DueD
  by_cases c : 1 < ws.foldl gc 0
  · rw [if_pos c]
    refine ⟨rfl, ?_, rfl⟩
    exact rp_sT (rp_P2 (n := 1921) (k := 0) (e := PyData.str) (f := PyData.int) (p := (("ever" : Str), ws.foldl gc 0)) rp_ever (rp_i (by show (ws.foldl gc 0).natAbs < _; omega))) (by decide) (by decide)
  · rw [if_neg c]
    refine ⟨?_, ?_, rp_si (by omega)⟩
    · by_cases z : BadL ws = []
      · rw [if_neg (by simp [z])]; rfl
      · rw [if_pos (by simp [z])]; rfl
    · by_cases z : BadL ws = []
      · rw [if_neg (by simp [z])]
        exact rp_sT (rp_tup (n := 1921) (k := 0) (m := 1) (xs := [PyData.str "none"]) (fun x hx => by rw [List.mem_singleton.mp hx]; exact rp_s (by decide +kernel) (by decide +kernel)) (by decide)) (by decide) (by decide)
      · rw [if_pos (by simp [z])]
        have lm : lastI (BadL ws) ∈ BadL ws := lastI_mem z
        have := mem_rng.mp (List.mem_filter.mp lm).1
        exact rp_sT (rp_P2 (n := 1921) (k := 0) (e := PyData.str) (f := PyData.int) (p := (("last" : Str), lastI (BadL ws))) rp_last (rp_i (by show (lastI (BadL ws)).natAbs < _; omega))) (by decide) (by decide)
theorem c5 {st : List KK} (ek : ∀ k ∈ st, EK k) (l12 : st.length ≤ 12) (ne : st ≠ []) {ns : List Int} : o5_law ns st ∧ t5_law ns st = .nx () := by
  have wk := wk_s ek l12 ne
  obtain ⟨a, o⟩ := law_due_s wk
  obtain ⟨a1, o1⟩ := filled_s ek l12 ne
  obtain ⟨a2, o2⟩ := many_s ek l12 ne
  obtain ⟨r0, r1, r2⟩ := due_rp wk
  generalize hw : (st.map fun x7 : KK => x7.1) = ws at *
  have g1 : getOk (t_never_filled st) = (DueD ws).1 := by rw [a1]; rfl
  have g2 : getOk (t_never_many st) = (DueD ws).2 := by rw [a2]; rfl
  unfold o5_law t5_law
  rw [hw, a]
  unfold o6_law t6_law
  rw [g1, g2]
  have no : noL (dP2 dA (dO PyData.int) (DueD ws)) = true := by
    have := nl_O nl_int (DueD ws).2
    unfold dP2
    simp only [noL_q1, noLs_cons, r0, this, dA]
    rfl
  exact ⟨⟨by omega, trivial, o, no, o1, by rw [a1]; rfl, r0, r1, r1, fun _ => o2, fun _ => by rw [a2]; rfl, fun _ => r2, fun _ => r2, trivial⟩, by simp⟩
theorem turn {ns : List Int} {k : Int} (h0 : 0 ≤ k) (hk : k < 1000) : o1_law ns k ∧ t1_law ns k = .nx () := by
  obtain ⟨a, b, e⟩ := box_s ns k h0 hk
  have x0 := Int.emod_nonneg b (show (4 : Int) ≠ 0 by decide)
  have x1 := Int.emod_lt_of_pos b (show (0 : Int) < 4 by decide)
  have y0 := Int.emod_nonneg (b / 4) (show (8 : Int) ≠ 0 by decide)
  have y1 := Int.emod_lt_of_pos (b / 4) (show (0 : Int) < 8 by decide)
  have hm := gI_mem (l := [(1 : Int), 1, 1, 2]) (i := b % 4) x0 (by simpa using x1)
  have hn := gI_mem (l := [(9 : Int), 9, 9, 9, 9, 4, 5, 10 * 2]) (i := b / 4 % 8) y0 (by simpa using y1)
  have hby : gI [(1 : Int), 1, 1, 2] (b % 4) = 1 ∨ gI [(1 : Int), 1, 1, 2] (b % 4) = 2 := by
    generalize gI [(1 : Int), 1, 1, 2] (b % 4) = z at *
    simp only [List.mem_cons, List.not_mem_nil, or_false] at hm
    omega
  have hhv : 4 ≤ gI [(9 : Int), 9, 9, 9, 9, 4, 5, 10 * 2] (b / 4 % 8) ∧ gI [(9 : Int), 9, 9, 9, 9, 4, 5, 10 * 2] (b / 4 % 8) ≤ 20 := by
    generalize gI [(9 : Int), 9, 9, 9, 9, 4, 5, 10 * 2] (b / 4 % 8) = z at *
    simp only [List.mem_cons, List.not_mem_nil, or_false] at hn
    omega
  have e2 : t__law_take [b] 4 = (b % 4, [b / 4]) := rfl
  have e3 : t__law_take [b / 4] 8 = (b / 4 % 8, [b / 4 / 8]) := rfl
  have core : ∀ by_ hv0 : Int, (by_ = 1 ∨ by_ = 2) → 4 ≤ hv0 → hv0 ≤ 20 → o__law_endless [b / 4 / 8] 5 (hv0 / by_) ∧ o4_law ns by_ (t__law_endless [b / 4 / 8] 5 (hv0 / by_)).1 ∧ t4_law ns by_ (t__law_endless [b / 4 / 8] 5 (hv0 / by_)).1 = .nx () := fun by_ hv0 h1 h2 h3 => by
    have q : 1 ≤ hv0 / by_ ∧ hv0 / by_ * by_ ≤ 20 ∧ hv0 / by_ ≤ 20 := by rcases h1 with rfl | rfl <;> omega
    obtain ⟨c, ks, b', e1, hp, hl, hks⟩ := endless_io (b := b / 4 / 8) (most := 5) (hv := hv0 / by_) (by decide) (by decide) q.1 q.2.2
    have ne : ks.map (fun x4 : KK => ((x4.1 * by_, x4.2.1, x4.2.2) : KK)) ≠ [] := fun z => by rw [List.map_eq_nil_iff.mp z] at hp; simp at hp
    have ek : ∀ k ∈ ks.map (fun x4 : KK => ((x4.1 * by_, x4.2.1, x4.2.2) : KK)), EK k := fun k hk => by
      obtain ⟨x, hx, rfl⟩ := List.mem_map.mp hk
      obtain ⟨ex, lx⟩ := hks x hx
      have w1 := ex.ok.w
      have : x.1 * by_ ≤ hv0 / by_ * by_ := Int.mul_le_mul_of_nonneg_right lx (by omega)
      have : x.1 * 1 ≤ x.1 * by_ := Int.mul_le_mul_of_nonneg_left (by omega) (by omega)
      exact ⟨⟨by show 1 ≤ x.1 * by_; omega, ex.ok.v, ex.ok.m⟩, by show x.1 * by_ ≤ 20; omega, ex.v, ex.e⟩
    obtain ⟨p, r⟩ := c5 ek (by rw [List.length_map]; omega) ne (ns := ns)
    rw [e1]
    exact ⟨c, ⟨by show ks.length ≤ _; omega, fun x hx => ⟨mulOk_of (hks x hx).1.bw (m := 2) (show _ < _ by omega) (by decide), trivial⟩, p⟩, r⟩
  obtain ⟨c1, c2, c3⟩ := core _ _ hby hhv.1 hhv.2
  unfold o1_law t1_law o2_law t2_law
  rw [e, e2]
  unfold o3_law t3_law
  rw [e3]
  exact ⟨⟨a, take_o (by decide) (by decide), ⟨x0, by simpa using x1⟩, mul_s (by decide) (by decide), take_o (by decide) (by decide), ⟨y0, by simpa using y1⟩, fdiv_b (n := 2) (by show 0 < gI [(1 : Int), 1, 1, 2] (b % 4); omega) (show _ < _ by show (gI [(1 : Int), 1, 1, 2] (b % 4)).natAbs < 2 ^ 2; omega) (by decide), c1, c2⟩, c3⟩
theorem law_s (ns : List Int) : o_law ns ∧ t_law ns = true := by
  obtain ⟨a, b⟩ := forT_unit (ok := fun (s1 : Unit) (x2 : Int) => o1_law ns x2) (step := fun (s1 : Unit) (x2 : Int) => t1_law ns x2) (l := rngI 0 (max 1 (min (ns.length : Int) 4))) fun x hx => by
    have := mem_rng.mp hx
    exact turn (by omega) (by omega)
  refine ⟨⟨rg_s (by omega) (by omega), a, trivial⟩, ?_⟩
  show elT (forT (fun (s1 : Unit) (x2 : Int) => t1_law ns x2) (rngI 0 (max 1 (min (ns.length : Int) 4))) ()) (fun _ => true) (fun r => r) = true
  rw [b]; rfl
theorem law_true : ∀ ns : List Int, ns.length ≤ 63 → (∀ z ∈ ns, Builtin.Int.intBits z ≤ 1048576) → ∃ outs, run_law [.scr ns] = .ok (.bool true) outs := fun ns _ _ => by
  obtain ⟨o, t⟩ := law_s ns
  have := v_law ns o
  rw [t] at this
  cases q : run_law [.scr ns] with
  | ok d outs => rw [q] at this; cases this; exact ⟨outs, rfl⟩
  | exc x => rw [q] at this; cases this
  | bad => rw [q] at this; cases this
end Lw_k53

namespace Lw_k53
open PySem PySem.Spec L2 FL
def topS (i : Nat) : Stmt := PySem.Challenge.pw_sackloads_k53_rooms_never_filled.main.body.getD i (.Pass ⟨0, 0, 0, 0⟩)
structure Fx (K : Frag) (mg : Str → Option Value) : Prop where
  b_abs : mg "abs" = none
  b_all : mg "all" = none
  b_any : mg "any" = none
  b_bool : mg "bool" = none
  b_divmod : mg "divmod" = none
  b_enumerate : mg "enumerate" = none
  b_int : mg "int" = none
  b_isinstance : mg "isinstance" = none
  b_len : mg "len" = none
  b_max : mg "max" = none
  b_min : mg "min" = none
  b_range : mg "range" = none
  b_repr : mg "repr" = none
  b_tuple : mg "tuple" = none
  c_MOST_KINDS : ∃ t, mg "MOST_KINDS" = some (.int 12 t)
  c_MOST_WEIGHT : ∃ t, mg "MOST_WEIGHT" = some (.int 20 t)
  e_NoStore : Erc K mg "NoStore"
  e_NotEndless : Erc K mg "NotEndless"
  e_TooMany : Erc K mg "TooMany"
section
variable {P : Program} {w : World} {K : Frag} {mg : Str → Option Value} {base : Heap}
abbrev st__law_box : Stmt := topS 21
theorem sc__law_box : FnScope ["script", "k", "here", "number", "j", "part"] ["script", "k"] (defScope st__law_box) := ⟨rfl, rfl, rfl, by decide +kernel, rfl, by decide +kernel, by decide +kernel⟩
theorem kp__law_box (Z : Fx K mg) (T : Tx K mg "_law_box" st__law_box ["script", "k"])  : Clb P w K mg base 1 "_law_box" 2 run__law_box :=
  clb_of T sc__law_box rfl fun f cdv A outer s H Ex ck0 tk po => by
  have ck : Cok (bX P w K mg base ["script", "k", "here", "number", "j", "part"] "_law_box" st__law_box f cdv A outer s H Ex) (bE Ex) 0 := ck0
  exact fc_done (fc_cons (fs_set (i := 2) sc__law_box.nd (by rfl) (by first | exact .inl rfl | exact .inr rfl) (fe_add (fe_mul fe_int (fe_var (pv 1))) fe_int))
   (fc_if (ft_cmp cf_lt (fe_var (pv 1)) (fe_len (by rfl) Z.b_len (fe_var (pv 0))) (by rfl))
   (fc_w (fc_cons (fs_set (i := 2) sc__law_box.nd (by rfl) (by first | exact .inl rfl | exact .inr rfl) (fe_ix (fe_var (pv 0)) (fe_var (pv 1)) (fun _ _ => rfl)))
   (fc_w fc_nil)))
   (fc_w fc_nil)
   (fc_if (ft_cmp (cf_eqS ck.u64) (fe_mod (fe_var (pv 2)) fe_int) fe_int (by rfl))
   (fc_end (fs_ret (fe_lst (fa_cons (fe_fdiv (fe_var (pv 2)) fe_int) fa_nil))) (ret_nx _))
   fc_nil
   (fc_cons (fs_set (i := 3) sc__law_box.nd (by rfl) (by first | exact .inl rfl | exact .inr rfl) fe_int)
   (fc_cons (fs_for po rfl (fi_range1 (by rfl) Z.b_range (fa_cons fe_int fa_nil)) (fg_name (L2.pg_name (i := 4) sc__law_box.nd (by rfl) (by first | exact .inl rfl | exact .inr rfl))) (fc_done (fc_cons (fs_set (i := 5) sc__law_box.nd (by rfl) (by first | exact .inl rfl | exact .inr rfl) (fe_mod (fe_add (fe_add (fe_mul (fe_mod (fe_var (pv 2)) fe_int) fe_int) (fe_mul fe_int (fe_var (pv 4)))) fe_int) fe_int))
   (fc_w (fc_cons (fs_set (i := 5) sc__law_box.nd (by rfl) (by first | exact .inl rfl | exact .inr rfl) (fe_mod (fe_mul (fe_var (pv 5)) (fe_var (pv 5))) fe_int))
   (fc_cons (fs_set (i := 3) sc__law_box.nd (by rfl) (by first | exact .inl rfl | exact .inr rfl) (fe_add (fe_mul (fe_var (pv 3)) fe_int) (fe_mod (fe_mul (fe_var (pv 5)) (fe_add (fe_var (pv 5)) fe_int)) fe_int)))
   (fc_w fc_nil)))))))
   (fc_w (fc_end (fs_ret (fe_lst (fa_cons (fe_var (pv 3)) fa_nil))) (ret_nx _))))))))
abbrev st__law_divisor : Stmt := topS 24
theorem sc__law_divisor : FnScope ["one", "other"] ["one", "other"] (defScope st__law_divisor) := ⟨rfl, rfl, rfl, by decide +kernel, rfl, by decide +kernel, by decide +kernel⟩
theorem kp__law_divisor (Z : Fx K mg) (T : Tx K mg "_law_divisor" st__law_divisor ["one", "other"])  : Clb P w K mg base 1 "_law_divisor" 2 run__law_divisor :=
  clb_of T sc__law_divisor rfl fun f cdv A outer s H Ex ck0 tk po => by
  have ck : Cok (bX P w K mg base ["one", "other"] "_law_divisor" st__law_divisor f cdv A outer s H Ex) (bE Ex) 0 := ck0
  exact fc_done (fc_cons (fs_par (i := 0) (j := 1) rfl sc__law_divisor.nd (by rfl) (by rfl) (by decide) (by rfl) (by rfl) (fa_cons (fe_abs (by rfl) Z.b_abs (fe_var (pv 0))) (fa_cons (fe_abs (by rfl) Z.b_abs (fe_var (pv 1))) fa_nil)))
   (fc_cons (fs_while po (ft_cmp cf_gt (fe_var (pv 1)) fe_int (by rfl)) (fc_done (fc_cons (fs_par (i := 0) (j := 1) rfl sc__law_divisor.nd (by rfl) (by rfl) (by decide) (by rfl) (by rfl) (fa_cons (fe_var (pv 1)) (fa_cons (fe_mod (fe_var (pv 0)) (fe_var (pv 1))) fa_nil)))
   fc_nil)))
   (fc_w (fc_end (fs_ret (fe_var (pv 0))) (ret_nx _)))))
abbrev st__law_due : Stmt := topS 27
theorem sc__law_due : FnScope ["weights", "divides", "heft", "good", "room", "some"] ["weights"] (defScope st__law_due) := ⟨rfl, rfl, rfl, by decide +kernel, rfl, by decide +kernel, by decide +kernel⟩
theorem kp__law_due (Z : Fx K mg) (T : Tx K mg "_law_due" st__law_due ["weights"]) (C__law_divisor : Clb P w K mg base 1 "_law_divisor" 2 run__law_divisor) : Clb P w K mg base 2 "_law_due" 1 run__law_due :=
  clb_of T sc__law_due rfl fun f cdv A outer s H Ex ck0 tk po => by
  have ck : Cok (bX P w K mg base ["weights", "divides", "heft", "good", "room", "some"] "_law_due" st__law_due f cdv A outer s H Ex) (bE Ex) 1 := ck0
  exact fc_done (fc_cons (fs_set (i := 1) sc__law_due.nd (by rfl) (by first | exact .inl rfl | exact .inr rfl) fe_int)
   (fc_cons (fs_for po rfl (fi_any (fe_var (pv 0))) (fg_name (L2.pg_name (i := 2) sc__law_due.nd (by rfl) (by first | exact .inl rfl | exact .inr rfl))) (fc_done (fc_cons (fs_set (i := 1) sc__law_due.nd (by rfl) (by first | exact .inl rfl | exact .inr rfl) (fe_callC C__law_divisor ck (by decide) (by rfl) none (fa_cons (fe_var (pv 1)) (fa_cons (fe_var (pv 2)) fa_nil))))
   (fc_w fc_nil))))
   (fc_if (ft_cmp cf_gt (fe_var (pv 1)) fe_int (by rfl))
   (fc_w (fc_end (fs_ret (fe_tup (fa_cons (fe_tup (fa_cons fe_str (fa_cons (fe_var (pv 1)) fa_nil))) (fa_cons fe_non fa_nil)))) (ret_nx _)))
   (fc_w fc_nil)
   (fc_cons (fs_set (i := 3) sc__law_due.nd (by rfl) (by first | exact .inl rfl | exact .inr rfl) (fe_lst (fa_cons fe_bl fa_nil)))
   (fc_cons (fs_for po rfl (fi_range2 (by rfl) Z.b_range (fa_cons fe_int (fa_cons fe_int fa_nil))) (fg_name (L2.pg_name (i := 4) sc__law_due.nd (by rfl) (by first | exact .inl rfl | exact .inr rfl))) (fc_done (fc_cons (fs_expr (fe_append (pv 3) (fe_cmp (cf_in ck.u65) fe_bl (fe_lc (own := [("heft", 2)]) (vs := [2]) rfl sc__law_due.nd (fi_any (fe_var (pv 0))) (L2.blkOk_by (by rfl)) rfl (fun _ _ _ _ _ => (fgv_name (L2.pg_name (i := 2) sc__law_due.nd (by rfl) (by first | exact .inl rfl | exact .inr rfl)) (by decide))) (fun _ _ _ _ _ => (fts_one (ft_cmp cf_le (fe_var (pv 2)) (fe_var (pv 4)) (by rfl)))) (fun _ _ _ _ _ => (fe_ix (fe_var (pv 3)) (fe_sub (fe_var (pv 4)) (fe_var (pv 2))) (fun _ _ => rfl)))) (by rfl))))
   (fc_w fc_nil))))
   (fc_w (fc_cons (fs_setLc (own := [("room", 4)]) (vs := [4]) rfl sc__law_due.nd (i := 5) (by rfl) (by rfl) (by exact L2.sw_true rfl rfl rfl rfl) (fi_range1 (by rfl) Z.b_range (fa_cons fe_int fa_nil)) (L2.blkOk_by (by rfl)) rfl (fun _ _ _ _ _ => (fgv_name (L2.pg_name (i := 4) sc__law_due.nd (by rfl) (by first | exact .inl rfl | exact .inr rfl)) (by decide))) (fun _ _ _ _ _ => (fts_one (ft_not (ft_val (fe_ix (fe_var (pv 3)) (fe_var (pv 4)) (fun _ _ => rfl)))))) (fun _ _ _ _ _ => (fe_var (pv 4))))
   (fc_w (fc_end (fs_ret (fe_tup (fa_cons (fe_if (ft_cmp (cf_neS ck.u64) (fe_var (pv 5)) (fe_lst fa_nil) (by rfl)) (fe_tup (fa_cons fe_str (fa_cons (fe_ix (fe_var (pv 5)) (fe_neg fe_int) (fun _ _ => rfl)) fa_nil))) (fe_tup (fa_cons fe_str fa_nil))) (fa_cons (fe_len (by rfl) Z.b_len (fe_var (pv 5))) fa_nil)))) (ret_nx _))))))))))
abbrev st__law_take : Stmt := topS 22
theorem sc__law_take : FnScope ["box", "many", "left", "digit"] ["box", "many"] (defScope st__law_take) := ⟨rfl, rfl, rfl, by decide +kernel, rfl, by decide +kernel, by decide +kernel⟩
theorem kp__law_take (Z : Fx K mg) (T : Tx K mg "_law_take" st__law_take ["box", "many"])  : Clb P w K mg base 1 "_law_take" 2 run__law_take :=
  clb_of T sc__law_take rfl fun f cdv A outer s H Ex ck0 tk po => by
  have ck : Cok (bX P w K mg base ["box", "many", "left", "digit"] "_law_take" st__law_take f cdv A outer s H Ex) (bE Ex) 0 := ck0
  exact fc_done (fc_cons (fs_asg (fe_divmod (by rfl) Z.b_divmod (fe_ix (fe_var (pv 0)) fe_int (fun _ _ => rfl)) (fe_var (pv 1))) (fg_tup rfl (fgs_cons (fg_name (L2.pg_name (i := 2) sc__law_take.nd (by rfl) (by first | exact .inl rfl | exact .inr rfl))) (fgs_cons (fg_name (L2.pg_name (i := 3) sc__law_take.nd (by rfl) (by first | exact .inl rfl | exact .inr rfl))) fgs_nil)) (gsCons_len (gsCons_len gsNil_len))))
   (fc_w (fc_cons (fs_setIx (i := 0) (pv 0) fe_int (fe_var (pv 2)))
   (fc_w (fc_end (fs_ret (fe_var (pv 3))) (ret_nx _))))))
abbrev st__law_endless : Stmt := topS 23
theorem sc__law_endless : FnScope ["box", "most", "heaviest", "kind", "found", "k", "heft", "given", "gain"] ["box", "most", "heaviest"] (defScope st__law_endless) := ⟨rfl, rfl, rfl, by decide +kernel, rfl, by decide +kernel, by decide +kernel⟩
theorem kp__law_endless (Z : Fx K mg) (T : Tx K mg "_law_endless" st__law_endless ["box", "most", "heaviest"]) (C__law_take : Clb P w K mg base 1 "_law_take" 2 run__law_take) : Clb P w K mg base 2 "_law_endless" 3 run__law_endless :=
  clb_of T sc__law_endless rfl fun f cdv A outer s H Ex ck0 tk po => by
  have ck : Cok (bX P w K mg base ["box", "most", "heaviest", "kind", "found", "k", "heft", "given", "gain"] "_law_endless" st__law_endless f cdv A outer s H Ex) (bE Ex) 1 := ck0
  exact fc_done (fc_cons (fs_set (i := 3) sc__law_endless.nd (by rfl) (by first | exact .inl rfl | exact .inr rfl) (fe_callC C__law_take ck (by decide) (by rfl) (some 0) (fa_cons (fe_var (pv 0)) (fa_cons fe_int fa_nil))))
   (fc_cons (fs_set (i := 4) sc__law_endless.nd (by rfl) (by first | exact .inl rfl | exact .inr rfl) (fe_lst fa_nil))
   (fc_cons (fs_for po rfl (fi_range1 (by rfl) Z.b_range (fa_cons (fe_add fe_int (fe_callC C__law_take ck (by decide) (by rfl) (some 0) (fa_cons (fe_var (pv 0)) (fa_cons (fe_var (pv 1)) fa_nil)))) fa_nil)) (fg_name (L2.pg_name (i := 5) sc__law_endless.nd (by rfl) (by first | exact .inl rfl | exact .inr rfl))) (fc_done (fc_w (fc_cons (fs_set (i := 6) sc__law_endless.nd (by rfl) (by first | exact .inl rfl | exact .inr rfl) (fe_add fe_int (fe_callC C__law_take ck (by decide) (by rfl) (some 0) (fa_cons (fe_var (pv 0)) (fa_cons (fe_var (pv 2)) fa_nil)))))
   (fc_cons (fs_set (i := 7) sc__law_endless.nd (by rfl) (by first | exact .inl rfl | exact .inr rfl) (fe_callC C__law_take ck (by decide) (by rfl) (some 0) (fa_cons (fe_var (pv 0)) (fa_cons fe_int fa_nil))))
   (fc_cons (fs_set (i := 8) sc__law_endless.nd (by rfl) (by first | exact .inl rfl | exact .inr rfl) (fe_ix (fe_lst (fa_cons (fe_var (pv 7)) (fa_cons (fe_var (pv 6)) (fa_cons (fe_add (fe_mul fe_int (fe_var (pv 6))) (fe_mod (fe_var (pv 7)) fe_int)) (fa_cons fe_int (fa_cons (fe_add (fe_pow fe_int fe_int) (fe_var (pv 7))) fa_nil)))))) (fe_var (pv 3)) (fun _ _ => rfl)))
   (fc_w (fc_cons (fs_expr (fe_append (pv 4) (fe_tup (fa_cons (fe_var (pv 6)) (fa_cons (fe_var (pv 8)) (fa_cons fe_non fa_nil))))))
   (fc_w fc_nil)))))))))
   (fc_w (fc_end (fs_ret (fe_tuple (by rfl) Z.b_tuple (fe_var (pv 4)))) (ret_nx _))))))
abbrev st_need_endless : Stmt := topS 13
theorem sc_need_endless : FnScope ["store", "kind"] ["store"] (defScope st_need_endless) := ⟨rfl, rfl, rfl, by decide +kernel, rfl, by decide +kernel, by decide +kernel⟩
theorem kp_need_endless (Z : Fx K mg) (T : Tx K mg "need_endless" st_need_endless ["store"])  : Clb P w K mg base 1 "need_endless" 1 run_need_endless :=
  clb_of T sc_need_endless rfl fun f cdv A outer s H Ex ck0 tk po => by
  have ck : Cok (bX P w K mg base ["store", "kind"] "need_endless" st_need_endless f cdv A outer s H Ex) (bE Ex) 0 := ck0
  exact fc_done (fc_if ((fw_or (ft_cmp (cf_eqS ck.u64) (fe_var (pv 0)) (fe_tup fa_nil) (by rfl)) (fw_or1 (ft_val (fe_any rfl (by rfl) Z.b_any (fe_lc (own := [("kind", 1)]) (vs := [1]) rfl sc_need_endless.nd (fi_any (fe_var (pv 0))) (L2.blkOk_by (by rfl)) rfl (fun _ _ _ _ _ => (fgv_name (L2.pg_name (i := 1) sc_need_endless.nd (by rfl) (by first | exact .inl rfl | exact .inr rfl)) (by decide))) (fun _ _ _ _ _ => fts_nil) (fun _ _ _ _ _ => (fe_cmp cf_isNot (fe_ix (fe_var (pv 1)) fe_int (fun _ _ => rfl)) fe_non (by rfl))))))))).pt
   (fc_w (fc_end (fs_raiseC rfl tk Z.e_NotEndless (by rfl)) (raise_nx _)))
   fc_nil
   (fc_if (ft_cmp cf_gt (fe_max rfl (by rfl) Z.b_max (fe_lc (own := [("kind", 1)]) (vs := [1]) rfl sc_need_endless.nd (fi_any (fe_var (pv 0))) (L2.blkOk_by (by rfl)) rfl (fun _ _ _ _ _ => (fgv_name (L2.pg_name (i := 1) sc_need_endless.nd (by rfl) (by first | exact .inl rfl | exact .inr rfl)) (by decide))) (fun _ _ _ _ _ => fts_nil) (fun _ _ _ _ _ => (fe_ix (fe_var (pv 1)) fe_int (fun _ _ => rfl))))) (fe_cint (by rfl) (Z.c_MOST_WEIGHT).choose_spec) (by rfl))
   (fc_w (fc_end (fs_raiseC rfl tk Z.e_TooMany (by rfl)) (raise_nx _)))
   (fc_w fc_nil)
   fc_nil))
abbrev st_is_from : Stmt := topS 7
theorem sc_is_from : FnScope ["thing", "least"] ["thing", "least"] (defScope st_is_from) := ⟨rfl, rfl, rfl, by decide +kernel, rfl, by decide +kernel, by decide +kernel⟩
theorem kp_is_from (Z : Fx K mg) (T : Tx K mg "is_from" st_is_from ["thing", "least"])  : Clb P w K mg base 1 "is_from" 2 run_is_from :=
  clb_of T sc_is_from rfl fun f cdv A outer s H Ex ck0 tk po => by
  have ck : Cok (bX P w K mg base ["thing", "least"] "is_from" st_is_from f cdv A outer s H Ex) (bE Ex) 0 := ck0
  exact fc_done (fc_end (fs_ret (fe_and (fe_isi .int (by rfl) Z.b_isinstance (by rfl) Z.b_int (fe_var (pv 0))) (fe_and (fe_not (fe_isi .bool (by rfl) Z.b_isinstance (by rfl) Z.b_bool (fe_var (pv 0)))) (fe_one (fe_cmp cf_ge (fe_var (pv 0)) (fe_var (pv 1)) (by rfl)))))) (ret_nx _))
abbrev st_is_kind : Stmt := topS 8
theorem sc_is_kind : FnScope ["thing"] ["thing"] (defScope st_is_kind) := ⟨rfl, rfl, rfl, by decide +kernel, rfl, by decide +kernel, by decide +kernel⟩
theorem kp_is_kind (Z : Fx K mg) (T : Tx K mg "is_kind" st_is_kind ["thing"]) (C_is_from : Clb P w K mg base 1 "is_from" 2 run_is_from) : Clb P w K mg base 2 "is_kind" 1 run_is_kind :=
  clb_of T sc_is_kind rfl fun f cdv A outer s H Ex ck0 tk po => by
  have ck : Cok (bX P w K mg base ["thing"] "is_kind" st_is_kind f cdv A outer s H Ex) (bE Ex) 1 := ck0
  exact fc_done (fc_if ((fw_or (ft_not (ft_val (fe_isi .tuple (by rfl) Z.b_isinstance (by rfl) Z.b_tuple (fe_var (pv 0))))) (fw_or1 (ft_cmp (cf_neS ck.u64) (fe_len (by rfl) Z.b_len (fe_var (pv 0))) fe_int (by rfl))))).pt
   (fc_w (fc_end (fs_ret fe_bl) (ret_nx _)))
   fc_nil
   (fc_if ((fw_or (ft_not (ft_val (fe_callC C_is_from ck (by decide) (by rfl) none (fa_cons (fe_ix (fe_var (pv 0)) fe_int (fun _ _ => rfl)) (fa_cons fe_int fa_nil))))) (fw_or1 (ft_not (ft_val (fe_callC C_is_from ck (by decide) (by rfl) none (fa_cons (fe_ix (fe_var (pv 0)) fe_int (fun _ _ => rfl)) (fa_cons fe_int fa_nil)))))))).pt
   (fc_w (fc_end (fs_ret fe_bl) (ret_nx _)))
   fc_nil
   (fc_end (fs_ret (fe_or (fe_cmp cf_is (fe_ix (fe_var (pv 0)) fe_int (fun _ _ => rfl)) fe_non (by rfl)) (fe_one (fe_callC C_is_from ck (by decide) (by rfl) none (fa_cons (fe_ix (fe_var (pv 0)) fe_int (fun _ _ => rfl)) (fa_cons fe_int fa_nil)))))) (ret_nx _))))
abbrev st_is_store : Stmt := topS 9
theorem sc_is_store : FnScope ["thing", "one"] ["thing"] (defScope st_is_store) := ⟨rfl, rfl, rfl, by decide +kernel, rfl, by decide +kernel, by decide +kernel⟩
theorem kp_is_store (Z : Fx K mg) (T : Tx K mg "is_store" st_is_store ["thing"]) (C_is_kind : Clb P w K mg base 2 "is_kind" 1 run_is_kind) : Clb P w K mg base 3 "is_store" 1 run_is_store :=
  clb_of T sc_is_store rfl fun f cdv A outer s H Ex ck0 tk po => by
  have ck : Cok (bX P w K mg base ["thing", "one"] "is_store" st_is_store f cdv A outer s H Ex) (bE Ex) 2 := ck0
  exact fc_done (fc_end (fs_ret (fe_and (fe_isi .tuple (by rfl) Z.b_isinstance (by rfl) Z.b_tuple (fe_var (pv 0))) (fe_and (fe_cmp cf_le (fe_len (by rfl) Z.b_len (fe_var (pv 0))) (fe_cint (by rfl) (Z.c_MOST_KINDS).choose_spec) (by rfl)) (fe_one (fe_all rfl (by rfl) Z.b_all (fe_lc (own := [("one", 1)]) (vs := [1]) rfl sc_is_store.nd (fi_any (fe_var (pv 0))) (L2.blkOk_by (by rfl)) rfl (fun _ _ _ _ _ => (fgv_name (L2.pg_name (i := 1) sc_is_store.nd (by rfl) (by first | exact .inl rfl | exact .inr rfl)) (by decide))) (fun _ _ _ _ _ => fts_nil) (fun _ _ _ _ _ => (fe_callC C_is_kind (cok_blk ck) (by decide) (by rfl) none (fa_cons (fe_var (pv 1)) fa_nil))))))))) (ret_nx _))
abbrev st_need_store : Stmt := topS 10
theorem sc_need_store : FnScope ["store"] ["store"] (defScope st_need_store) := ⟨rfl, rfl, rfl, by decide +kernel, rfl, by decide +kernel, by decide +kernel⟩
theorem kp_need_store (Z : Fx K mg) (T : Tx K mg "need_store" st_need_store ["store"]) (C_is_store : Clb P w K mg base 3 "is_store" 1 run_is_store) : Clb P w K mg base 4 "need_store" 1 run_need_store :=
  clb_of T sc_need_store rfl fun f cdv A outer s H Ex ck0 tk po => by
  have ck : Cok (bX P w K mg base ["store"] "need_store" st_need_store f cdv A outer s H Ex) (bE Ex) 3 := ck0
  exact fc_done (fc_if (ft_not (ft_val (fe_callC C_is_store ck (by decide) (by rfl) none (fa_cons (fe_var (pv 0)) fa_nil))))
   (fc_w (fc_end (fs_raiseC rfl tk Z.e_NoStore (by rfl)) (raise_nx _)))
   (fc_w fc_nil)
   fc_nil)
abbrev st_common : Stmt := topS 15
theorem sc_common : FnScope ["one", "other"] ["one", "other"] (defScope st_common) := ⟨rfl, rfl, rfl, by decide +kernel, rfl, by decide +kernel, by decide +kernel⟩
theorem kp_common (Z : Fx K mg) (T : Tx K mg "common" st_common ["one", "other"])  : Clb P w K mg base 1 "common" 2 run_common :=
  clb_of T sc_common rfl fun f cdv A outer s H Ex ck0 tk po => by
  have ck : Cok (bX P w K mg base ["one", "other"] "common" st_common f cdv A outer s H Ex) (bE Ex) 0 := ck0
  exact fc_done (fc_cons (fs_while po (ft_cmp cf_gt (fe_var (pv 1)) fe_int (by rfl)) (fc_done (fc_cons (fs_par (i := 0) (j := 1) rfl sc_common.nd (by rfl) (by rfl) (by decide) (by rfl) (by rfl) (fa_cons (fe_var (pv 1)) (fa_cons (fe_mod (fe_var (pv 0)) (fe_var (pv 1))) fa_nil)))
   fc_nil)))
   (fc_w (fc_end (fs_ret (fe_var (pv 0))) (ret_nx _))))
abbrev st_never : Stmt := topS 17
theorem sc_never : FnScope ["store", "divisor", "kind", "weights", "good", "room", "weight", "told"] ["store"] (defScope st_never) := ⟨rfl, rfl, rfl, by decide +kernel, rfl, by decide +kernel, by decide +kernel⟩
theorem kp_never (Z : Fx K mg) (T : Tx K mg "never" st_never ["store"]) (C_common : Clb P w K mg base 1 "common" 2 run_common) : Clb P w K mg base 2 "never" 1 run_never :=
  clb_of T sc_never rfl fun f cdv A outer s H Ex ck0 tk po => by
  have ck : Cok (bX P w K mg base ["store", "divisor", "kind", "weights", "good", "room", "weight", "told"] "never" st_never f cdv A outer s H Ex) (bE Ex) 1 := ck0
  exact fc_done (fc_cons (fs_set (i := 1) sc_never.nd (by rfl) (by first | exact .inl rfl | exact .inr rfl) fe_int)
   (fc_cons (fs_for po rfl (fi_any (fe_var (pv 0))) (fg_name (L2.pg_name (i := 2) sc_never.nd (by rfl) (by first | exact .inl rfl | exact .inr rfl))) (fc_done (fc_cons (fs_set (i := 1) sc_never.nd (by rfl) (by first | exact .inl rfl | exact .inr rfl) (fe_callC C_common ck (by decide) (by rfl) none (fa_cons (fe_var (pv 1)) (fa_cons (fe_ix (fe_var (pv 2)) fe_int (fun _ _ => rfl)) fa_nil))))
   (fc_w fc_nil))))
   (fc_cons (fs_setLc (own := [("kind", 2)]) (vs := [2]) rfl sc_never.nd (i := 3) (by rfl) (by rfl) (by exact L2.sw_true rfl rfl rfl rfl) (fi_any (fe_var (pv 0))) (L2.blkOk_by (by rfl)) rfl (fun _ _ _ _ _ => (fgv_name (L2.pg_name (i := 2) sc_never.nd (by rfl) (by first | exact .inl rfl | exact .inr rfl)) (by decide))) (fun _ _ _ _ _ => fts_nil) (fun _ _ _ _ _ => (fe_ix (fe_var (pv 2)) fe_int (fun _ _ => rfl))))
   (fc_w (fc_cons (fs_set (i := 4) sc_never.nd (by rfl) (by first | exact .inl rfl | exact .inr rfl) (fe_lst (fa_cons fe_bl fa_nil)))
   (fc_cons (fs_for po rfl (fi_range2 (by rfl) Z.b_range (fa_cons fe_int (fa_cons (fe_add (fe_mul (fe_min rfl (by rfl) Z.b_min (fe_var (pv 3))) (fe_max rfl (by rfl) Z.b_max (fe_var (pv 3)))) fe_int) fa_nil))) (fg_name (L2.pg_name (i := 5) sc_never.nd (by rfl) (by first | exact .inl rfl | exact .inr rfl))) (fc_done (fc_cons (fs_expr (fe_append (pv 4) (fe_any rfl (by rfl) Z.b_any (fe_lc (own := [("weight", 6)]) (vs := [6]) rfl sc_never.nd (fi_any (fe_var (pv 3))) (L2.blkOk_by (by rfl)) rfl (fun _ _ _ _ _ => (fgv_name (L2.pg_name (i := 6) sc_never.nd (by rfl) (by first | exact .inl rfl | exact .inr rfl)) (by decide))) (fun _ _ _ _ _ => fts_nil) (fun _ _ _ _ _ => (fe_and (fe_cmp cf_le (fe_var (pv 6)) (fe_var (pv 5)) (by rfl)) (fe_one (fe_ix (fe_var (pv 4)) (fe_sub (fe_var (pv 5)) (fe_var (pv 6))) (fun _ _ => rfl)))))))))
   (fc_w fc_nil))))
   (fc_w (fc_end (fs_ret (fe_tup (fa_cons (fe_var (pv 1)) (fa_cons (fe_lc (own := [("room", 5), ("told", 7)]) (vs := [5, 7]) rfl sc_never.nd (fi_enu (by rfl) Z.b_enumerate (fa_cons (fe_var (pv 4)) fa_nil)) (L2.blkOk_by (by rfl)) rfl (fun _ _ _ _ _ => (fgv_tup rfl (fgvs_cons (fgv_name (L2.pg_name (i := 5) sc_never.nd (by rfl) (by first | exact .inl rfl | exact .inr rfl)) (by decide)) (fgvs_cons (fgv_name (L2.pg_name (i := 7) sc_never.nd (by rfl) (by first | exact .inl rfl | exact .inr rfl)) (by decide)) fgvs_nil)) (gsCons_len (gsCons_len gsNil_len)))) (fun _ _ _ _ _ => (fts_one (ft_not (ft_val (fe_var (pv 7)))))) (fun _ _ _ _ _ => (fe_var (pv 5)))) fa_nil)))) (ret_nx _)))))))))
abbrev st_never_filled : Stmt := topS 18
theorem sc_never_filled : FnScope ["store", "divisor", "some"] ["store"] (defScope st_never_filled) := ⟨rfl, rfl, rfl, by decide +kernel, rfl, by decide +kernel, by decide +kernel⟩
theorem kp_never_filled (Z : Fx K mg) (T : Tx K mg "never_filled" st_never_filled ["store"]) (C_need_endless : Clb P w K mg base 1 "need_endless" 1 run_need_endless) (C_need_store : Clb P w K mg base 4 "need_store" 1 run_need_store) (C_never : Clb P w K mg base 2 "never" 1 run_never) : Clb P w K mg base 5 "never_filled" 1 run_never_filled :=
  clb_of T sc_never_filled rfl fun f cdv A outer s H Ex ck0 tk po => by
  have ck : Cok (bX P w K mg base ["store", "divisor", "some"] "never_filled" st_never_filled f cdv A outer s H Ex) (bE Ex) 4 := ck0
  exact fc_done (fc_cons (fs_expr (fe_callC C_need_store ck (by decide) (by rfl) none (fa_cons (fe_var (pv 0)) fa_nil)))
   (fc_cons (fs_expr (fe_callC C_need_endless ck (by decide) (by rfl) none (fa_cons (fe_var (pv 0)) fa_nil)))
   (fc_cons (fs_asg (fe_callCF C_never ck (by decide) (by rfl) none (fa_cons (fe_var (pv 0)) fa_nil)) (fg_tup rfl (fgs_cons (fg_name (L2.pg_name (i := 1) sc_never_filled.nd (by rfl) (by first | exact .inl rfl | exact .inr rfl))) (fgs_cons (fg_name (L2.pg_name (i := 2) sc_never_filled.nd (by rfl) (by first | exact .inl rfl | exact .inr rfl))) fgs_nil)) (gsCons_len (gsCons_len gsNil_len))))
   (fc_w (fc_if (ft_cmp cf_gt (fe_var (pv 1)) fe_int (by rfl))
   (fc_w (fc_end (fs_ret (fe_tup (fa_cons fe_str (fa_cons (fe_var (pv 1)) fa_nil)))) (ret_nx _)))
   (fc_w fc_nil)
   (fc_end (fs_ret (fe_if (ft_cmp (cf_neS ck.u64) (fe_var (pv 2)) (fe_lst fa_nil) (by rfl)) (fe_tup (fa_cons fe_str (fa_cons (fe_ix (fe_var (pv 2)) (fe_neg fe_int) (fun _ _ => rfl)) fa_nil))) (fe_tup (fa_cons fe_str fa_nil)))) (ret_nx _)))))))
abbrev st_never_many : Stmt := topS 19
theorem sc_never_many : FnScope ["store", "divisor", "some"] ["store"] (defScope st_never_many) := ⟨rfl, rfl, rfl, by decide +kernel, rfl, by decide +kernel, by decide +kernel⟩
theorem kp_never_many (Z : Fx K mg) (T : Tx K mg "never_many" st_never_many ["store"]) (C_need_endless : Clb P w K mg base 1 "need_endless" 1 run_need_endless) (C_need_store : Clb P w K mg base 4 "need_store" 1 run_need_store) (C_never : Clb P w K mg base 2 "never" 1 run_never) : Clb P w K mg base 5 "never_many" 1 run_never_many :=
  clb_of T sc_never_many rfl fun f cdv A outer s H Ex ck0 tk po => by
  have ck : Cok (bX P w K mg base ["store", "divisor", "some"] "never_many" st_never_many f cdv A outer s H Ex) (bE Ex) 4 := ck0
  exact fc_done (fc_cons (fs_expr (fe_callC C_need_store ck (by decide) (by rfl) none (fa_cons (fe_var (pv 0)) fa_nil)))
   (fc_cons (fs_expr (fe_callC C_need_endless ck (by decide) (by rfl) none (fa_cons (fe_var (pv 0)) fa_nil)))
   (fc_cons (fs_asg (fe_callCF C_never ck (by decide) (by rfl) none (fa_cons (fe_var (pv 0)) fa_nil)) (fg_tup rfl (fgs_cons (fg_name (L2.pg_name (i := 1) sc_never_many.nd (by rfl) (by first | exact .inl rfl | exact .inr rfl))) (fgs_cons (fg_name (L2.pg_name (i := 2) sc_never_many.nd (by rfl) (by first | exact .inl rfl | exact .inr rfl))) fgs_nil)) (gsCons_len (gsCons_len gsNil_len))))
   (fc_w (fc_end (fs_ret (fe_if (ft_cmp cf_gt (fe_var (pv 1)) fe_int (by rfl)) fe_non (fe_len (by rfl) Z.b_len (fe_var (pv 2))))) (ret_nx _))))))
abbrev st_law : Stmt := topS 28
theorem sc_law : FnScope ["script", "k", "box", "by", "store", "due", "many", "heft", "gain", "most", "kind"] ["script"] (defScope st_law) := ⟨rfl, rfl, rfl, by decide +kernel, rfl, by decide +kernel, by decide +kernel⟩
theorem kp_law (Z : Fx K mg) (T : Tx K mg "law" st_law ["script"]) (C__law_box : Clb P w K mg base 1 "_law_box" 2 run__law_box) (C__law_due : Clb P w K mg base 2 "_law_due" 1 run__law_due) (C__law_endless : Clb P w K mg base 2 "_law_endless" 3 run__law_endless) (C__law_take : Clb P w K mg base 1 "_law_take" 2 run__law_take) (C_never_filled : Clb P w K mg base 5 "never_filled" 1 run_never_filled) (C_never_many : Clb P w K mg base 5 "never_many" 1 run_never_many) : Clb P w K mg base 6 "law" 1 run_law :=
  clb_of T sc_law rfl fun f cdv A outer s H Ex ck0 tk po => by
  have ck : Cok (bX P w K mg base ["script", "k", "box", "by", "store", "due", "many", "heft", "gain", "most", "kind"] "law" st_law f cdv A outer s H Ex) (bE Ex) 5 := ck0
  exact fc_done (fc_cons (fs_for po rfl (fi_range1 (by rfl) Z.b_range (fa_cons (fe_max2 rfl (by rfl) Z.b_max fe_int (fe_min2 rfl (by rfl) Z.b_min (fe_len (by rfl) Z.b_len (fe_var (pv 0))) fe_int)) fa_nil)) (fg_name (L2.pg_name (i := 1) sc_law.nd (by rfl) (by first | exact .inl rfl | exact .inr rfl))) (fc_done (fc_cons (fs_set (i := 2) sc_law.nd (by rfl) (by first | exact .inl rfl | exact .inr rfl) (fe_callC C__law_box ck (by decide) (by rfl) none (fa_cons (fe_var (pv 0)) (fa_cons (fe_var (pv 1)) fa_nil))))
   (fc_w (fc_cons (fs_set (i := 3) sc_law.nd (by rfl) (by first | exact .inl rfl | exact .inr rfl) (fe_ix (fe_lst (fa_cons fe_int (fa_cons fe_int (fa_cons fe_int (fa_cons fe_int fa_nil))))) (fe_callC C__law_take ck (by decide) (by rfl) (some 0) (fa_cons (fe_var (pv 2)) (fa_cons fe_int fa_nil))) (fun _ _ => rfl)))
   (fc_cons (fs_set (i := 4) sc_law.nd (by rfl) (by first | exact .inl rfl | exact .inr rfl) (fe_callC C__law_endless ck (by decide) (by rfl) (some 0) (fa_cons (fe_var (pv 2)) (fa_cons fe_int (fa_cons (fe_fdiv (fe_ix (fe_lst (fa_cons fe_int (fa_cons fe_int (fa_cons fe_int (fa_cons fe_int (fa_cons fe_int (fa_cons fe_int (fa_cons fe_int (fa_cons (fe_mul fe_int fe_int) fa_nil))))))))) (fe_callC C__law_take ck (by decide) (by rfl) (some 0) (fa_cons (fe_var (pv 2)) (fa_cons fe_int fa_nil))) (fun _ _ => rfl)) (fe_var (pv 3))) fa_nil)))))
   (fc_w (fc_cons (fs_set (i := 4) sc_law.nd (by rfl) (by first | exact .inl rfl | exact .inr rfl) (fe_tuple (by rfl) Z.b_tuple (fe_lc (own := [("heft", 7), ("gain", 8), ("most", 9)]) (vs := [7, 8, 9]) rfl sc_law.nd (fi_any (fe_var (pv 4))) (L2.blkOk_by (by rfl)) rfl (fun _ _ _ _ _ => (fgv_tup rfl (fgvs_cons (fgv_name (L2.pg_name (i := 7) sc_law.nd (by rfl) (by first | exact .inl rfl | exact .inr rfl)) (by decide)) (fgvs_cons (fgv_name (L2.pg_name (i := 8) sc_law.nd (by rfl) (by first | exact .inl rfl | exact .inr rfl)) (by decide)) (fgvs_cons (fgv_name (L2.pg_name (i := 9) sc_law.nd (by rfl) (by first | exact .inl rfl | exact .inr rfl)) (by decide)) fgvs_nil))) (gsCons_len (gsCons_len (gsCons_len gsNil_len))))) (fun _ _ _ _ _ => fts_nil) (fun _ _ _ _ _ => (fe_tup (fa_cons (fe_mul (fe_var (pv 7)) (fe_var (pv 3))) (fa_cons (fe_var (pv 8)) (fa_cons (fe_var (pv 9)) fa_nil))))))))
   (fc_w (fc_cons (fs_asg (fe_callC C__law_due ck (by decide) (by rfl) none (fa_cons (fe_lc (own := [("kind", 10)]) (vs := [10]) rfl sc_law.nd (fi_any (fe_var (pv 4))) (L2.blkOk_by (by rfl)) rfl (fun _ _ _ _ _ => (fgv_name (L2.pg_name (i := 10) sc_law.nd (by rfl) (by first | exact .inl rfl | exact .inr rfl)) (by decide))) (fun _ _ _ _ _ => fts_nil) (fun _ _ _ _ _ => (fe_ix (fe_var (pv 10)) fe_int (fun _ _ => rfl)))) fa_nil)) (fg_tup rfl (fgs_cons (fg_name (L2.pg_name (i := 5) sc_law.nd (by rfl) (by first | exact .inl rfl | exact .inr rfl))) (fgs_cons (fg_name (L2.pg_name (i := 6) sc_law.nd (by rfl) (by first | exact .inl rfl | exact .inr rfl))) fgs_nil)) (gsCons_len (gsCons_len gsNil_len))))
   (fc_if ((fw_or (ft_cmp (cf_neS ck.u64) (fe_repr ck (by rfl) Z.b_repr (fe_callC C_never_filled ck (by decide) (by rfl) none (fa_cons (fe_var (pv 4)) fa_nil))) (fe_repr ck (by rfl) Z.b_repr (fe_var (pv 5))) (by rfl)) (fw_or1 (ft_cmp (cf_neS ck.u64) (fe_repr ck (by rfl) Z.b_repr (fe_callC C_never_many ck (by decide) (by rfl) none (fa_cons (fe_var (pv 4)) fa_nil))) (fe_repr ck (by rfl) Z.b_repr (fe_var (pv 6))) (by rfl))))).pt
   (fc_w (fc_end (fs_ret fe_bl) (ret_nx _)))
   (fc_w fc_nil)
   fc_nil)))))))))))
   (fc_w (fc_end (fs_ret fe_bl) (ret_nx _))))
end
theorem all_mk {P : Program} {w : World} {K : Frag} {h : Heap} {mg : Str → Option Value} (X : K.In h) (G : h.Ns mainGlobals mg)
    {t_MOST_KINDS : Tok}
    {t_MOST_WEIGHT : Tok}
    {C_NoStore : Addr}
    {C_NotEndless : Addr}
    {C_TooMany : Addr}
    {f__law_box : Addr} {oc__law_box kV__law_box dc__law_box pm__law_box cd__law_box ct__law_box : Value} {od__law_box an__law_box : Option Addr} {sl__law_box : Array (Option Value)}
    {f__law_divisor : Addr} {oc__law_divisor kV__law_divisor dc__law_divisor pm__law_divisor cd__law_divisor ct__law_divisor : Value} {od__law_divisor an__law_divisor : Option Addr} {sl__law_divisor : Array (Option Value)}
    {f__law_due : Addr} {oc__law_due kV__law_due dc__law_due pm__law_due cd__law_due ct__law_due : Value} {od__law_due an__law_due : Option Addr} {sl__law_due : Array (Option Value)}
    {f__law_take : Addr} {oc__law_take kV__law_take dc__law_take pm__law_take cd__law_take ct__law_take : Value} {od__law_take an__law_take : Option Addr} {sl__law_take : Array (Option Value)}
    {f__law_endless : Addr} {oc__law_endless kV__law_endless dc__law_endless pm__law_endless cd__law_endless ct__law_endless : Value} {od__law_endless an__law_endless : Option Addr} {sl__law_endless : Array (Option Value)}
    {f_need_endless : Addr} {oc_need_endless kV_need_endless dc_need_endless pm_need_endless cd_need_endless ct_need_endless : Value} {od_need_endless an_need_endless : Option Addr} {sl_need_endless : Array (Option Value)}
    {f_is_from : Addr} {oc_is_from kV_is_from dc_is_from pm_is_from cd_is_from ct_is_from : Value} {od_is_from an_is_from : Option Addr} {sl_is_from : Array (Option Value)}
    {f_is_kind : Addr} {oc_is_kind kV_is_kind dc_is_kind pm_is_kind cd_is_kind ct_is_kind : Value} {od_is_kind an_is_kind : Option Addr} {sl_is_kind : Array (Option Value)}
    {f_is_store : Addr} {oc_is_store kV_is_store dc_is_store pm_is_store cd_is_store ct_is_store : Value} {od_is_store an_is_store : Option Addr} {sl_is_store : Array (Option Value)}
    {f_need_store : Addr} {oc_need_store kV_need_store dc_need_store pm_need_store cd_need_store ct_need_store : Value} {od_need_store an_need_store : Option Addr} {sl_need_store : Array (Option Value)}
    {f_common : Addr} {oc_common kV_common dc_common pm_common cd_common ct_common : Value} {od_common an_common : Option Addr} {sl_common : Array (Option Value)}
    {f_never : Addr} {oc_never kV_never dc_never pm_never cd_never ct_never : Value} {od_never an_never : Option Addr} {sl_never : Array (Option Value)}
    {f_never_filled : Addr} {oc_never_filled kV_never_filled dc_never_filled pm_never_filled cd_never_filled ct_never_filled : Value} {od_never_filled an_never_filled : Option Addr} {sl_never_filled : Array (Option Value)}
    {f_never_many : Addr} {oc_never_many kV_never_many dc_never_many pm_never_many cd_never_many ct_never_many : Value} {od_never_many an_never_many : Option Addr} {sl_never_many : Array (Option Value)}
    {f_law : Addr} {oc_law kV_law dc_law pm_law cd_law ct_law : Value} {od_law an_law : Option Addr} {sl_law : Array (Option Value)}
    (b_abs : PySem.W.nsIn K mainGlobals "abs" = some none)
    (b_all : PySem.W.nsIn K mainGlobals "all" = some none)
    (b_any : PySem.W.nsIn K mainGlobals "any" = some none)
    (b_bool : PySem.W.nsIn K mainGlobals "bool" = some none)
    (b_divmod : PySem.W.nsIn K mainGlobals "divmod" = some none)
    (b_enumerate : PySem.W.nsIn K mainGlobals "enumerate" = some none)
    (b_int : PySem.W.nsIn K mainGlobals "int" = some none)
    (b_isinstance : PySem.W.nsIn K mainGlobals "isinstance" = some none)
    (b_len : PySem.W.nsIn K mainGlobals "len" = some none)
    (b_max : PySem.W.nsIn K mainGlobals "max" = some none)
    (b_min : PySem.W.nsIn K mainGlobals "min" = some none)
    (b_range : PySem.W.nsIn K mainGlobals "range" = some none)
    (b_repr : PySem.W.nsIn K mainGlobals "repr" = some none)
    (b_tuple : PySem.W.nsIn K mainGlobals "tuple" = some none)
    (c_MOST_KINDS : PySem.W.nsIn K mainGlobals "MOST_KINDS" = some (some (.int 12 t_MOST_KINDS)))
    (c_MOST_WEIGHT : PySem.W.nsIn K mainGlobals "MOST_WEIGHT" = some (some (.int 20 t_MOST_WEIGHT)))
    (ea_NoStore : PySem.W.nsIn K mainGlobals "NoStore" = some (some (.ref C_NoStore))) (eb_NoStore : PySem.W.excIn K C_NoStore vErr "ValueError.__new__" = true) (ec_NoStore : PySem.W.keepIn K (.ref C_NoStore) = true) (ed_NoStore : PySem.W.subIn K (.ref C_NoStore) (.type "BaseException") = some true) (ee_NoStore : PySem.W.typeIn K (.ref C_NoStore) = some (.type "type"))
    (ea_NotEndless : PySem.W.nsIn K mainGlobals "NotEndless" = some (some (.ref C_NotEndless))) (eb_NotEndless : PySem.W.excIn K C_NotEndless vErr "ValueError.__new__" = true) (ec_NotEndless : PySem.W.keepIn K (.ref C_NotEndless) = true) (ed_NotEndless : PySem.W.subIn K (.ref C_NotEndless) (.type "BaseException") = some true) (ee_NotEndless : PySem.W.typeIn K (.ref C_NotEndless) = some (.type "type"))
    (ea_TooMany : PySem.W.nsIn K mainGlobals "TooMany" = some (some (.ref C_TooMany))) (eb_TooMany : PySem.W.excIn K C_TooMany vErr "ValueError.__new__" = true) (ec_TooMany : PySem.W.keepIn K (.ref C_TooMany) = true) (ed_TooMany : PySem.W.subIn K (.ref C_TooMany) (.type "BaseException") = some true) (ee_TooMany : PySem.W.typeIn K (.ref C_TooMany) = some (.type "type"))
    (fa__law_box : PySem.W.nsIn K mainGlobals "_law_box" = some (some (.ref f__law_box))) (fl__law_box : K.lookup f__law_box = some ⟨oc__law_box, od__law_box, .func (PySem.W.fnOf "_law_box" "_law_box" (defArgs st__law_box) (defBody st__law_box) (defScope st__law_box) .none kV__law_box dc__law_box pm__law_box an__law_box cd__law_box ct__law_box), sl__law_box⟩) (fc__law_box : PySem.W.codeIn K cd__law_box "_law_box" = true) (fk__law_box : PySem.W.keepIn K (.ref f__law_box) = true)
    (fa__law_divisor : PySem.W.nsIn K mainGlobals "_law_divisor" = some (some (.ref f__law_divisor))) (fl__law_divisor : K.lookup f__law_divisor = some ⟨oc__law_divisor, od__law_divisor, .func (PySem.W.fnOf "_law_divisor" "_law_divisor" (defArgs st__law_divisor) (defBody st__law_divisor) (defScope st__law_divisor) .none kV__law_divisor dc__law_divisor pm__law_divisor an__law_divisor cd__law_divisor ct__law_divisor), sl__law_divisor⟩) (fc__law_divisor : PySem.W.codeIn K cd__law_divisor "_law_divisor" = true) (fk__law_divisor : PySem.W.keepIn K (.ref f__law_divisor) = true)
    (fa__law_due : PySem.W.nsIn K mainGlobals "_law_due" = some (some (.ref f__law_due))) (fl__law_due : K.lookup f__law_due = some ⟨oc__law_due, od__law_due, .func (PySem.W.fnOf "_law_due" "_law_due" (defArgs st__law_due) (defBody st__law_due) (defScope st__law_due) .none kV__law_due dc__law_due pm__law_due an__law_due cd__law_due ct__law_due), sl__law_due⟩) (fc__law_due : PySem.W.codeIn K cd__law_due "_law_due" = true) (fk__law_due : PySem.W.keepIn K (.ref f__law_due) = true)
    (fa__law_take : PySem.W.nsIn K mainGlobals "_law_take" = some (some (.ref f__law_take))) (fl__law_take : K.lookup f__law_take = some ⟨oc__law_take, od__law_take, .func (PySem.W.fnOf "_law_take" "_law_take" (defArgs st__law_take) (defBody st__law_take) (defScope st__law_take) .none kV__law_take dc__law_take pm__law_take an__law_take cd__law_take ct__law_take), sl__law_take⟩) (fc__law_take : PySem.W.codeIn K cd__law_take "_law_take" = true) (fk__law_take : PySem.W.keepIn K (.ref f__law_take) = true)
    (fa__law_endless : PySem.W.nsIn K mainGlobals "_law_endless" = some (some (.ref f__law_endless))) (fl__law_endless : K.lookup f__law_endless = some ⟨oc__law_endless, od__law_endless, .func (PySem.W.fnOf "_law_endless" "_law_endless" (defArgs st__law_endless) (defBody st__law_endless) (defScope st__law_endless) .none kV__law_endless dc__law_endless pm__law_endless an__law_endless cd__law_endless ct__law_endless), sl__law_endless⟩) (fc__law_endless : PySem.W.codeIn K cd__law_endless "_law_endless" = true) (fk__law_endless : PySem.W.keepIn K (.ref f__law_endless) = true)
    (fa_need_endless : PySem.W.nsIn K mainGlobals "need_endless" = some (some (.ref f_need_endless))) (fl_need_endless : K.lookup f_need_endless = some ⟨oc_need_endless, od_need_endless, .func (PySem.W.fnOf "need_endless" "need_endless" (defArgs st_need_endless) (defBody st_need_endless) (defScope st_need_endless) .none kV_need_endless dc_need_endless pm_need_endless an_need_endless cd_need_endless ct_need_endless), sl_need_endless⟩) (fc_need_endless : PySem.W.codeIn K cd_need_endless "need_endless" = true) (fk_need_endless : PySem.W.keepIn K (.ref f_need_endless) = true)
    (fa_is_from : PySem.W.nsIn K mainGlobals "is_from" = some (some (.ref f_is_from))) (fl_is_from : K.lookup f_is_from = some ⟨oc_is_from, od_is_from, .func (PySem.W.fnOf "is_from" "is_from" (defArgs st_is_from) (defBody st_is_from) (defScope st_is_from) .none kV_is_from dc_is_from pm_is_from an_is_from cd_is_from ct_is_from), sl_is_from⟩) (fc_is_from : PySem.W.codeIn K cd_is_from "is_from" = true) (fk_is_from : PySem.W.keepIn K (.ref f_is_from) = true)
    (fa_is_kind : PySem.W.nsIn K mainGlobals "is_kind" = some (some (.ref f_is_kind))) (fl_is_kind : K.lookup f_is_kind = some ⟨oc_is_kind, od_is_kind, .func (PySem.W.fnOf "is_kind" "is_kind" (defArgs st_is_kind) (defBody st_is_kind) (defScope st_is_kind) .none kV_is_kind dc_is_kind pm_is_kind an_is_kind cd_is_kind ct_is_kind), sl_is_kind⟩) (fc_is_kind : PySem.W.codeIn K cd_is_kind "is_kind" = true) (fk_is_kind : PySem.W.keepIn K (.ref f_is_kind) = true)
    (fa_is_store : PySem.W.nsIn K mainGlobals "is_store" = some (some (.ref f_is_store))) (fl_is_store : K.lookup f_is_store = some ⟨oc_is_store, od_is_store, .func (PySem.W.fnOf "is_store" "is_store" (defArgs st_is_store) (defBody st_is_store) (defScope st_is_store) .none kV_is_store dc_is_store pm_is_store an_is_store cd_is_store ct_is_store), sl_is_store⟩) (fc_is_store : PySem.W.codeIn K cd_is_store "is_store" = true) (fk_is_store : PySem.W.keepIn K (.ref f_is_store) = true)
    (fa_need_store : PySem.W.nsIn K mainGlobals "need_store" = some (some (.ref f_need_store))) (fl_need_store : K.lookup f_need_store = some ⟨oc_need_store, od_need_store, .func (PySem.W.fnOf "need_store" "need_store" (defArgs st_need_store) (defBody st_need_store) (defScope st_need_store) .none kV_need_store dc_need_store pm_need_store an_need_store cd_need_store ct_need_store), sl_need_store⟩) (fc_need_store : PySem.W.codeIn K cd_need_store "need_store" = true) (fk_need_store : PySem.W.keepIn K (.ref f_need_store) = true)
    (fa_common : PySem.W.nsIn K mainGlobals "common" = some (some (.ref f_common))) (fl_common : K.lookup f_common = some ⟨oc_common, od_common, .func (PySem.W.fnOf "common" "common" (defArgs st_common) (defBody st_common) (defScope st_common) .none kV_common dc_common pm_common an_common cd_common ct_common), sl_common⟩) (fc_common : PySem.W.codeIn K cd_common "common" = true) (fk_common : PySem.W.keepIn K (.ref f_common) = true)
    (fa_never : PySem.W.nsIn K mainGlobals "never" = some (some (.ref f_never))) (fl_never : K.lookup f_never = some ⟨oc_never, od_never, .func (PySem.W.fnOf "never" "never" (defArgs st_never) (defBody st_never) (defScope st_never) .none kV_never dc_never pm_never an_never cd_never ct_never), sl_never⟩) (fc_never : PySem.W.codeIn K cd_never "never" = true) (fk_never : PySem.W.keepIn K (.ref f_never) = true)
    (fa_never_filled : PySem.W.nsIn K mainGlobals "never_filled" = some (some (.ref f_never_filled))) (fl_never_filled : K.lookup f_never_filled = some ⟨oc_never_filled, od_never_filled, .func (PySem.W.fnOf "never_filled" "never_filled" (defArgs st_never_filled) (defBody st_never_filled) (defScope st_never_filled) .none kV_never_filled dc_never_filled pm_never_filled an_never_filled cd_never_filled ct_never_filled), sl_never_filled⟩) (fc_never_filled : PySem.W.codeIn K cd_never_filled "never_filled" = true) (fk_never_filled : PySem.W.keepIn K (.ref f_never_filled) = true)
    (fa_never_many : PySem.W.nsIn K mainGlobals "never_many" = some (some (.ref f_never_many))) (fl_never_many : K.lookup f_never_many = some ⟨oc_never_many, od_never_many, .func (PySem.W.fnOf "never_many" "never_many" (defArgs st_never_many) (defBody st_never_many) (defScope st_never_many) .none kV_never_many dc_never_many pm_never_many an_never_many cd_never_many ct_never_many), sl_never_many⟩) (fc_never_many : PySem.W.codeIn K cd_never_many "never_many" = true) (fk_never_many : PySem.W.keepIn K (.ref f_never_many) = true)
    (fa_law : PySem.W.nsIn K mainGlobals "law" = some (some (.ref f_law))) (fl_law : K.lookup f_law = some ⟨oc_law, od_law, .func (PySem.W.fnOf "law" "law" (defArgs st_law) (defBody st_law) (defScope st_law) .none kV_law dc_law pm_law an_law cd_law ct_law), sl_law⟩) (fc_law : PySem.W.codeIn K cd_law "law" = true) (fk_law : PySem.W.keepIn K (.ref f_law) = true) :
    ∀ base : Heap, Clb P w K mg base 6 "law" 1 run_law := fun base => by
  have Z : Fx K mg := ⟨PySem.W.mg_none_of X G b_abs, PySem.W.mg_none_of X G b_all, PySem.W.mg_none_of X G b_any, PySem.W.mg_none_of X G b_bool, PySem.W.mg_none_of X G b_divmod, PySem.W.mg_none_of X G b_enumerate, PySem.W.mg_none_of X G b_int, PySem.W.mg_none_of X G b_isinstance, PySem.W.mg_none_of X G b_len, PySem.W.mg_none_of X G b_max, PySem.W.mg_none_of X G b_min, PySem.W.mg_none_of X G b_range, PySem.W.mg_none_of X G b_repr, PySem.W.mg_none_of X G b_tuple, ⟨_, PySem.W.mg_of X G c_MOST_KINDS⟩, ⟨_, PySem.W.mg_of X G c_MOST_WEIGHT⟩, erc_mk X G ea_NoStore eb_NoStore ec_NoStore ed_NoStore ee_NoStore, erc_mk X G ea_NotEndless eb_NotEndless ec_NotEndless ed_NotEndless ee_NotEndless, erc_mk X G ea_TooMany eb_TooMany ec_TooMany ed_TooMany ee_TooMany⟩
  have C__law_box := kp__law_box (P := P) (w := w) (base := base) Z (tx_mk X G fa__law_box fl__law_box fc__law_box fk__law_box fun _ _ _ _ _ _ us hl => match us, hl with | [_, _], _ => rfl) 
  have C__law_divisor := kp__law_divisor (P := P) (w := w) (base := base) Z (tx_mk X G fa__law_divisor fl__law_divisor fc__law_divisor fk__law_divisor fun _ _ _ _ _ _ us hl => match us, hl with | [_, _], _ => rfl) 
  have C__law_due := kp__law_due (P := P) (w := w) (base := base) Z (tx_mk X G fa__law_due fl__law_due fc__law_due fk__law_due fun _ _ _ _ _ _ us hl => match us, hl with | [_], _ => rfl) C__law_divisor
  have C__law_take := kp__law_take (P := P) (w := w) (base := base) Z (tx_mk X G fa__law_take fl__law_take fc__law_take fk__law_take fun _ _ _ _ _ _ us hl => match us, hl with | [_, _], _ => rfl) 
  have C__law_endless := kp__law_endless (P := P) (w := w) (base := base) Z (tx_mk X G fa__law_endless fl__law_endless fc__law_endless fk__law_endless fun _ _ _ _ _ _ us hl => match us, hl with | [_, _, _], _ => rfl) C__law_take
  have C_need_endless := kp_need_endless (P := P) (w := w) (base := base) Z (tx_mk X G fa_need_endless fl_need_endless fc_need_endless fk_need_endless fun _ _ _ _ _ _ us hl => match us, hl with | [_], _ => rfl) 
  have C_is_from := kp_is_from (P := P) (w := w) (base := base) Z (tx_mk X G fa_is_from fl_is_from fc_is_from fk_is_from fun _ _ _ _ _ _ us hl => match us, hl with | [_, _], _ => rfl) 
  have C_is_kind := kp_is_kind (P := P) (w := w) (base := base) Z (tx_mk X G fa_is_kind fl_is_kind fc_is_kind fk_is_kind fun _ _ _ _ _ _ us hl => match us, hl with | [_], _ => rfl) C_is_from
  have C_is_store := kp_is_store (P := P) (w := w) (base := base) Z (tx_mk X G fa_is_store fl_is_store fc_is_store fk_is_store fun _ _ _ _ _ _ us hl => match us, hl with | [_], _ => rfl) C_is_kind
  have C_need_store := kp_need_store (P := P) (w := w) (base := base) Z (tx_mk X G fa_need_store fl_need_store fc_need_store fk_need_store fun _ _ _ _ _ _ us hl => match us, hl with | [_], _ => rfl) C_is_store
  have C_common := kp_common (P := P) (w := w) (base := base) Z (tx_mk X G fa_common fl_common fc_common fk_common fun _ _ _ _ _ _ us hl => match us, hl with | [_, _], _ => rfl) 
  have C_never := kp_never (P := P) (w := w) (base := base) Z (tx_mk X G fa_never fl_never fc_never fk_never fun _ _ _ _ _ _ us hl => match us, hl with | [_], _ => rfl) C_common
  have C_never_filled := kp_never_filled (P := P) (w := w) (base := base) Z (tx_mk X G fa_never_filled fl_never_filled fc_never_filled fk_never_filled fun _ _ _ _ _ _ us hl => match us, hl with | [_], _ => rfl) C_need_endless C_need_store C_never
  have C_never_many := kp_never_many (P := P) (w := w) (base := base) Z (tx_mk X G fa_never_many fl_never_many fc_never_many fk_never_many fun _ _ _ _ _ _ us hl => match us, hl with | [_], _ => rfl) C_need_endless C_need_store C_never
  have C_law := kp_law (P := P) (w := w) (base := base) Z (tx_mk X G fa_law fl_law fc_law fk_law fun _ _ _ _ _ _ us hl => match us, hl with | [_], _ => rfl) C__law_box C__law_due C__law_endless C__law_take C_never_filled C_never_many
  exact C_law
end Lw_k53

open PySem PySem.W PyProof.Rows
set_option maxRecDepth 100000 in
set_option maxHeartbeats 0 in
theorem PySem.Challenge.cw_sackloads_k53_rooms_never_filled_holds : PySem.Challenge.rw_sackloads_k53_rooms_never_filled.Holds := by
  w_on; o_law; k_head; (case hw => w_witness2)
  k_fill
  refine FL.walkF (k := 6) (run := Lw_k53.run_law) (by decide +kernel) (by rw [FL.lim_eq]; decide) rfl ⟨rfl, by decide, by decide⟩ (fun w h Y => PySem.W.kIn_of Y) ?F Lw_k53.law_true
  case F =>
    intro w mg h KX G
    refine' Lw_k53.all_mk KX G ?b_abs ?b_all ?b_any ?b_bool ?b_divmod ?b_enumerate ?b_int ?b_isinstance ?b_len ?b_max ?b_min ?b_range ?b_repr ?b_tuple ?c_MOST_KINDS ?c_MOST_WEIGHT ?ea_NoStore ?eb_NoStore ?ec_NoStore ?ed_NoStore ?ee_NoStore ?ea_NotEndless ?eb_NotEndless ?ec_NotEndless ?ed_NotEndless ?ee_NotEndless ?ea_TooMany ?eb_TooMany ?ec_TooMany ?ed_TooMany ?ee_TooMany ?fa__law_box ?fl__law_box ?fc__law_box ?fk__law_box ?fa__law_divisor ?fl__law_divisor ?fc__law_divisor ?fk__law_divisor ?fa__law_due ?fl__law_due ?fc__law_due ?fk__law_due ?fa__law_take ?fl__law_take ?fc__law_take ?fk__law_take ?fa__law_endless ?fl__law_endless ?fc__law_endless ?fk__law_endless ?fa_need_endless ?fl_need_endless ?fc_need_endless ?fk_need_endless ?fa_is_from ?fl_is_from ?fc_is_from ?fk_is_from ?fa_is_kind ?fl_is_kind ?fc_is_kind ?fk_is_kind ?fa_is_store ?fl_is_store ?fc_is_store ?fk_is_store ?fa_need_store ?fl_need_store ?fc_need_store ?fk_need_store ?fa_common ?fl_common ?fc_common ?fk_common ?fa_never ?fl_never ?fc_never ?fk_never ?fa_never_filled ?fl_never_filled ?fc_never_filled ?fk_never_filled ?fa_never_many ?fl_never_many ?fc_never_many ?fk_never_many ?fa_law ?fl_law ?fc_law ?fk_law
    (case b_abs => k_is); (case b_all => k_is); (case b_any => k_is); (case b_bool => k_is); (case b_divmod => k_is); (case b_enumerate => k_is); (case b_int => k_is); (case b_isinstance => k_is); (case b_len => k_is); (case b_max => k_is); (case b_min => k_is); (case b_range => k_is); (case b_repr => k_is); (case b_tuple => k_is); (case c_MOST_KINDS => k_is); (case c_MOST_WEIGHT => k_is); (case ea_NoStore => k_is); (case eb_NoStore => k_exc); (case ec_NoStore => k_is); (case ed_NoStore => k_is); (case ee_NoStore => k_is); (case ea_NotEndless => k_is); (case eb_NotEndless => k_exc); (case ec_NotEndless => k_is); (case ed_NotEndless => k_is); (case ee_NotEndless => k_is); (case ea_TooMany => k_is); (case eb_TooMany => k_exc); (case ec_TooMany => k_is); (case ed_TooMany => k_is); (case ee_TooMany => k_is); (case fa__law_box => k_is); (case fl__law_box => k_is); (case fc__law_box => k_is); (case fk__law_box => k_is); (case fa__law_divisor => k_is); (case fl__law_divisor => k_is); (case fc__law_divisor => k_is); (case fk__law_divisor => k_is); (case fa__law_due => k_is); (case fl__law_due => k_is); (case fc__law_due => k_is); (case fk__law_due => k_is); (case fa__law_take => k_is); (case fl__law_take => k_is); (case fc__law_take => k_is); (case fk__law_take => k_is); (case fa__law_endless => k_is); (case fl__law_endless => k_is); (case fc__law_endless => k_is); (case fk__law_endless => k_is); (case fa_need_endless => k_is); (case fl_need_endless => k_is); (case fc_need_endless => k_is); (case fk_need_endless => k_is); (case fa_is_from => k_is); (case fl_is_from => k_is); (case fc_is_from => k_is); (case fk_is_from => k_is); (case fa_is_kind => k_is); (case fl_is_kind => k_is); (case fc_is_kind => k_is); (case fk_is_kind => k_is); (case fa_is_store => k_is); (case fl_is_store => k_is); (case fc_is_store => k_is); (case fk_is_store => k_is); (case fa_need_store => k_is); (case fl_need_store => k_is); (case fc_need_store => k_is); (case fk_need_store => k_is); (case fa_common => k_is); (case fl_common => k_is); (case fc_common => k_is); (case fk_common => k_is); (case fa_never => k_is); (case fl_never => k_is); (case fc_never => k_is); (case fk_never => k_is); (case fa_never_filled => k_is); (case fl_never_filled => k_is); (case fc_never_filled => k_is); (case fk_never_filled => k_is); (case fa_never_many => k_is); (case fl_never_many => k_is); (case fc_never_many => k_is); (case fk_never_many => k_is); (case fa_law => k_is); (case fl_law => k_is); (case fc_law => k_is); (case fk_law => k_is)
