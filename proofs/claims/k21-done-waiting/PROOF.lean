import PyProof.Rows.All
import Wide.All
import OpenK.AllK
import Wide.FinOn
import HandS.ForMost
import HandS.ForExc
import HandS.Wide
import HandS.TupAny
import HandS.IsInst
import HandS.Zip
import HandS.More
import HandS.Walk
import HandS.Defaults
import HandS.ExcCtx
import HandS.HotCalls
import KE.KStateDown
import HandS.Base
import HandS.Call
import HandS.Exc
import HandS.ExcField
import HandS.ExcIs
import HandS.ExcInit
import HandS.Words
import HandS.Head0
import HandS.Head1
import HandS.Head2
import HandS.HeadEnd
import HandS.HeadHook1
import HandS.HeadHook2
import KE.GoesEnumKw
import HandS.Conv
import HandS.Style
import KE.GoesZip
import KE.KDictList
import KE.KFromBytes
import PyProof.Rows.ChunkLeaf
import HandS.HeadHook4
import HandS.Ends
import HandS.WordsExc
import PySem.Challenge.RW_nosparecell_k21_done_and_waiting_lots
set_option Elab.async false
set_option linter.all false
set_option maxRecDepth 100000
set_option maxHeartbeats 2000000
/-! DL, part 1: plain data, what a value denotes, the environment of a def's run (frozen heap, own lists). -/
namespace DL
open PySem L2

/-- plain data -/
inductive D where
  | non | bl (b : Bool) | int (i : Int) | str (x : Str) | lst (ds : List D) | tup (ds : List D) | ref (a : Addr) | ty (n : String)
  /-- a list that is only read (the script) -/
  | frz (ds : List D)
  deriving Inhabited

/-! ### what a value denotes in a heap -/
mutual
inductive Den (K : PySem.W.Frag) (H : Hp) : V → D → Prop
  | non : Den K H .non .non
  | bl (b : Bool) : Den K H (.bl b) (.bl b)
  | int (i : Int) : Den K H (.int i) (.int i)
  | str (x : Str) : Den K H (.str x) (.str x)
  | ref (a : Addr) : Den K H (.ref a) (.ref a)
  | ty (n : String) : Den K H (.ty n) (.ty n)
  | lst {a : Addr} {xs : List V} {ds : List D} : H a = some (.lst xs) → DenL K H xs ds → Den K H (.ref a) (.lst ds)
  | frz {a : Addr} {xs : List V} {ds : List D} : SqL K H a xs → DenL K H xs ds → Den K H (.ref a) (.frz ds)
  | tup {a : Addr} {xs : List V} {ds : List D} : SqT K H a xs → DenL K H xs ds → Den K H (.ref a) (.tup ds)
inductive DenL (K : PySem.W.Frag) (H : Hp) : List V → List D → Prop
  | nil : DenL K H [] []
  | cons {v : V} {vs : List V} {d : D} {ds : List D} : Den K H v d → DenL K H vs ds → DenL K H (v :: vs) (d :: ds)
end

theorem rd_mono {H H' : Hp} {a : Addr} {u : HO} (e : Same H H') (h : Rd H a u) : Rd H' a u := by
  rcases h with h | ⟨o, h⟩
  · exact .inl (e _ _ h)
  · exact .inr ⟨o, e _ _ h⟩
theorem sqL_mono {K : PySem.W.Frag} {H H' : Hp} {a : Addr} {xs : List V} (e : Same H H') (h : SqL K H a xs) : SqL K H' a xs := by
  rcases h with h | h
  · exact .inl (rd_mono e h)
  · exact .inr h
theorem sqT_mono {K : PySem.W.Frag} {H H' : Hp} {a : Addr} {xs : List V} (e : Same H H') (h : SqT K H a xs) : SqT K H' a xs := by
  rcases h with h | h
  · exact .inl (rd_mono e h)
  · exact .inr h
section
variable {K : PySem.W.Frag} {H H' : Hp}
mutual
theorem Den.mono (e : Same H H') : ∀ {v : V} {d : D}, Den K H v d → Den K H' v d
  | _, _, .non => .non
  | _, _, .bl b => .bl b
  | _, _, .int i => .int i
  | _, _, .str x => .str x
  | _, _, .ref a => .ref a
  | _, _, .ty n => .ty n
  | _, _, .lst h1 h2 => .lst (e _ _ h1) (DenL.mono e h2)
  | _, _, .frz h1 h2 => .frz (sqL_mono e h1) (DenL.mono e h2)
  | _, _, .tup h1 h2 => .tup (sqT_mono e h1) (DenL.mono e h2)
theorem DenL.mono (e : Same H H') : ∀ {vs : List V} {ds : List D}, DenL K H vs ds → DenL K H' vs ds
  | _, _, .nil => .nil
  | _, _, .cons h1 h2 => .cons (Den.mono e h1) (DenL.mono e h2)
end
theorem DenL.length : ∀ {vs : List V} {ds : List D}, DenL K H vs ds → vs.length = ds.length
  | _, _, .nil => rfl
  | _, _, .cons _ h => by rw [List.length_cons, List.length_cons, DenL.length h]
theorem DenL.get : ∀ {vs : List V} {ds : List D} {i : Nat} {d : D}, DenL K H vs ds → ds[i]? = some d → ∃ v, vs[i]? = some v ∧ Den K H v d
  | _, _, i, _, .nil, e => by simp at e
  | _, _, 0, _, .cons h _, e => by simp at e; subst e; exact ⟨_, rfl, h⟩
  | _, _, i + 1, _, .cons _ h, e => by
    obtain ⟨v, e1, h1⟩ := DenL.get (i := i) h (by simpa using e)
    exact ⟨v, by simpa using e1, h1⟩
theorem DenL.getV : ∀ {vs : List V} {ds : List D} {i : Nat} {v : V}, DenL K H vs ds → vs[i]? = some v → ∃ d, ds[i]? = some d ∧ Den K H v d
  | _, _, i, _, .nil, e => by simp at e
  | _, _, 0, _, .cons h _, e => by simp at e; subst e; exact ⟨_, rfl, h⟩
  | _, _, i + 1, _, .cons _ h, e => by
    obtain ⟨d, e1, h1⟩ := DenL.getV (i := i) h (by simpa using e)
    exact ⟨d, by simpa using e1, h1⟩
theorem DenL.append : ∀ {vs ws : List V} {ds es : List D}, DenL K H vs ds → DenL K H ws es → DenL K H (vs ++ ws) (ds ++ es)
  | _, _, _, _, .nil, h => h
  | _, _, _, _, .cons h1 h2, h => .cons h1 (DenL.append h2 h)
theorem DenL.snoc {vs : List V} {ds : List D} {v : V} {d : D} (h : DenL K H vs ds) (h1 : Den K H v d) : DenL K H (vs ++ [v]) (ds ++ [d]) := h.append (.cons h1 .nil)
theorem DenL.take : ∀ {vs : List V} {ds : List D} (n : Nat), DenL K H vs ds → DenL K H (vs.take n) (ds.take n)
  | _, _, 0, _ => by simp; exact .nil
  | _, _, _ + 1, .nil => .nil
  | _, _, n + 1, .cons h1 h2 => .cons h1 (DenL.take n h2)
theorem DenL.drop : ∀ {vs : List V} {ds : List D} (n : Nat), DenL K H vs ds → DenL K H (vs.drop n) (ds.drop n)
  | _, _, 0, h => h
  | _, _, _ + 1, .nil => .nil
  | _, _, n + 1, .cons _ h2 => DenL.drop n h2
theorem DenL.reverse {vs : List V} {ds : List D} (h : DenL K H vs ds) : DenL K H vs.reverse ds.reverse := by
  induction vs generalizing ds with
  | nil => cases h; exact .nil
  | cons v vs ih =>
    cases h with
    | cons h1 h2 =>
      rw [List.reverse_cons, List.reverse_cons]
      exact (ih h2).snoc h1
theorem DenL.set : ∀ {vs : List V} {ds : List D} (i : Nat) {v : V} {d : D}, DenL K H vs ds → Den K H v d → DenL K H (vs.set i v) (ds.set i d)
  | _, _, _, _, _, .nil, _ => .nil
  | _, _, 0, _, _, .cons _ h2, h => .cons h h2
  | _, _, i + 1, _, _, .cons h1 h2, h => .cons h1 (DenL.set i h2 h)
theorem DenL.eraseIdx : ∀ {vs : List V} {ds : List D} (i : Nat), DenL K H vs ds → DenL K H (vs.eraseIdx i) (ds.eraseIdx i)
  | _, _, _, .nil => .nil
  | _, _, 0, .cons _ h2 => h2
  | _, _, i + 1, .cons h1 h2 => .cons h1 (DenL.eraseIdx i h2)
theorem DenL.dropLast {vs : List V} {ds : List D} (h : DenL K H vs ds) : DenL K H vs.dropLast ds.dropLast := by
  rw [List.dropLast_eq_take, List.dropLast_eq_take, h.length]
  exact h.take _
theorem DenL.insertIdx : ∀ {vs : List V} {ds : List D} (i : Nat) {v : V} {d : D}, DenL K H vs ds → Den K H v d → DenL K H (vs.insertIdx i v) (ds.insertIdx i d)
  | _, _, 0, _, _, h, h1 => by simpa using DenL.cons h1 h
  | _, _, i + 1, _, _, .nil, _ => by simp; exact .nil
  | _, _, i + 1, _, _, .cons h2 h3, h1 => by simpa using DenL.cons h2 (DenL.insertIdx i h3 h1)
theorem DenL.rep {vs : List V} {ds : List D} (h : DenL K H vs ds) : ∀ k : Nat, DenL K H (List.replicate k vs).flatten (List.replicate k ds).flatten
  | 0 => .nil
  | k + 1 => by
    rw [List.replicate_succ, List.replicate_succ, List.flatten_cons, List.flatten_cons]
    exact h.append (DenL.rep h k)
/-- ints -/
theorem denL_ints : ∀ {vs : List V} (ns : List Int), DenL K H vs (ns.map D.int) → vs = ns.map V.int
  | _, [], .nil => rfl
  | _, n :: ns, .cons h1 h2 => by
    cases h1
    rw [denL_ints ns h2]
    rfl
theorem ints_denL (ns : List Int) : DenL K H (ns.map V.int) (ns.map D.int) := by
  induction ns with
  | nil => exact .nil
  | cons n ns ih => exact .cons (.int n) ih
theorem denL_bls : ∀ {vs : List V} (bs : List Bool), DenL K H vs (bs.map D.bl) → vs = bs.map V.bl
  | _, [], .nil => rfl
  | _, n :: ns, .cons h1 h2 => by
    cases h1
    rw [denL_bls ns h2]
    rfl
end

/-! ### slots -/
/-- what a name holds: nothing that is known; a datum; a list of one's own (new since the entry), by its items; the list that was handed in to be changed -/
inductive Sl where
  | no | val (d : D) | own (ds : List D) | ino (p : Addr) (ds : List D)
abbrev Rho := List Sl
/-- a run's frame: the heap at the entry, what is frozen there, what may be changed though it stood there -/
structure Wd where
  H0 : Hp
  F0 : Hp
  M : Addr → Prop

def SlOk (K : PySem.W.Frag) (W : Wd) (F H : Hp) (s : Option (Option V)) : Sl → Prop
  | .no => True
  | .val d => ∃ v, s = some (some v) ∧ Den K F v d
  | .own ds => ∃ p vs, s = some (some (.ref p)) ∧ F p = none ∧ W.H0 p = none ∧ H p = some (.lst vs) ∧ DenL K F vs ds
  | .ino p ds => ∃ vs, s = some (some (.ref p)) ∧ F p = none ∧ W.M p ∧ H p = some (.lst vs) ∧ DenL K F vs ds
def Sl.mut : Sl → Prop
  | .own _ => True
  | .ino _ _ => True
  | _ => False

structure EnvD (K : PySem.W.Frag) (W : Wd) (F H : Hp) (σ : L2.St) (ρ : Rho) : Prop where
  sub : Same F H
  f0 : Same W.F0 F
  new : ∀ a, W.F0 a = none → W.H0 a ≠ none → F a = none
  keep : ∀ a o, W.H0 a = some o → ¬ W.M a → H a = some o
  live : ∀ a, W.H0 a ≠ none → H a ≠ none
  len : σ.length = ρ.length
  sl : ∀ (i : Nat) (s : Sl), ρ[i]? = some s → SlOk K W F H σ[i]? s
  dis : ∀ (i j : Nat) (s t : Sl) (p : Addr), ρ[i]? = some s → ρ[j]? = some t → s.mut → t.mut → σ[i]? = some (some (.ref p)) → σ[j]? = some (some (.ref p)) → i = j

section
variable {K : PySem.W.Frag} {W : Wd} {F H F' H' : Hp} {σ : L2.St} {ρ : Rho} {i : Nat} {p : Addr} {v : V} {d : D} {ds : List D} {vs : List V} {o : HO}
/-- the run goes on: more is frozen, nothing that stood is changed -/
structure Stp (F H F' H' : Hp) : Prop where
  fs : Same F F'
  sub : Same F' H'
  hs : Same H H'
  new : ∀ a, H a ≠ none → F a = none → F' a = none
theorem Stp.refl (h : Same F H) : Stp F H F H := ⟨Same.refl _, h, Same.refl _, fun _ _ h => h⟩
theorem Same.some_ne {H H' : Hp} (e : Same H H') {a : Addr} (h : H a ≠ none) : H' a ≠ none := by
  cases q : H a with
  | none => exact absurd q h
  | some o => rw [e a o q]; simp
theorem SlOk.step {s : Option (Option V)} {x : Sl} (t : Stp F H F' H') (h : SlOk K W F H s x) : SlOk K W F' H' s x := by
  cases x with
  | no => trivial
  | val d =>
    obtain ⟨v, e, h1⟩ := h
    exact ⟨v, e, h1.mono t.fs⟩
  | own ds =>
    obtain ⟨p, vs, e, h1, h2, h3, h4⟩ := h
    exact ⟨p, vs, e, t.new p (by rw [h3]; simp) h1, h2, t.hs _ _ h3, h4.mono t.fs⟩
  | ino p ds =>
    obtain ⟨vs, e, h1, h2, h3, h4⟩ := h
    exact ⟨vs, e, t.new p (by rw [h3]; simp) h1, h2, t.hs _ _ h3, h4.mono t.fs⟩
theorem EnvD.step (E : EnvD K W F H σ ρ) (t : Stp F H F' H') : EnvD K W F' H' σ ρ where
  sub := t.sub
  f0 := fun a o h => t.fs _ _ (E.f0 a o h)
  new := fun a h1 h2 => t.new a (E.live a h2) (E.new a h1 h2)
  keep := fun a o h1 h2 => t.hs _ _ (E.keep a o h1 h2)
  live := fun a h => Same.some_ne t.hs (E.live a h)
  len := E.len
  sl := fun i s h => (E.sl i s h).step t
  dis := E.dis
theorem EnvD.none_f (E : EnvD K W F H σ ρ) (h : H p = none) : F p = none := E.sub.free h
/-- a new object, frozen at once -/
theorem Stp.newF (h : Same F H) (hp : H p = none) : Stp F H (upd F p o) (upd H p o) where
  fs := fun a u e => by rw [upd_ne (ne_of_none e (h.free hp))]; exact e
  sub := fun a u e => by
    by_cases ha : a = p
    · subst ha; rw [upd_same] at e ⊢; exact e
    · rw [upd_ne ha] at e ⊢; exact h a u e
  hs := fun a u e => by rw [upd_ne (ne_of_none e hp)]; exact e
  new := fun a h1 h2 => by
    have ha : a ≠ p := fun z => h1 (by rw [z]; exact hp)
    rw [upd_ne ha]; exact h2
/-- a new object, not frozen -/
theorem Stp.newO (h : Same F H) (hp : H p = none) : Stp F H F (upd H p o) where
  fs := Same.refl _
  sub := fun a u e => by rw [upd_ne (ne_of_none (h _ _ e) hp)]; exact h a u e
  hs := fun a u e => by rw [upd_ne (ne_of_none e hp)]; exact e
  new := fun _ _ h => h
theorem Stp.trans {F1 H1 F2 H2 : Hp} (a : Stp F H F1 H1) (b : Stp F1 H1 F2 H2) : Stp F H F2 H2 where
  fs := a.fs.trans b.fs
  sub := b.sub
  hs := a.hs.trans b.hs
  new := fun x h1 h2 => b.new x (Same.some_ne a.hs h1) (a.new x h1 h2)
theorem lt_of_len (E : EnvD K W F H σ ρ) {s : Sl} (h : ρ[i]? = some s) : i < σ.length := by
  rw [E.len]; exact (List.getElem?_eq_some_iff.mp h).1
/-- a slot is given a datum -/
theorem EnvD.set (E : EnvD K W F H σ ρ) (hv : Den K F v d) : EnvD K W F H (σ.set i (some v)) (ρ.set i (.val d)) where
  sub := E.sub
  f0 := E.f0
  new := E.new
  keep := E.keep
  live := E.live
  len := by rw [List.length_set, List.length_set]; exact E.len
  sl := fun j s h => by
    by_cases hj : i = j
    · subst hj
      have hl : i < (ρ.set i (.val d)).length := (List.getElem?_eq_some_iff.mp h).1
      rw [List.length_set] at hl
      rw [List.getElem?_set_self hl] at h
      cases h
      exact ⟨v, by rw [List.getElem?_set_self (by rw [E.len]; exact hl)], hv⟩
    · rw [List.getElem?_set_ne hj] at h ⊢
      exact E.sl j s h
  dis := fun j k s t p h1 h2 m1 m2 e1 e2 => by
    have key : ∀ {j : Nat} {s : Sl}, (ρ.set i (.val d))[j]? = some s → s.mut → i ≠ j ∧ ρ[j]? = some s := fun {j s} h m => by
      by_cases hj : i = j
      · subst hj
        have hl : i < (ρ.set i (.val d)).length := (List.getElem?_eq_some_iff.mp h).1
        rw [List.length_set] at hl
        rw [List.getElem?_set_self hl] at h
        cases h
        exact m.elim
      · rw [List.getElem?_set_ne hj] at h
        exact ⟨hj, h⟩
    obtain ⟨n1, g1⟩ := key h1 m1
    obtain ⟨n2, g2⟩ := key h2 m2
    rw [List.getElem?_set_ne n1] at e1
    rw [List.getElem?_set_ne n2] at e2
    exact E.dis j k s t p g1 g2 m1 m2 e1 e2
/-- a slot is given a new list of one's own -/
theorem EnvD.setOwn (E : EnvD K W F H σ ρ) (hp : F p = none) (h0 : W.H0 p = none) (hH : H p = some (.lst vs)) (hd : DenL K F vs ds)
    (hne : ∀ (j : Nat) (s : Sl), j ≠ i → ρ[j]? = some s → s.mut → σ[j]? ≠ some (some (.ref p))) : EnvD K W F H (σ.set i (some (.ref p))) (ρ.set i (.own ds)) where
  sub := E.sub
  f0 := E.f0
  new := E.new
  keep := E.keep
  live := E.live
  len := by rw [List.length_set, List.length_set]; exact E.len
  sl := fun j s h => by
    by_cases hj : i = j
    · subst hj
      have hl : i < (ρ.set i (.own ds)).length := (List.getElem?_eq_some_iff.mp h).1
      rw [List.length_set] at hl
      rw [List.getElem?_set_self hl] at h
      cases h
      exact ⟨p, vs, by rw [List.getElem?_set_self (by rw [E.len]; exact hl)], hp, h0, hH, hd⟩
    · rw [List.getElem?_set_ne hj] at h ⊢
      exact E.sl j s h
  dis := fun j k s t q h1 h2 m1 m2 e1 e2 => by
    have key : ∀ {j : Nat} {s : Sl}, (ρ.set i (.own ds))[j]? = some s → s.mut → (σ.set i (some (.ref p)))[j]? = some (some (.ref q)) → (i = j ∧ q = p) ∨ (i ≠ j ∧ ρ[j]? = some s ∧ σ[j]? = some (some (.ref q)) ∧ q ≠ p) := fun {j s} h m e => by
      by_cases hj : i = j
      · subst hj
        have hl : i < (ρ.set i (.own ds)).length := (List.getElem?_eq_some_iff.mp h).1
        rw [List.length_set] at hl
        rw [List.getElem?_set_self (by rw [E.len]; exact hl)] at e
        injection e with e; injection e with e; injection e with e
        exact .inl ⟨rfl, e.symm⟩
      · rw [List.getElem?_set_ne hj] at h e
        refine .inr ⟨hj, h, e, ?_⟩
        rintro rfl
        exact hne j s (Ne.symm hj) h m e
    rcases key h1 m1 e1 with ⟨a1, b1⟩ | ⟨a1, b1, c1, d1⟩
    · rcases key h2 m2 e2 with ⟨a2, b2⟩ | ⟨a2, b2, c2, d2⟩
      · exact a1.symm.trans a2
      · exact absurd b1 d2
    · rcases key h2 m2 e2 with ⟨a2, b2⟩ | ⟨a2, b2, c2, d2⟩
      · exact absurd b2 d1
      · exact E.dis j k s t q b1 b2 m1 m2 c1 c2
/-- one's own list is changed -/
theorem EnvD.mutOwn {es : List D} {ws : List V} (E : EnvD K W F H σ ρ) (hi : ρ[i]? = some (.own ds)) (hσ : σ[i]? = some (some (.ref p))) (hd : DenL K F ws es) : EnvD K W F (upd H p (.lst ws)) σ (ρ.set i (.own es)) := by
  obtain ⟨q, vs0, e0, h1, h2, h3, h4⟩ := E.sl i _ hi
  have hq : q = p := by
    rw [hσ] at e0
    injection e0 with e0; injection e0 with e0; injection e0 with e0
    exact e0.symm
  subst hq
  have hl : i < ρ.length := (List.getElem?_eq_some_iff.mp hi).1
  have nf : ∀ a o, F a = some o → a ≠ q := fun a o e z => by rw [z, h1] at e; cases e
  have n0 : ∀ a o, W.H0 a = some o → a ≠ q := fun a o e z => by rw [z, h2] at e; cases e
  exact {
    sub := fun a o e => by rw [upd_ne (nf a o e)]; exact E.sub a o e
    f0 := E.f0
    new := E.new
    keep := fun a o e m => by rw [upd_ne (n0 a o e)]; exact E.keep a o e m
    live := fun a h => by
      by_cases z : a = q
      · rw [z, upd_same]; simp
      · rw [upd_ne z]; exact E.live a h
    len := by rw [List.length_set]; exact E.len
    sl := fun j s h => by
      by_cases hj : i = j
      · subst hj
        rw [List.getElem?_set_self hl] at h
        cases h
        exact ⟨q, ws, e0, h1, h2, upd_same, hd⟩
      · rw [List.getElem?_set_ne hj] at h
        have hs := E.sl j s h
        cases s with
        | no => trivial
        | val d => exact hs
        | own ds' =>
          obtain ⟨r, us, e, g1, g2, g3, g4⟩ := hs
          have hr : r ≠ q := fun z => hj (E.dis i j _ _ q hi h trivial trivial hσ (by rw [e, z]))
          exact ⟨r, us, e, g1, g2, by rw [upd_ne hr]; exact g3, g4⟩
        | ino r ds' =>
          obtain ⟨us, e, g1, g2, g3, g4⟩ := hs
          have hr : r ≠ q := fun z => hj (E.dis i j _ _ q hi h trivial trivial hσ (by rw [e, z]))
          exact ⟨us, e, g1, g2, by rw [upd_ne hr]; exact g3, g4⟩
    dis := fun j k s t r g1 g2 m1 m2 e1 e2 => by
      have key : ∀ {j : Nat} {s : Sl}, (ρ.set i (.own es))[j]? = some s → ∃ s', ρ[j]? = some s' ∧ (s.mut → s'.mut) := fun {j s} h => by
        by_cases hj : i = j
        · subst hj
          exact ⟨_, hi, fun _ => trivial⟩
        · rw [List.getElem?_set_ne hj] at h
          exact ⟨s, h, id⟩
      obtain ⟨s', q1, q2⟩ := key g1
      obtain ⟨t', q3, q4⟩ := key g2
      exact E.dis j k s' t' r q1 q3 (q2 m1) (q4 m2) e1 e2 }
/-- the list that was handed in is changed -/
theorem EnvD.mutIno {es : List D} {ws : List V} (E : EnvD K W F H σ ρ) (hi : ρ[i]? = some (.ino p ds)) (hd : DenL K F ws es) : EnvD K W F (upd H p (.lst ws)) σ (ρ.set i (.ino p es)) := by
  obtain ⟨vs0, e0, h1, h2, h3, h4⟩ := E.sl i _ hi
  have hl : i < ρ.length := (List.getElem?_eq_some_iff.mp hi).1
  have nf : ∀ a o, F a = some o → a ≠ p := fun a o e z => by rw [z, h1] at e; cases e
  exact {
    sub := fun a o e => by rw [upd_ne (nf a o e)]; exact E.sub a o e
    f0 := E.f0
    new := E.new
    keep := fun a o e m => by rw [upd_ne (fun z : a = p => m (by rw [z]; exact h2))]; exact E.keep a o e m
    live := fun a h => by
      by_cases z : a = p
      · rw [z, upd_same]; simp
      · rw [upd_ne z]; exact E.live a h
    len := by rw [List.length_set]; exact E.len
    sl := fun j s h => by
      by_cases hj : i = j
      · subst hj
        rw [List.getElem?_set_self hl] at h
        cases h
        exact ⟨ws, e0, h1, h2, upd_same, hd⟩
      · rw [List.getElem?_set_ne hj] at h
        have hs := E.sl j s h
        cases s with
        | no => trivial
        | val d => exact hs
        | own ds' =>
          obtain ⟨r, us, e, g1, g2, g3, g4⟩ := hs
          have hr : r ≠ p := fun z => hj (E.dis i j _ _ p hi h trivial trivial e0 (by rw [e, z]))
          exact ⟨r, us, e, g1, g2, by rw [upd_ne hr]; exact g3, g4⟩
        | ino r ds' =>
          obtain ⟨us, e, g1, g2, g3, g4⟩ := hs
          have hr : r ≠ p := fun z => hj (E.dis i j _ _ p hi h trivial trivial e0 (by rw [e, z]))
          exact ⟨us, e, g1, g2, by rw [upd_ne hr]; exact g3, g4⟩
    dis := fun j k s t r g1 g2 m1 m2 e1 e2 => by
      have key : ∀ {j : Nat} {s : Sl}, (ρ.set i (.ino p es))[j]? = some s → ∃ s', ρ[j]? = some s' ∧ (s.mut → s'.mut) := fun {j s} h => by
        by_cases hj : i = j
        · subst hj
          exact ⟨_, hi, fun _ => trivial⟩
        · rw [List.getElem?_set_ne hj] at h
          exact ⟨s, h, id⟩
      obtain ⟨s', q1, q2⟩ := key g1
      obtain ⟨t', q3, q4⟩ := key g2
      exact E.dis j k s' t' r q1 q3 (q2 m1) (q4 m2) e1 e2 }
/-- one's own list is frozen -/
theorem EnvD.freeze (E : EnvD K W F H σ ρ) (hi : ρ[i]? = some (.own ds)) : ∃ F', Same F F' ∧ (∀ a, F a = none → σ[i]? ≠ some (some (.ref a)) → F' a = none) ∧ EnvD K W F' H σ (ρ.set i (.val (.lst ds))) := by
  obtain ⟨p, vs, e0, h1, h2, h3, h4⟩ := E.sl i _ hi
  have hl : i < ρ.length := (List.getElem?_eq_some_iff.mp hi).1
  have fs : Same F (upd F p (.lst vs)) := fun a u e => by rw [upd_ne (ne_of_none e h1)]; exact e
  refine ⟨upd F p (.lst vs), fs, fun a ha hs => ?_, ?_⟩
  · have hap : a ≠ p := fun z => hs (by rw [z]; exact e0)
    rw [upd_ne hap]; exact ha
  exact {
    sub := fun a o e => by
      by_cases ha : a = p
      · subst ha
        rw [upd_same] at e
        cases e
        exact h3
      · rw [upd_ne ha] at e
        exact E.sub a o e
    f0 := fun a o e => fs _ _ (E.f0 a o e)
    new := fun a g1 g2 => by
      have ha : a ≠ p := fun z => g2 (by rw [z]; exact h2)
      rw [upd_ne ha]
      exact E.new a g1 g2
    keep := E.keep
    live := E.live
    len := by rw [List.length_set]; exact E.len
    sl := fun j s h => by
      by_cases hj : i = j
      · subst hj
        rw [List.getElem?_set_self hl] at h
        cases h
        exact ⟨_, e0, .lst upd_same (h4.mono fs)⟩
      · rw [List.getElem?_set_ne hj] at h
        have hs := E.sl j s h
        cases s with
        | no => trivial
        | val d =>
          obtain ⟨v, e, g⟩ := hs
          exact ⟨v, e, g.mono fs⟩
        | own ds' =>
          obtain ⟨r, us, e, g1, g2, g3, g4⟩ := hs
          have hr : r ≠ p := fun z => hj (E.dis i j _ _ p hi h trivial trivial e0 (by rw [e, z]))
          exact ⟨r, us, e, by rw [upd_ne hr]; exact g1, g2, g3, g4.mono fs⟩
        | ino r ds' =>
          obtain ⟨us, e, g1, g2, g3, g4⟩ := hs
          have hr : r ≠ p := fun z => hj (E.dis i j _ _ p hi h trivial trivial e0 (by rw [e, z]))
          exact ⟨us, e, by rw [upd_ne hr]; exact g1, g2, g3, g4.mono fs⟩
    dis := fun j k s t r g1 g2 m1 m2 e1 e2 => by
      have key : ∀ {j : Nat} {s : Sl}, (ρ.set i (.val (.lst ds)))[j]? = some s → s.mut → ρ[j]? = some s := fun {j s} h m => by
        by_cases hj : i = j
        · subst hj
          rw [List.getElem?_set_self hl] at h
          cases h
          exact m.elim
        · rw [List.getElem?_set_ne hj] at h
          exact h
      exact E.dis j k s t r (key g1 m1) (key g2 m2) m1 m2 e1 e2 }
end

/-! ### from one state of a run to a later one -/
/-- p is not what a name of one's own holds -/
def Off (σ : L2.St) (ρ : Rho) (p : Addr) : Prop := ∀ (j : Nat) (s : Sl), ρ[j]? = some s → s.mut → σ[j]? ≠ some (some (.ref p))
structure Tr (F H : Hp) (σ : L2.St) (ρ : Rho) (F' H' : Hp) (σ' : L2.St) (ρ' : Rho) : Prop where
  fs : Same F F'
  kp : ∀ (a : Addr) (o : HO), H a = some o → Off σ ρ a → H' a = some o ∧ Off σ' ρ' a
  lv : ∀ a, H a ≠ none → H' a ≠ none
  nf : ∀ a, H a ≠ none → F a = none → Off σ ρ a → F' a = none
section
variable {K : PySem.W.Frag} {W : Wd} {F H F' H' F2 H2 : Hp} {σ σ' σ2 : L2.St} {ρ ρ' ρ2 : Rho} {i : Nat} {p : Addr} {v : V} {d : D} {ds es : List D} {vs ws : List V}
theorem Tr.refl : Tr F H σ ρ F H σ ρ := ⟨Same.refl _, fun _ _ h o => ⟨h, o⟩, fun _ h => h, fun _ _ h _ => h⟩
theorem Tr.free {a : Addr} (t : Tr F H σ ρ F' H' σ' ρ') (h : H' a = none) : H a = none := by
  cases e : H a with
  | none => rfl
  | some o => exact absurd h (t.lv a (by rw [e]; simp))
theorem Tr.trans (a : Tr F H σ ρ F' H' σ' ρ') (b : Tr F' H' σ' ρ' F2 H2 σ2 ρ2) : Tr F H σ ρ F2 H2 σ2 ρ2 :=
  ⟨a.fs.trans b.fs, fun x o h k => let ⟨h1, k1⟩ := a.kp x o h k; b.kp x o h1 k1, fun x h => b.lv x (a.lv x h), fun x h1 h2 h3 => by
    cases e : H x with
    | none => exact absurd e h1
    | some o => exact b.nf x (a.lv x h1) (a.nf x h1 h2 h3) (a.kp x o e h3).2⟩
theorem Stp.tr (t : Stp F H F' H') : Tr F H σ ρ F' H' σ ρ := ⟨t.fs, fun a o h k => ⟨t.hs a o h, k⟩, fun a h => Same.some_ne t.hs h, fun a h1 h2 _ => t.new a h1 h2⟩
theorem off_set {s0 : Sl} {a : Addr} (h : Off σ ρ a) (hs : s0.mut → v ≠ .ref a) : Off (σ.set i (some v)) (ρ.set i s0) a := fun j s hj hm e => by
  by_cases hij : i = j
  · subst hij
    have hl : i < (ρ.set i s0).length := (List.getElem?_eq_some_iff.mp hj).1
    rw [List.length_set] at hl
    rw [List.getElem?_set_self hl] at hj
    cases hj
    have hl2 : i < (σ.set i (some v)).length := (List.getElem?_eq_some_iff.mp e).1
    rw [List.length_set] at hl2
    rw [List.getElem?_set_self hl2] at e
    injection e with e; injection e with e
    exact hs hm e
  · rw [List.getElem?_set_ne hij] at hj e
    exact h j s hj hm e
theorem tr_set : Tr F H σ ρ F H (σ.set i (some v)) (ρ.set i (.val d)) := ⟨Same.refl _, fun a o h k => ⟨h, off_set k fun z => z.elim⟩, fun _ h => h, fun _ _ h _ => h⟩
/-- p was not there at the start -/
theorem tr_own {H0 : Hp} (hp : H0 p = none) (t : Tr F H0 σ ρ F' H' σ' ρ') : Tr F H0 σ ρ F' H' (σ'.set i (some (.ref p))) (ρ'.set i (.own ds)) := ⟨t.fs, fun a o h k =>
  let ⟨h1, k1⟩ := t.kp a o h k
  ⟨h1, off_set k1 fun _ z => by
    injection z with z
    rw [← z, hp] at h
    cases h⟩, t.lv, t.nf⟩
theorem off_put {s s' : Sl} {a : Addr} (hi : ρ[i]? = some s) (hm : s'.mut → s.mut) (h : Off σ ρ a) : Off σ (ρ.set i s') a := fun j t hj ht e => by
  by_cases hij : i = j
  · subst hij
    have hl : i < ρ.length := (List.getElem?_eq_some_iff.mp hi).1
    rw [List.getElem?_set_self hl] at hj
    cases hj
    exact h i s hi (hm ht) e
  · rw [List.getElem?_set_ne hij] at hj
    exact h j t hj ht e
/-- a list of one's own is changed -/
theorem tr_mut {s s' : Sl} {o' : HO} (hi : ρ[i]? = some s) (hm : s.mut) (hm' : s'.mut → s.mut) (hσ : σ[i]? = some (some (.ref p))) : Tr F H σ ρ F (upd H p o') σ (ρ.set i s') := ⟨Same.refl _, fun a o h k => by
  have hap : a ≠ p := fun z => k i s hi hm (by rw [z]; exact hσ)
  exact ⟨by rw [upd_ne hap]; exact h, off_put hi hm' k⟩, fun a h => by
  by_cases z : a = p
  · rw [z, upd_same]; simp
  · rw [upd_ne z]; exact h, fun _ _ h _ => h⟩
/-- a new list is frozen -/
theorem Tr.frzNew {o : HO} (t : Tr F H σ ρ F' H' σ' ρ') (hF : F' p = none) (hp : H p = none) : Tr F H σ ρ (upd F' p o) H' σ' ρ' :=
  ⟨fun a u e => by rw [upd_ne (ne_of_none (t.fs a u e) hF)]; exact t.fs a u e, t.kp, t.lv, fun a h1 h2 h3 => by
    rw [upd_ne (fun z : a = p => h1 (by rw [z]; exact hp))]
    exact t.nf a h1 h2 h3⟩
end
end DL
set_option maxHeartbeats 2000000
/-! DL, part 2: the judgements, names, constants, operators, tests, small statements. -/
namespace DL
open PySem PySem.Spec PyProof.Rows L2

/-! ### what runs, as a reading -/
def RunE (X : Cx) (e : Expr) : TE := fun σ H Q => ∀ (pins : List (Addr × Obj)) (s : Shared), Inv X pins σ H s → wpAny (model X.prog X.w) X.A (eval e X.env) (EP X pins σ Q) X.xe s
def RunT (X : Cx) (e : Expr) : TT := fun σ H Q => ∀ (pins : List (Addr × Obj)) (s : Shared), Inv X pins σ H s → wpAny (model X.prog X.w) X.A (isTrue e X.env (eval e X.env)) (TP X pins σ Q) X.xe s
def RunW (X : Cx) (e : Expr) : TT := fun σ H Q => ∀ (whole : Sem Value) (pins : List (Addr × Obj)) (s : Shared), Inv X pins σ H s → wpAny (model X.prog X.w) X.A (isTrue e X.env whole) (TP X pins σ Q) X.xe s
def RunA (X : Cx) (es : List Expr) : TA := fun σ H Q => ∀ (pos : Pos) (pins : List (Addr × Obj)) (s : Shared), Inv X pins σ H s → wpAny (model X.prog X.w) X.A (spliced (backTo pos (starEach es X.env))) (AP X pins σ Q) X.xe s
def RunS (X : Cx) (st : Stmt) : TS := fun D σ H => ∀ (pins : List (Addr × Obj)) (s : Shared), Inv X pins σ H s → wpAny (model X.prog X.w) X.A (exec st X.env) (SP X pins D) X.xe s
def RunSs (X : Cx) (st : List Stmt) : TS := fun D σ H => ∀ (pins : List (Addr × Obj)) (s : Shared), Inv X pins σ H s → wpAny (model X.prog X.w) X.A (execs st X.env) (SP X pins D) X.xe s
def RunG (X : Cx) (tg : Expr) : TG := fun v σ H Q => ∀ (pins : List (Addr × Obj)) (s : Shared) (u : Value), Inv X pins σ H s → RelV v u →
  wpAny (model X.prog X.w) X.A (assign tg X.env u) (fun _ s' => ∃ σ' H', Inv X pins σ' H' s' ∧ Q σ' H') X.xe s
def RunGs (X : Cx) (ts : List Expr) : TGs := fun vs σ H Q => ∀ (pins : List (Addr × Obj)) (s : Shared) (us : List Value), Inv X pins σ H s → Vals vs us →
  wpAny (model X.prog X.w) X.A (assignInOrder ((assignEach ts X.env).map (·.2)) us) (fun _ s' => ∃ σ' H', Inv X pins σ' H' s' ∧ Q σ' H') X.xe s
def RunI (X : Cx) (tg iter : Expr) : TI := fun σ H R => ∀ (pins : List (Addr × Obj)) (s : Shared), Inv X pins σ H s →
  wpAny (model X.prog X.w) X.A (eval iter X.env) (fun v s1 => wpAny (model X.prog X.w) X.A (pyIter v) (PIE X pins σ tg R) X.xe s1) X.xe s
section
variable {X : Cx}
theorem peR (e : Expr) : PE X e (RunE X e) := ⟨fun pins s _ _ _ I h => h pins s I⟩
theorem ptR (e : Expr) : PT X e (RunT X e) := ⟨fun pins s _ _ _ I h => h pins s I⟩
theorem pwR (e : Expr) : PW X e (RunW X e) := ⟨fun wh pins s _ _ _ I h => h wh pins s I⟩
theorem paR (es : List Expr) : PA X es (RunA X es) := ⟨fun pos pins s _ _ _ I h => h pos pins s I⟩
theorem psR (st : Stmt) : PS X st (RunS X st) := ⟨fun pins s _ _ _ I h => h pins s I⟩
theorem pssR (st : List Stmt) : PSs X st (RunSs X st) := ⟨fun pins s _ _ _ I h => h pins s I⟩
theorem pgR (tg : Expr) : PG X tg (RunG X tg) := ⟨fun pins s _ _ _ u _ I r h => h pins s u I r⟩
theorem pgsR (ts : List Expr) : PGs X ts (RunGs X ts) := ⟨fun pins s _ _ _ us _ I r h => h pins s us I r⟩
theorem piR (tg iter : Expr) : PI X tg iter (RunI X tg iter) := ⟨fun pins s _ _ _ I h => h pins s I⟩
theorem run_e {e : Expr} {t : TE} (h : PE X e t) {σ : L2.St} {H : Hp} {Q : VK} (q : t σ H Q) : RunE X e σ H Q := fun pins s I => h.run pins s σ H Q I q
theorem run_t {e : Expr} {t : TT} (h : PT X e t) {σ : L2.St} {H : Hp} {Q : Bool → Hp → Prop} (q : t σ H Q) : RunT X e σ H Q := fun pins s I => h.run pins s σ H Q I q
theorem run_w {e : Expr} {t : TT} (h : PW X e t) {σ : L2.St} {H : Hp} {Q : Bool → Hp → Prop} (q : t σ H Q) : RunW X e σ H Q := fun wh pins s I => h.run wh pins s σ H Q I q
theorem run_a {es : List Expr} {t : TA} (h : PA X es t) {σ : L2.St} {H : Hp} {Q : List V → Hp → Prop} (q : t σ H Q) : RunA X es σ H Q := fun pos pins s I => h.run pos pins s σ H Q I q
theorem run_s {st : Stmt} {t : TS} (h : PS X st t) {σ : L2.St} {H : Hp} {D : Ends} (q : t D σ H) : RunS X st D σ H := fun pins s I => h.run pins s σ H D I q
theorem run_ss {st : List Stmt} {t : TS} (h : PSs X st t) {σ : L2.St} {H : Hp} {D : Ends} (q : t D σ H) : RunSs X st D σ H := fun pins s I => h.run pins s σ H D I q
theorem run_g {tg : Expr} {t : TG} (h : PG X tg t) {v : V} {σ : L2.St} {H : Hp} {Q : L2.St → Hp → Prop} (q : t v σ H Q) : RunG X tg v σ H Q := fun pins s u I r => h.run pins s σ H v u Q I r q
theorem run_gs {ts : List Expr} {t : TGs} (h : PGs X ts t) {vs : List V} {σ : L2.St} {H : Hp} {Q : L2.St → Hp → Prop} (q : t vs σ H Q) : RunGs X ts vs σ H Q := fun pins s us I r => h.run pins s σ H vs us Q I r q
theorem run_i {tg iter : Expr} {t : TI} (h : PI X tg iter t) {σ : L2.St} {H : Hp} {R : It → Hp → Prop} (q : t σ H R) : RunI X tg iter σ H R := fun pins s I => h.run pins s σ H R I q
end

/-! ### the judgements -/
/-- e has the datum -/
def EX (X : Cx) (W : Wd) (e : Expr) (ρ : Rho) (Φ : D → Rho → Prop) : Prop := ∀ (F H : Hp) (σ : L2.St) (Q : VK), EnvD X.K W F H σ ρ →
  (∀ (v : V) (d : D) (F' H' : Hp) (ρ' : Rho), EnvD X.K W F' H' σ ρ' → Tr F H σ ρ F' H' σ ρ' → Den X.K F' v d → Φ d ρ' → Q v H') → RunE X e σ H Q
/-- e makes a new list -/
def NX (X : Cx) (W : Wd) (e : Expr) (ρ : Rho) (Φ : List D → Rho → Prop) : Prop := ∀ (F H : Hp) (σ : L2.St) (Q : VK), EnvD X.K W F H σ ρ →
  (∀ (p : Addr) (vs : List V) (ds : List D) (F' H' : Hp) (ρ' : Rho), EnvD X.K W F' H' σ ρ' → Tr F H σ ρ F' H' σ ρ' → F' p = none → W.H0 p = none → H p = none → H' p = some (.lst vs) → DenL X.K F' vs ds → Off σ ρ' p → Φ ds ρ' → Q (.ref p) H') → RunE X e σ H Q
/-- e is a list (true) or a tuple, perhaps one of one's own -/
def SqOk (K : PySem.W.Frag) (H : Hp) (b : Bool) (p : Addr) (vs : List V) : Prop := if b = true then SqL K H p vs else SqT K H p vs
def QX (X : Cx) (W : Wd) (e : Expr) (ρ : Rho) (Φ : Bool → List D → Rho → Prop) : Prop := ∀ (F H : Hp) (σ : L2.St) (Q : VK), EnvD X.K W F H σ ρ →
  (∀ (b : Bool) (p : Addr) (vs : List V) (ds : List D) (F' H' : Hp) (ρ' : Rho), EnvD X.K W F' H' σ ρ' → Tr F H σ ρ F' H' σ ρ' → SqOk X.K H' b p vs → DenL X.K F' vs ds → Φ b ds ρ' → Q (.ref p) H') → RunE X e σ H Q
def TX (X : Cx) (W : Wd) (e : Expr) (ρ : Rho) (Φ : Bool → Rho → Prop) : Prop := ∀ (F H : Hp) (σ : L2.St) (Q : Bool → Hp → Prop), EnvD X.K W F H σ ρ →
  (∀ (b : Bool) (F' H' : Hp) (ρ' : Rho), EnvD X.K W F' H' σ ρ' → Tr F H σ ρ F' H' σ ρ' → Φ b ρ' → Q b H') → RunT X e σ H Q
def WX (X : Cx) (W : Wd) (e : Expr) (ρ : Rho) (Φ : Bool → Rho → Prop) : Prop := ∀ (F H : Hp) (σ : L2.St) (Q : Bool → Hp → Prop), EnvD X.K W F H σ ρ →
  (∀ (b : Bool) (F' H' : Hp) (ρ' : Rho), EnvD X.K W F' H' σ ρ' → Tr F H σ ρ F' H' σ ρ' → Φ b ρ' → Q b H') → RunW X e σ H Q
/-- arguments that are data -/
def AX (X : Cx) (W : Wd) (es : List Expr) (ρ : Rho) (Φ : List D → Rho → Prop) : Prop := ∀ (F H : Hp) (σ : L2.St) (Q : List V → Hp → Prop), EnvD X.K W F H σ ρ →
  (∀ (vs : List V) (ds : List D) (F' H' : Hp) (ρ' : Rho), EnvD X.K W F' H' σ ρ' → Tr F H σ ρ F' H' σ ρ' → DenL X.K F' vs ds → Φ ds ρ' → Q vs H') → RunA X es σ H Q
inductive Out where
  | nx (ρ : Rho) | rt (d : D) (ρ : Rho) | rl (ds : List D) (ρ : Rho) | bk (ρ : Rho) | ct (ρ : Rho)
structure EndsOk (X : Cx) (W : Wd) (F H : Hp) (σ : L2.St) (ρ : Rho) (Φ : Out → Prop) (E : Ends) : Prop where
  nx : ∀ (F' H' : Hp) (σ' : L2.St) (ρ' : Rho), EnvD X.K W F' H' σ' ρ' → Tr F H σ ρ F' H' σ' ρ' → Φ (.nx ρ') → E.nx σ' H'
  rt : ∀ (F' H' : Hp) (σ' : L2.St) (ρ' : Rho) (v : V) (d : D), EnvD X.K W F' H' σ' ρ' → Tr F H σ ρ F' H' σ' ρ' → Den X.K F' v d → Φ (.rt d ρ') → E.rt v H'
  rl : ∀ (F' H' : Hp) (σ' : L2.St) (ρ' : Rho) (p : Addr) (vs : List V) (ds : List D), EnvD X.K W F' H' σ' ρ' → Tr F H σ ρ F' H' σ' ρ' → F' p = none → W.H0 p = none → H' p = some (.lst vs) → DenL X.K F' vs ds →
    (∀ (j : Nat) (q : Addr) (es : List D), ρ'[j]? = some (.ino q es) → q ≠ p) → Φ (.rl ds ρ') → E.rt (.ref p) H'
  bk : ∀ (F' H' : Hp) (σ' : L2.St) (ρ' : Rho), EnvD X.K W F' H' σ' ρ' → Tr F H σ ρ F' H' σ' ρ' → Φ (.bk ρ') → E.bk σ' H'
  ct : ∀ (F' H' : Hp) (σ' : L2.St) (ρ' : Rho), EnvD X.K W F' H' σ' ρ' → Tr F H σ ρ F' H' σ' ρ' → Φ (.ct ρ') → E.ct σ' H'
def SX (X : Cx) (W : Wd) (st : List Stmt) (ρ : Rho) (Φ : Out → Prop) : Prop := ∀ (F H : Hp) (σ : L2.St) (E : Ends), EnvD X.K W F H σ ρ → EndsOk X W F H σ ρ Φ E → RunSs X st E σ H
def S1 (X : Cx) (W : Wd) (st : Stmt) (ρ : Rho) (Φ : Out → Prop) : Prop := ∀ (F H : Hp) (σ : L2.St) (E : Ends), EnvD X.K W F H σ ρ → EndsOk X W F H σ ρ Φ E → RunS X st E σ H
def GX (X : Cx) (W : Wd) (tg : Expr) (d : D) (ρ : Rho) (Φ : Rho → Prop) : Prop := ∀ (F H : Hp) (σ : L2.St) (v : V) (Q : L2.St → Hp → Prop), EnvD X.K W F H σ ρ → Den X.K F v d →
  (∀ (F' H' : Hp) (σ' : L2.St) (ρ' : Rho), EnvD X.K W F' H' σ' ρ' → Tr F H σ ρ F' H' σ' ρ' → Φ ρ' → Q σ' H') → RunG X tg v σ H Q
def GsX (X : Cx) (W : Wd) (ts : List Expr) (ds : List D) (ρ : Rho) (Φ : Rho → Prop) : Prop := ∀ (F H : Hp) (σ : L2.St) (vs : List V) (Q : L2.St → Hp → Prop), EnvD X.K W F H σ ρ → DenL X.K F vs ds →
  (∀ (F' H' : Hp) (σ' : L2.St) (ρ' : Rho), EnvD X.K W F' H' σ' ρ' → Tr F H σ ρ F' H' σ' ρ' → Φ ρ' → Q σ' H') → RunGs X ts vs σ H Q
theorem EndsOk.mono {X : Cx} {W : Wd} {F H F1 H1 : Hp} {σ σ1 : L2.St} {ρ ρ1 : Rho} {Φ : Out → Prop} {E : Ends} (h : EndsOk X W F H σ ρ Φ E) (e : Tr F H σ ρ F1 H1 σ1 ρ1) : EndsOk X W F1 H1 σ1 ρ1 Φ E :=
  ⟨fun F' H' σ' ρ' g s q => h.nx F' H' σ' ρ' g (e.trans s) q, fun F' H' σ' ρ' v d g s dn q => h.rt F' H' σ' ρ' v d g (e.trans s) dn q, fun F' H' σ' ρ' p vs ds g s a b c dn o q => h.rl F' H' σ' ρ' p vs ds g (e.trans s) a b c dn o q,
    fun F' H' σ' ρ' g s q => h.bk F' H' σ' ρ' g (e.trans s) q, fun F' H' σ' ρ' g s q => h.ct F' H' σ' ρ' g (e.trans s) q⟩

/-! ### the static facts of a body -/
structure Cxt (X : Cx) (k : Nat) (N : List Str) (sc : Scope) : Prop where
  n : X.N = N
  s : X.env.scope = sc
  nd : X.N.Nodup
  calm : X.calm = true
  pass : PassesOwn (model X.prog X.w) X.A X.env X.xe
  room : Room k X.A
structure VarOk (X : Cx) (i : Nat) (x : Str) : Prop where
  n : X.N[i]? = some x
  v : Vis X.env.scope x
  d : (x == ("__debug__" : Str)) = false
  c : (x == ("__classdict__" : Str)) = false
def visB (sc : Scope) (x : Str) : Bool := (match sc.names.lookup x with | some .local => true | some .cell => true | _ => false) && !(x == ("__debug__" : Str)) && !(x == ("__classdict__" : Str))
theorem vars_of {X : Cx} {k : Nat} {N : List Str} {sc : Scope} (C : Cxt X k N sc) (h : N.all (visB sc) = true) (i : Nat) (x : Str) (hx : N[i]? = some x) : VarOk X i x := by
  have hm := List.all_eq_true.mp h x (List.mem_of_getElem? hx)
  unfold visB at hm
  simp only [Bool.and_eq_true, Bool.not_eq_true'] at hm
  obtain ⟨⟨h1, h2⟩, h3⟩ := hm
  have l : Loc X.env.scope x := by
    rw [C.s]
    split at h1
    · rename_i e; exact .inl e
    · rename_i e; exact .inr e
    · cases h1
  refine ⟨by rw [C.n]; exact hx, ?_, h2, h3⟩
  rcases l with l | l
  · exact .inl l
  · exact .inr (.inl l)
/-- a name that is stored -/
structure LocOk (X : Cx) (i : Nat) (x : Str) : Prop where
  n : X.N[i]? = some x
  l : Loc X.env.scope x
  f : X.fn x = true ∨ X.env.scope.names.lookup x = some .local
theorem locs_of {X : Cx} {k : Nat} {N : List Str} {sc : Scope} (C : Cxt X k N sc) (hf : ∀ x, X.fn x = true) (h : N.all (visB sc) = true) (i : Nat) (x : Str) (hx : N[i]? = some x) : LocOk X i x := by
  have hm := List.all_eq_true.mp h x (List.mem_of_getElem? hx)
  unfold visB at hm
  simp only [Bool.and_eq_true, Bool.not_eq_true'] at hm
  obtain ⟨⟨h1, _⟩, _⟩ := hm
  refine ⟨by rw [C.n]; exact hx, ?_, .inl (hf x)⟩
  rw [C.s]
  split at h1
  · rename_i e; exact .inl e
  · rename_i e; exact .inr e
  · cases h1
structure GlbOk (X : Cx) (x : Str) : Prop where
  g : Gl X x
  d : (x == ("__debug__" : Str)) = false
  nm : x ≠ "__name__"
def glbB (sc : Scope) (x : Str) : Bool := decide (sc.names.lookup x = some .globalImplicit) && !(x == ("__debug__" : Str)) && !(x == ("__name__" : Str))
theorem globs_of {X : Cx} {k : Nat} {N : List Str} {sc : Scope} (C : Cxt X k N sc) {G : List Str} (h : G.all (glbB sc) = true) (i : Nat) (x : Str) (hx : G[i]? = some x) : GlbOk X x := by
  have hm := List.all_eq_true.mp h x (List.mem_of_getElem? hx)
  unfold glbB at hm
  simp only [Bool.and_eq_true, Bool.not_eq_true', decide_eq_true_eq] at hm
  obtain ⟨⟨h1, h2⟩, h3⟩ := hm
  exact ⟨by show X.env.scope.names.lookup x = _; rw [C.s]; exact h1, h2, fun e => by rw [e] at h3; simp at h3⟩

section
variable {X : Cx} {W : Wd} {ρ : Rho} {Φ : D → Rho → Prop} {pos p1 p2 : Pos} {i : Nat} {x : Str} {d : D} {a b e : Expr}
/-! ### names, constants -/
theorem ex_var (hv : VarOk X i x) (hρ : ρ[i]? = some (.val d)) (k : Φ d ρ) : EX X W (.Name x pos) ρ Φ := fun F H σ Q E q => by
  obtain ⟨v, e, h⟩ := E.sl i _ hρ
  exact run_e (pe_var hv.n hv.v hv.d hv.c) ⟨v, e, q v d F H ρ E Tr.refl h k⟩
theorem ex_int {j : Int} {kk : Nat} (k : Φ (.int j) ρ) : EX X W (.Constant (.int j) kk pos) ρ Φ := fun F H σ Q E q => run_e pe_int (q _ _ F H ρ E Tr.refl (.int j) k)
theorem ex_bl {j : Bool} {kk : Nat} (k : Φ (.bl j) ρ) : EX X W (.Constant (.bool j) kk pos) ρ Φ := fun F H σ Q E q => run_e pe_bl (q _ _ F H ρ E Tr.refl (.bl j) k)
theorem ex_non {kk : Nat} (k : Φ .non ρ) : EX X W (.Constant .none kk pos) ρ Φ := fun F H σ Q E q => run_e pe_non (q _ _ F H ρ E Tr.refl .non k)
theorem ex_str {j : Str} {kk : Nat} (k : Φ (.str j) ρ) : EX X W (.Constant (.str j) kk pos) ρ Φ := fun F H σ Q E q => run_e pe_str (q _ _ F H ρ E Tr.refl (.str j) k)
/-- a module's int -/
theorem ex_gint {j : Int} {t : Tok} (g : GlbOk X x) (hm : X.mg x = some (.int j t)) (k : Φ (.int j) ρ) : EX X W (.Name x pos) ρ Φ := fun F H σ Q E q =>
  run_e (pe_glob g.g hm (show RelV (.int j) (.int j t) from ⟨t, rfl⟩) g.d) (q _ _ F H ρ E Tr.refl (.int j) k)
theorem ex_gstr {j : Str} {t : Tok} (g : GlbOk X x) (hm : X.mg x = some (.str j t)) (k : Φ (.str j) ρ) : EX X W (.Name x pos) ρ Φ := fun F H σ Q E q =>
  run_e (pe_glob g.g hm (show RelV (.str j) (.str j t) from ⟨t, rfl⟩) g.d) (q _ _ F H ρ E Tr.refl (.str j) k)
/-- a module's class, def -/
theorem ex_gref {c : Addr} (g : GlbOk X x) (hm : X.mg x = some (.ref c)) (k : Φ (.ref c) ρ) : EX X W (.Name x pos) ρ Φ := fun F H σ Q E q =>
  run_e (pe_glob g.g hm (show RelV (.ref c) (.ref c) from rfl) g.d) (q _ _ F H ρ E Tr.refl (.ref c) k)
/-- a built-in class -/
theorem ex_bty {n : String} (g : GlbOk X x) (hm : X.mg x = none) (hv : bootBuiltins x = some (.type n)) (k : Φ (.ty n) ρ) : EX X W (.Name x pos) ρ Φ := fun F H σ Q E q =>
  run_e (pe_bltn g.g hm hv (show RelV (.ty n) (.type n) from rfl) g.nm g.d) (q _ _ F H ρ E Tr.refl (.ty n) k)
theorem EX.mono {Φ' : D → Rho → Prop} (h : EX X W e ρ Φ) (m : ∀ d ρ, Φ d ρ → Φ' d ρ) : EX X W e ρ Φ' := fun F H σ Q E q => h F H σ Q E fun v d F' H' ρ' E' s dn k => q v d F' H' ρ' E' s dn (m _ _ k)

/-! ### operators, by data -/
/-- f of two values that denote d1, d2 -/
def OpD (X : Cx) (W : Wd) (f : Value → Value → Sem Value) (d1 d2 : D) (Ψ : D → Prop) : Prop := ∀ (ρ : Rho) (F H : Hp) (σ : L2.St) (x y : V) (Q : VK), EnvD X.K W F H σ ρ → Den X.K F x d1 → Den X.K F y d2 →
  (∀ (v : V) (d : D) (F' H' : Hp), EnvD X.K W F' H' σ ρ → Tr F H σ ρ F' H' σ ρ → Den X.K F' v d → Ψ d → Q v H') →
  ∀ (pins : List (Addr × Obj)) (s : Shared) (u w : Value), Inv X pins σ H s → RelV x u → RelV y w → wpAny (model X.prog X.w) X.A (f u w) (EP X pins σ Q) X.xe s
theorem opd_of {f : Value → Value → Sem Value} {r : R2} {d1 d2 : D} {Ψ : D → Prop} (h : OpR X f r)
    (hr : ∀ (ρ : Rho) (F H : Hp) (σ : L2.St) (x y : V) (Q : VK), EnvD X.K W F H σ ρ → Den X.K F x d1 → Den X.K F y d2 → (∀ (v : V) (d : D) (F' H' : Hp), EnvD X.K W F' H' σ ρ → Tr F H σ ρ F' H' σ ρ → Den X.K F' v d → Ψ d → Q v H') → r x y H Q) : OpD X W f d1 d2 Ψ :=
  fun ρ F H σ x y Q E h1 h2 q pins s u w I r1 r2 => h pins s σ H x y u w Q I r1 r2 (hr ρ F H σ x y Q E h1 h2 q)
/-- any operator as a reading -/
def rRun (X : Cx) (σ : L2.St) (f : Value → Value → Sem Value) : R2 := fun x y H Q => ∀ (pins : List (Addr × Obj)) (s : Shared) (u w : Value), Inv X pins σ H s → RelV x u → RelV y w → wpAny (model X.prog X.w) X.A (f u w) (EP X pins σ Q) X.xe s
theorem ex_bin {op : Operator} (h : EX X W a ρ fun d1 ρ1 => EX X W b ρ1 fun d2 ρ2 => OpD X W (binaryOp op) d1 d2 fun d => Φ d ρ2) : EX X W (.BinOp a op b pos) ρ Φ := fun F H σ Q E q => by
  intro pins s I
  refine wpAny_BinOp (bin (R := fun x y H2 => ∀ (pins : List (Addr × Obj)) (s : Shared) (u w : Value), Inv X pins σ H2 s → RelV x u → RelV y w → wpAny (model X.prog X.w) X.A (binaryOp op u w) (EP X pins σ Q) X.xe s) (peR a) (peR b) I ?_ fun v u s2 x y H2 I2 rx ry h => h pins s2 v u I2 rx ry)
  refine h F H σ _ E fun v1 d1 F1 H1 ρ1 E1 s1 dn1 k1 => ?_
  refine k1 F1 H1 σ _ E1 fun v2 d2 F2 H2 ρ2 E2 s2 dn2 k2 => ?_
  exact k2 ρ2 F2 H2 σ v1 v2 Q E2 (dn1.mono s2.fs) dn2 fun v d F' H' E' s' dn k => q v d F' H' ρ2 E' ((s1.trans s2).trans s') dn k
theorem ex_cmp {op : CmpOp} (h : EX X W a ρ fun d1 ρ1 => EX X W b ρ1 fun d2 ρ2 => OpD X W (compareOp op) d1 d2 fun d => Φ d ρ2) (hm : behindInMarks op b = false := by rfl) : EX X W (.Compare a [op] [b] pos) ρ Φ := fun F H σ Q E q => by
  intro pins s I
  refine wpAny_Compare1 (bin (R := fun x y H2 => ∀ (pins : List (Addr × Obj)) (s : Shared) (u w : Value), Inv X pins σ H2 s → RelV x u → RelV y w → wpAny (model X.prog X.w) X.A (compareOp op u w) (EP X pins σ Q) X.xe s) (peR a) (peR b) I ?_ fun v u s2 x y H2 I2 rx ry h => h pins s2 v u I2 rx ry) hm
  refine h F H σ _ E fun v1 d1 F1 H1 ρ1 E1 s1 dn1 k1 => ?_
  refine k1 F1 H1 σ _ E1 fun v2 d2 F2 H2 ρ2 E2 s2 dn2 k2 => ?_
  exact k2 ρ2 F2 H2 σ v1 v2 Q E2 (dn1.mono s2.fs) dn2 fun v d F' H' E' s' dn k => q v d F' H' ρ2 E' ((s1.trans s2).trans s') dn k
/-- a comparison as a test -/
theorem tx_cmp {Θ : Bool → Rho → Prop} {op : CmpOp} (h : EX X W a ρ fun d1 ρ1 => EX X W b ρ1 fun d2 ρ2 => OpD X W (compareOp op) d1 d2 fun d => ∃ c, d = .bl c ∧ Θ c ρ2) (hm : behindInMarks op b = false := by rfl) : TX X W (.Compare a [op] [b] pos) ρ Θ := fun F H σ Q E q => by
  intro pins s I
  refine wpAny_isTrue_Compare1 (bin (Q := fun v s1 => wpAny (model X.prog X.w) X.A (truthy v) (TP X pins σ Q) X.xe s1) (R := fun x y H2 => ∀ (pins : List (Addr × Obj)) (s : Shared) (u w : Value), Inv X pins σ H2 s → RelV x u → RelV y w → wpAny (model X.prog X.w) X.A (compareOp op u w) (EP X pins σ fun x H' => ∃ k, x = .bl k ∧ Q k H') X.xe s) (peR a) (peR b) I ?_ fun v u s2 x y H2 I2 rx ry h => ?_) hm
  · refine h F H σ _ E fun v1 d1 F1 H1 ρ1 E1 s1 dn1 k1 => ?_
    refine k1 F1 H1 σ _ E1 fun v2 d2 F2 H2 ρ2 E2 s2 dn2 k2 => ?_
    refine k2 ρ2 F2 H2 σ v1 v2 _ E2 (dn1.mono s2.fs) dn2 fun v d F' H' E' s' dn k => ?_
    obtain ⟨c, rfl, k⟩ := k
    cases dn
    exact ⟨c, rfl, q c F' H' ρ2 E' ((s1.trans s2).trans s') k⟩
  · refine thn (h pins s2 v u I2 rx ry) fun c s3 ⟨z, H3, I3, r3, kk, ez, q3⟩ => ?_
    subst ez
    cases r3
    exact wpAny_truthy_bool ⟨H3, I3, q3⟩
end
end DL
set_option maxHeartbeats 2000000
/-! DL, part 3: operators on data. -/
namespace DL
open PySem PySem.Spec PyProof.Rows L2

/-! ### flat data, plain data -/
def D.fv : D → V
  | .non => .non | .bl b => .bl b | .int i => .int i | .str s => .str s | .ref a => .ref a | .ty n => .ty n | _ => .non
def D.isFlat : D → Bool
  | .non => true | .bl _ => true | .int _ => true | .str _ => true | _ => false
theorem Den.fv {K : PySem.W.Frag} {F : Hp} {v : V} {d : D} (h : Den K F v d) (hf : d.isFlat = true) : v = d.fv := by
  cases h <;> first | rfl | cases hf
theorem DenL.fv {K : PySem.W.Frag} {F : Hp} : ∀ {vs : List V} {ds : List D}, DenL K F vs ds → ds.all D.isFlat = true → vs = ds.map D.fv
  | _, _, .nil, _ => rfl
  | _, _, .cons h1 h2, hf => by
    rw [List.all_cons, Bool.and_eq_true] at hf
    rw [h1.fv hf.1, DenL.fv h2 hf.2]
    rfl
theorem flat_fv {d : D} (h : d.isFlat = true) : flatV d.fv = true := by cases d <;> first | rfl | cases h
theorem flat_fvs {ds : List D} (h : ds.all D.isFlat = true) : (ds.map D.fv).all flatV = true := by
  rw [List.all_eq_true] at h ⊢
  intro v hv
  obtain ⟨d, hd, rfl⟩ := List.mem_map.mp hv
  exact flat_fv (h d hd)
/-- x in xs, of flat data -/
def D.inL (d : D) (ds : List D) : Bool := ds.any fun e => eqV e.fv d.fv
theorem inV_fv (d : D) (ds : List D) : inV d.fv (ds.map D.fv) = d.inL ds := by
  unfold inV D.inL
  rw [List.any_map]
  rfl
mutual
def D.py : D → PyData
  | .non => .none | .bl b => .bool b | .int i => .int i | .str s => .str s
  | .lst ds => .list (D.pyL ds) | .tup ds => .tuple (D.pyL ds) | .frz ds => .list (D.pyL ds)
  | .ref _ => .none | .ty _ => .none
def D.pyL : List D → List PyData
  | [] => []
  | d :: ds => d.py :: D.pyL ds
end
mutual
def D.plain : D → Bool
  | .lst ds => D.plainL ds | .tup ds => D.plainL ds | .frz ds => D.plainL ds | .ref _ => false | .ty _ => false | _ => true
def D.plainL : List D → Bool
  | [] => true
  | d :: ds => d.plain && D.plainL ds
end
section
variable {K : PySem.W.Frag} {F : Hp}
mutual
theorem Den.dp : ∀ {v : V} {d : D}, Den K F v d → d.plain = true → Dp K F v d.py
  | _, _, .non, _ => .non
  | _, _, .bl b, _ => .bl b
  | _, _, .int i, _ => .int i
  | _, _, .str x, _ => .str x
  | _, _, .ref a, h => by cases h
  | _, _, .ty n, h => by cases h
  | _, _, .lst h1 h2, h => .lst (SqL.of h1) (DenL.dp h2 (by simpa [D.plain] using h))
  | _, _, .frz h1 h2, h => .lst h1 (DenL.dp h2 (by simpa [D.plain] using h))
  | _, _, .tup h1 h2, h => .tup h1 (DenL.dp h2 (by simpa [D.plain] using h))
theorem DenL.dp : ∀ {vs : List V} {ds : List D}, DenL K F vs ds → D.plainL ds = true → DpAll K F vs (D.pyL ds)
  | _, _, .nil, _ => .nil
  | _, _, .cons h1 h2, h => by
    rw [D.plainL, Bool.and_eq_true] at h
    exact .cons (Den.dp h1 h.1) (DenL.dp h2 h.2)
end
end

section
variable {X : Cx} {W : Wd} {Ψ : D → Prop} {a b : Int}
/-! ### ints -/
theorem opd_I {f : Value → Value → Sem Value} {g : Int → Int → V} (h : OpR X f (rI0 g)) (hd : ∀ F, ∃ d, Den X.K F (g a b) d ∧ Ψ d) : OpD X W f (.int a) (.int b) Ψ := opd_of h fun ρ F H σ x y Q E h1 h2 q => by
  cases h1; cases h2
  obtain ⟨d, h3, k⟩ := hd F
  exact ⟨a, b, rfl, rfl, q _ d F H E Tr.refl h3 k⟩
theorem opd_IC {f : Value → Value → Sem Value} {C : Int → Int → Prop} {g : Int → Int → V} (h : OpR X f (rI C g)) (hc : C a b) (hd : ∀ F, ∃ d, Den X.K F (g a b) d ∧ Ψ d) : OpD X W f (.int a) (.int b) Ψ := opd_of h fun ρ F H σ x y Q E h1 h2 q => by
  cases h1; cases h2
  obtain ⟨d, h3, k⟩ := hd F
  exact ⟨a, b, rfl, rfl, hc, q _ d F H E Tr.refl h3 k⟩
theorem o_add (k : Ψ (.int (a + b))) : OpD X W (binaryOp .Add) (.int a) (.int b) Ψ := opd_I op_add fun _ => ⟨_, .int _, k⟩
theorem o_sub (k : Ψ (.int (a - b))) : OpD X W (binaryOp .Sub) (.int a) (.int b) Ψ := opd_I op_sub fun _ => ⟨_, .int _, k⟩
theorem o_mul (hc : CMul a b) (k : Ψ (.int (a * b))) : OpD X W (binaryOp .Mult) (.int a) (.int b) Ψ := opd_IC op_mul hc fun _ => ⟨_, .int _, k⟩
theorem o_mulW (hc : CMulW a b) (k : Ψ (.int (a * b))) : OpD X W (binaryOp .Mult) (.int a) (.int b) Ψ := opd_IC op_mulW hc fun _ => ⟨_, .int _, k⟩
theorem o_div (hc : CDivW a b) (k : Ψ (.int (a / b))) : OpD X W (binaryOp .FloorDiv) (.int a) (.int b) Ψ := opd_IC op_fdivW hc fun _ => ⟨_, .int _, k⟩
theorem o_mod (hc : 0 < b) (k : Ψ (.int (a % b))) : OpD X W (binaryOp .Mod) (.int a) (.int b) Ψ := opd_IC op_mod hc fun _ => ⟨_, .int _, k⟩
theorem op_powW : OpR X (binaryOp .Pow) (rI (fun i j => 0 ≤ j ∧ (Builtin.Int.intBits i : Int) * j ≤ 2 ^ 27) fun i j => .int (i ^ j.toNat)) := opI fun _ _ _ _ _ _ _ hc q => pow_int hc.1 hc.2 q
theorem o_pow (h0 : 0 ≤ b) (h1 : (Builtin.Int.intBits a : Int) * b ≤ 2 ^ 27) (k : Ψ (.int (a ^ b.toNat))) : OpD X W (binaryOp .Pow) (.int a) (.int b) Ψ := opd_IC op_powW ⟨h0, h1⟩ fun _ => ⟨_, .int _, k⟩
theorem o_lt (k : Ψ (.bl (decide (a < b)))) : OpD X W (compareOp .Lt) (.int a) (.int b) Ψ := opd_I op_lt fun _ => ⟨_, .bl _, k⟩
theorem o_le (k : Ψ (.bl (decide (a ≤ b)))) : OpD X W (compareOp .LtE) (.int a) (.int b) Ψ := opd_I op_le fun _ => ⟨_, .bl _, k⟩
theorem o_gt (k : Ψ (.bl (decide (b < a)))) : OpD X W (compareOp .Gt) (.int a) (.int b) Ψ := opd_I op_gt fun _ => ⟨_, .bl _, k⟩
theorem o_ge (k : Ψ (.bl (decide (b ≤ a)))) : OpD X W (compareOp .GtE) (.int a) (.int b) Ψ := opd_I op_ge fun _ => ⟨_, .bl _, k⟩

/-! ### equality -/
variable {d e : D} {ds es : List D}
theorem o_eqF (hs : scal d.fv e.fv = true) (hd : d.isFlat = true) (he : e.isFlat = true) (k : Ψ (.bl (decide (d.fv = e.fv)))) : OpD X W (compareOp .Eq) d e Ψ := opd_of op_eq fun ρ F H σ x y Q E h1 h2 q => by
  rw [h1.fv hd, h2.fv he]
  exact ⟨hs, q _ _ F H E Tr.refl (.bl _) k⟩
theorem o_neF (hs : scal d.fv e.fv = true) (hd : d.isFlat = true) (he : e.isFlat = true) (k : Ψ (.bl (!decide (d.fv = e.fv)))) : OpD X W (compareOp .NotEq) d e Ψ := opd_of op_ne fun ρ F H σ x y Q E h1 h2 q => by
  rw [h1.fv hd, h2.fv he]
  exact ⟨hs, q _ _ F H E Tr.refl (.bl _) k⟩
theorem dec_vint {i j : Int} : decide (V.int i = V.int j) = decide (i = j) := by rw [dec_int, Bool.eq_iff_iff]; simp
theorem dec_vstr {i j : Str} : decide (V.str i = V.str j) = decide (i = j) := by
  by_cases h : i = j
  · subst h; simp
  · rw [decide_eq_false h, decide_eq_false (fun z => h (by injection z))]
theorem dec_vbl {i j : Bool} : decide (V.bl i = V.bl j) = decide (i = j) := by
  by_cases h : i = j
  · subst h; simp
  · rw [decide_eq_false h, decide_eq_false (fun z => h (by injection z))]
theorem o_eqI (k : Ψ (.bl (decide (a = b)))) : OpD X W (compareOp .Eq) (.int a) (.int b) Ψ := o_eqF rfl rfl rfl (by show Ψ (.bl (decide (V.int a = V.int b))); rw [dec_vint]; exact k)
theorem o_neI (k : Ψ (.bl (!decide (a = b)))) : OpD X W (compareOp .NotEq) (.int a) (.int b) Ψ := o_neF rfl rfl rfl (by show Ψ (.bl (!decide (V.int a = V.int b))); rw [dec_vint]; exact k)
theorem o_eqS {x y : Str} (k : Ψ (.bl (decide (x = y)))) : OpD X W (compareOp .Eq) (.str x) (.str y) Ψ := o_eqF rfl rfl rfl (by show Ψ (.bl (decide (V.str x = V.str y))); rw [dec_vstr]; exact k)
theorem o_neS {x y : Str} (k : Ψ (.bl (!decide (x = y)))) : OpD X W (compareOp .NotEq) (.str x) (.str y) Ψ := o_neF rfl rfl rfl (by show Ψ (.bl (!decide (V.str x = V.str y))); rw [dec_vstr]; exact k)
theorem o_eqB {x y : Bool} (k : Ψ (.bl (decide (x = y)))) : OpD X W (compareOp .Eq) (.bl x) (.bl y) Ψ := o_eqF rfl rfl rfl (by show Ψ (.bl (decide (V.bl x = V.bl y))); rw [dec_vbl]; exact k)
theorem o_neB {x y : Bool} (k : Ψ (.bl (!decide (x = y)))) : OpD X W (compareOp .NotEq) (.bl x) (.bl y) Ψ := o_neF rfl rfl rfl (by show Ψ (.bl (!decide (V.bl x = V.bl y))); rw [dec_vbl]; exact k)
theorem o_eqD (hu : X.A.units + 64 < cLine) (hd : d.plain = true) (he : e.plain = true) (sd : SeqAt.shaped d.py = true) (se : SeqAt.shaped e.py = true) (k : Ψ (.bl (PyData.eqv d.py e.py))) : OpD X W (compareOp .Eq) d e Ψ := opd_of (op_eqD hu) fun ρ F H σ x y Q E h1 h2 q =>
  ⟨d.py, e.py, (h1.mono E.sub).dp hd, (h2.mono E.sub).dp he, sd, se, q _ _ F H E Tr.refl (.bl _) k⟩
theorem o_neD (hu : X.A.units + 64 < cLine) (hd : d.plain = true) (he : e.plain = true) (sd : SeqAt.shaped d.py = true) (se : SeqAt.shaped e.py = true) (k : Ψ (.bl (!PyData.eqv d.py e.py))) : OpD X W (compareOp .NotEq) d e Ψ := opd_of (op_neD hu) fun ρ F H σ x y Q E h1 h2 q =>
  ⟨d.py, e.py, (h1.mono E.sub).dp hd, (h2.mono E.sub).dp he, sd, se, q _ _ F H E Tr.refl (.bl _) k⟩
/-! ### is None -/
def D.isNon : D → Bool | .non => true | _ => false
theorem isNon_v {K : PySem.W.Frag} {F : Hp} {v : V} (h : Den K F v d) : decide (v = .non) = d.isNon := by
  cases h <;> simp [D.isNon]
theorem o_isN (k : Ψ (.bl d.isNon)) : OpD X W (compareOp .Is) d .non Ψ := opd_of op_isN fun ρ F H σ x y Q E h1 h2 q => by
  cases h2
  exact ⟨rfl, q _ _ F H E Tr.refl (.bl _) (by rw [isNon_v h1]; exact k)⟩
theorem o_notN (k : Ψ (.bl (!d.isNon))) : OpD X W (compareOp .IsNot) d .non Ψ := opd_of op_notN fun ρ F H σ x y Q E h1 h2 q => by
  cases h2
  exact ⟨rfl, q _ _ F H E Tr.refl (.bl _) (by rw [isNon_v h1]; exact k)⟩
/-! ### in -/
def D.seq? : D → Option (List D)
  | .lst ds => some ds | .tup ds => some ds | .frz ds => some ds | _ => none
theorem Den.sq {K : PySem.W.Frag} {F : Hp} {v : V} (h : Den K F v e) (hs : e.seq? = some ds) : ∃ p vs, v = .ref p ∧ (SqL K F p vs ∨ SqT K F p vs) ∧ DenL K F vs ds := by
  cases h with
  | lst h1 h2 => cases hs; exact ⟨_, _, rfl, .inl (SqL.of h1), h2⟩
  | frz h1 h2 => cases hs; exact ⟨_, _, rfl, .inl h1, h2⟩
  | tup h1 h2 => cases hs; exact ⟨_, _, rfl, .inr h1, h2⟩
  | _ => cases hs
theorem sq_mono {K : PySem.W.Frag} {F H : Hp} {p : Addr} {vs : List V} (s : Same F H) (h : SqL K F p vs ∨ SqT K F p vs) : SqL K H p vs ∨ SqT K H p vs := h.imp (sqL_mono s) (sqT_mono s)
theorem o_in (hs : e.seq? = some ds) (hd : d.isFlat = true) (hf : ds.all D.isFlat = true) (k : Ψ (.bl (d.inL ds))) : OpD X W (compareOp .In) d e Ψ := opd_of op_in_seq fun ρ F H σ x y Q E h1 h2 q => by
  obtain ⟨p, vs, rfl, hq, hl⟩ := h2.sq hs
  have e1 := hl.fv hf
  subst e1
  rw [h1.fv hd]
  exact ⟨p, _, rfl, sq_mono E.sub hq, flat_fv hd, flat_fvs hf, q _ _ F H E Tr.refl (.bl _) (by rw [if_neg Bool.false_ne_true, inV_fv]; exact k)⟩
theorem o_notIn (hs : e.seq? = some ds) (hd : d.isFlat = true) (hf : ds.all D.isFlat = true) (k : Ψ (.bl (!d.inL ds))) : OpD X W (compareOp .NotIn) d e Ψ := opd_of op_notIn_seq fun ρ F H σ x y Q E h1 h2 q => by
  obtain ⟨p, vs, rfl, hq, hl⟩ := h2.sq hs
  have e1 := hl.fv hf
  subst e1
  rw [h1.fv hd]
  exact ⟨p, _, rfl, sq_mono E.sub hq, flat_fv hd, flat_fvs hf, q _ _ F H E Tr.refl (.bl _) (by rw [if_pos rfl, inV_fv]; exact k)⟩
/-! ### sums of texts, tuples, lists; lists times ints -/
theorem o_addS {x y : Str} (hl : x.length + y.length ≤ sizeLine) (k : Ψ (.str (x ++ y))) : OpD X W (binaryOp .Add) (.str x) (.str y) Ψ := opd_of op_add_str fun ρ F H σ _ _ Q E h1 h2 q => by
  cases h1; cases h2
  exact ⟨x, y, rfl, rfl, hl, q _ _ F H E Tr.refl (.str _) k⟩
theorem o_addT (hl : ds.length + es.length ≤ sizeLine) (k : Ψ (.tup (ds ++ es))) : OpD X W (binaryOp .Add) (.tup ds) (.tup es) Ψ := opd_of op_catA fun ρ F H σ _ _ Q E h1 h2 q => by
  cases h1 with
  | tup a1 b1 =>
    cases h2 with
    | tup a2 b2 =>
      refine ⟨_, _, _, _, rfl, rfl, sqT_mono E.sub a1, sqT_mono E.sub a2, by rw [b1.length, b2.length]; exact hl, fun e => ?_, fun e1 e2 => ?_, fun e1 e2 p hp => ?_⟩
      · subst e
        cases b1
        exact q _ _ F H E Tr.refl (.tup a2 b2) k
      · subst e2
        cases b2
        rw [List.append_nil] at k
        exact q _ _ F H E Tr.refl (.tup a1 b1) k
      · exact q _ _ _ _ (E.step (Stp.newF E.sub hp)) (Stp.newF E.sub hp).tr (.tup (SqT.of upd_same) ((b1.append b2).mono (Stp.newF E.sub hp).fs)) k
theorem o_addL (hl : ds.length + es.length ≤ sizeLine) (k : Ψ (.lst (ds ++ es))) : OpD X W (binaryOp .Add) (.lst ds) (.lst es) Ψ := opd_of op_cat fun ρ F H σ _ _ Q E h1 h2 q => by
  cases h1 with
  | lst a1 b1 =>
    cases h2 with
    | lst a2 b2 =>
      refine ⟨_, _, _, _, rfl, rfl, E.sub _ _ a1, E.sub _ _ a2, by rw [b1.length, b2.length]; exact hl, fun p hp => ?_⟩
      exact q _ _ _ _ (E.step (Stp.newF E.sub hp)) (Stp.newF E.sub hp).tr (.lst upd_same ((b1.append b2).mono (Stp.newF E.sub hp).fs)) k
theorem o_rep (h1 : -(2 ^ 63) ≤ b) (h2 : b < 2 ^ 63) (hl : ds.length * b.toNat ≤ sizeLine) (k : Ψ (.lst (List.replicate b.toNat ds).flatten)) : OpD X W (binaryOp .Mult) (.lst ds) (.int b) Ψ := opd_of op_rep fun ρ F H σ _ _ Q E g1 g2 q => by
  cases g1 with
  | lst a1 b1 =>
    cases g2
    refine ⟨_, b, _, rfl, rfl, E.sub _ _ a1, h1, h2, by rw [b1.length]; exact hl, fun p hp => ?_⟩
    exact q _ _ _ _ (E.step (Stp.newF E.sub hp)) (Stp.newF E.sub hp).tr (.lst upd_same ((b1.rep _).mono (Stp.newF E.sub hp).fs)) k
end
end DL
set_option maxHeartbeats 2000000
/-! DL, part 4: tests, displays, subscripts, slices, built-in calls. -/
namespace DL
open PySem PySem.Spec PyProof.Rows L2

/-- a datum's truth -/
def D.tru : D → Option Bool
  | .non => some false | .bl b => some b | .int i => some (i != 0) | .str s => if s.length ≤ 16777216 then some ((s.length : Int) != 0) else none
  | .lst ds => some (!ds.isEmpty) | .tup ds => some (!ds.isEmpty) | .frz ds => some (!ds.isEmpty) | .ref _ => none | .ty _ => none
theorem denL_empty {K : PySem.W.Frag} {F : Hp} {vs : List V} {ds : List D} (h : DenL K F vs ds) : vs.isEmpty = ds.isEmpty := by cases h <;> rfl
theorem Den.tru {K : PySem.W.Frag} {F : Hp} {v : V} {d : D} {b : Bool} (h : Den K F v d) (ht : d.tru = some b) : TruV K v F b := by
  cases h with
  | non => cases ht; rfl
  | bl c => cases ht; rfl
  | int i => cases ht; rfl
  | str x =>
    have ht' : (if x.length ≤ 16777216 then some ((x.length : Int) != 0) else none) = some b := ht
    split at ht'
    · rename_i hl
      cases ht'
      exact ⟨by rw [sizeLine_eq]; exact hl, rfl⟩
    · cases ht'
  | ref a => cases ht
  | ty n => cases ht
  | lst h1 h2 => cases ht; exact .inl ⟨_, SqL.of h1, by rw [denL_empty h2]⟩
  | frz h1 h2 => cases ht; exact .inl ⟨_, h1, by rw [denL_empty h2]⟩
  | tup h1 h2 => cases ht; exact .inr (.inl ⟨_, h1, by rw [denL_empty h2]⟩)
theorem tru_noD {K : PySem.W.Frag} {F H : Hp} {v : V} {d : D} {b : Bool} (s : Same F H) (h : Den K F v d) (ht : d.tru = some b) : TruV K v H b := (h.mono s).tru ht

section
variable {X : Cx} {W : Wd} {ρ : Rho} {Φ : D → Rho → Prop} {Θ : Bool → Rho → Prop} {pos p1 p2 : Pos} {i : Nat} {x : Str} {d : D} {a b c e : Expr} {es rest : List Expr} {op : BoolOp}
/-! ### tests -/
theorem tx_truth (h : EX X W a ρ fun d ρ1 => ∃ t, d.tru = some t ∧ Θ t ρ1) (he : ∀ whole, isTrue a X.env whole = (do let v ← whole; standAt a.pos; holding [v] (truthy v)) := by intro _; rfl) : TX X W a ρ Θ := fun F H σ Q E q =>
  run_t (pt_truth (peR a) he) (h F H σ _ E fun v d F' H' ρ' E' s dn ⟨t, ht, k⟩ => ⟨t, tru_noD E'.sub dn ht, q t F' H' ρ' E' s k⟩)
theorem TX.mono {Θ' : Bool → Rho → Prop} (h : TX X W a ρ Θ) (m : ∀ b ρ, Θ b ρ → Θ' b ρ) : TX X W a ρ Θ' := fun F H σ Q E q => h F H σ Q E fun b F' H' ρ' E' s k => q b F' H' ρ' E' s (m _ _ k)
theorem tx_not (h : TX X W a ρ fun t ρ1 => Θ (!t) ρ1) : TX X W (.UnaryOp .Not a pos) ρ Θ := fun F H σ Q E q =>
  run_t (pt_not (ptR a)) (h F H σ _ E fun t F' H' ρ' E' s k => q (!t) F' H' ρ' E' s k)
theorem tx_w (h : WX X W a ρ Θ) : TX X W a ρ Θ := fun F H σ Q E q => run_t (pwR a).pt (h F H σ Q E q)
theorem wx_and1 (h : TX X W a ρ Θ) : WX X W (.BoolOp .And [a] pos) ρ Θ := fun F H σ Q E q => run_w (pw_and1 (ptR a)) (h F H σ Q E q)
theorem wx_or1 (h : TX X W a ρ Θ) : WX X W (.BoolOp .Or [a] pos) ρ Θ := fun F H σ Q E q => run_w (pw_or1 (ptR a)) (h F H σ Q E q)
theorem wx_and (h : TX X W a ρ fun t ρ1 => (t = true → WX X W (.BoolOp .And (b :: rest) pos) ρ1 Θ) ∧ (t = false → Θ false ρ1)) : WX X W (.BoolOp .And (a :: b :: rest) pos) ρ Θ := fun F H σ Q E q =>
  run_w (pw_and (ptR a) (pwR _)) (h F H σ _ E fun t F' H' ρ' E' s k => by
    cases t with
    | true => rw [if_pos rfl]; exact k.1 rfl F' H' σ Q E' fun t2 F2 H2 ρ2 E2 s2 k2 => q t2 F2 H2 ρ2 E2 (s.trans s2) k2
    | false => rw [if_neg Bool.false_ne_true]; exact q false F' H' ρ' E' s (k.2 rfl))
theorem wx_or (h : TX X W a ρ fun t ρ1 => (t = false → WX X W (.BoolOp .Or (b :: rest) pos) ρ1 Θ) ∧ (t = true → Θ true ρ1)) : WX X W (.BoolOp .Or (a :: b :: rest) pos) ρ Θ := fun F H σ Q E q =>
  run_w (pw_or (ptR a) (pwR _)) (h F H σ _ E fun t F' H' ρ' E' s k => by
    cases t with
    | true => rw [if_pos rfl]; exact q true F' H' ρ' E' s (k.2 rfl)
    | false => rw [if_neg Bool.false_ne_true]; exact k.1 rfl F' H' σ Q E' fun t2 F2 H2 ρ2 E2 s2 k2 => q t2 F2 H2 ρ2 E2 (s.trans s2) k2)
/-- as values -/
theorem ex_one (h : EX X W a ρ Φ) : EX X W (.BoolOp op [a] pos) ρ Φ := fun F H σ Q E q => run_e (pe_one (peR a)) (h F H σ Q E q)
theorem ex_and (h : EX X W a ρ fun d ρ1 => ∃ t, d = .bl t ∧ (t = true → EX X W (.BoolOp .And (b :: rest) pos) ρ1 Φ) ∧ (t = false → Φ (.bl false) ρ1)) : EX X W (.BoolOp .And (a :: b :: rest) pos) ρ Φ := fun F H σ Q E q =>
  run_e (pe_and (peR a) (peR _)) (h F H σ _ E fun v d F' H' ρ' E' s dn ⟨t, ed, k1, k2⟩ => by
    subst ed
    cases dn
    refine ⟨t, rfl, ?_⟩
    cases t with
    | true => rw [if_pos rfl]; exact k1 rfl F' H' σ Q E' fun v2 d2 F2 H2 ρ2 E2 s2 dn2 k2 => q v2 d2 F2 H2 ρ2 E2 (s.trans s2) dn2 k2
    | false => rw [if_neg Bool.false_ne_true]; exact q _ _ F' H' ρ' E' s (.bl false) (k2 rfl))
theorem ex_or (h : EX X W a ρ fun d ρ1 => ∃ t, d = .bl t ∧ (t = false → EX X W (.BoolOp .Or (b :: rest) pos) ρ1 Φ) ∧ (t = true → Φ (.bl true) ρ1)) : EX X W (.BoolOp .Or (a :: b :: rest) pos) ρ Φ := fun F H σ Q E q =>
  run_e (pe_or (peR a) (peR _)) (h F H σ _ E fun v d F' H' ρ' E' s dn ⟨t, ed, k1, k2⟩ => by
    subst ed
    cases dn
    refine ⟨t, rfl, ?_⟩
    cases t with
    | true => rw [if_pos rfl]; exact q _ _ F' H' ρ' E' s (.bl true) (k2 rfl)
    | false => rw [if_neg Bool.false_ne_true]; exact k1 rfl F' H' σ Q E' fun v2 d2 F2 H2 ρ2 E2 s2 dn2 k2 => q v2 d2 F2 H2 ρ2 E2 (s.trans s2) dn2 k2)
theorem ex_not (h : EX X W a ρ fun d ρ1 => ∃ t, d = .bl t ∧ Φ (.bl (!t)) ρ1) : EX X W (.UnaryOp .Not a pos) ρ Φ := fun F H σ Q E q =>
  run_e (pe_not (peR a)) (h F H σ _ E fun v d F' H' ρ' E' s dn ⟨t, ed, k⟩ => by
    subst ed
    cases dn
    exact ⟨t, rfl, q _ _ F' H' ρ' E' s (.bl _) k⟩)
theorem ex_ifExp (h : TX X W c ρ fun t ρ1 => (t = true → EX X W a ρ1 Φ) ∧ (t = false → EX X W b ρ1 Φ)) : EX X W (.IfExp c a b pos) ρ Φ := fun F H σ Q E q =>
  run_e (pe_ifExp (ptR c) (peR a) (peR b)) (h F H σ _ E fun t F' H' ρ' E' s k => by
    cases t with
    | true => rw [if_pos rfl]; exact k.1 rfl F' H' σ Q E' fun v2 d2 F2 H2 ρ2 E2 s2 dn2 k2 => q v2 d2 F2 H2 ρ2 E2 (s.trans s2) dn2 k2
    | false => rw [if_neg Bool.false_ne_true]; exact k.2 rfl F' H' σ Q E' fun v2 d2 F2 H2 ρ2 E2 s2 dn2 k2 => q v2 d2 F2 H2 ρ2 E2 (s.trans s2) dn2 k2)
theorem ex_neg (h : EX X W a ρ fun d ρ1 => ∃ j, d = .int j ∧ Φ (.int (-j)) ρ1) : EX X W (.UnaryOp .USub a pos) ρ Φ := fun F H σ Q E q =>
  run_e (pe_un un_neg (peR a)) (h F H σ _ E fun v d F' H' ρ' E' s dn ⟨j, ed, k⟩ => by
    subst ed
    cases dn
    exact ⟨j, rfl, q _ _ F' H' ρ' E' s (.int _) k⟩)
/-- an operator by values, at σ -/
def rAt (X : Cx) (σ : L2.St) (f : Value → Value → Sem Value) : R2 := fun x y H Q => ∀ (pins : List (Addr × Obj)) (s : Shared) (u w : Value), Inv X pins σ H s → RelV x u → RelV y w → wpAny (model X.prog X.w) X.A (f u w) (EP X pins σ Q) X.xe s
theorem OpD.at {f : Value → Value → Sem Value} {d1 d2 : D} {Ψ : D → Prop} (h : OpD X W f d1 d2 Ψ) {F H : Hp} {σ : L2.St} {x y : V} {Q : VK} (E : EnvD X.K W F H σ ρ) (h1 : Den X.K F x d1) (h2 : Den X.K F y d2)
    (q : ∀ (v : V) (d : D) (F' H' : Hp), EnvD X.K W F' H' σ ρ → Tr F H σ ρ F' H' σ ρ → Den X.K F' v d → Ψ d → Q v H') : rAt X σ f x y H Q := h ρ F H σ x y Q E h1 h2 q
theorem run_chain {op op' : CmpOp} {σ : L2.St} {H : Hp} {Q : VK} (q : RunE X a σ H fun x H1 => RunE X b σ H1 fun y H2 => rAt X σ (compareOp op) x y H2 fun z H3 => ∃ k, z = .bl k ∧
    (if k = true then RunE X c σ H3 fun w' H4 => rAt X σ (compareOp op') y w' H4 Q else Q (.bl false) H3)) (hm : lastMarks [op, op'] [b, c] = false) : RunE X (.Compare a [op, op'] [b, c] pos) σ H Q := by
  intro pins s I
  refine Compare_chain (thn (q pins s I) fun v s1 ⟨x, H1, I1, r1, q1⟩ => chain_link (thn (q1 pins s1 I1) fun u s2 ⟨y, H2, I2, r2, q2⟩ => thn (q2 pins s2 v u I2 r1 r2) fun d s3 ⟨z, H3, I3, r3, k, e, q3⟩ => ?_)) hm
  subst e
  cases r3
  refine wpAny_truthy_bool ?_
  cases k with
  | false => exact ite_ff ⟨.bl false, H3, I3, rfl, q3⟩
  | true => exact ite_tt (chain_last (thn (q3 pins s3 I3) fun w' s4 ⟨z', H4, I4, r4, q4⟩ => q4 pins s4 u w' I4 r2 r4))
theorem run_chainT {op op' : CmpOp} {σ : L2.St} {H : Hp} {Q : Bool → Hp → Prop} (q : RunE X a σ H fun x H1 => RunE X b σ H1 fun y H2 => rAt X σ (compareOp op) x y H2 fun z H3 => ∃ k, z = .bl k ∧
    (if k = true then RunE X c σ H3 fun w' H4 => rAt X σ (compareOp op') y w' H4 fun z' H' => ∃ k', z' = .bl k' ∧ Q k' H' else Q false H3)) (hm : lastMarks [op, op'] [b, c] = false) : RunT X (.Compare a [op, op'] [b, c] pos) σ H Q := by
  intro pins s I
  refine isTrue_chain (thn (q pins s I) fun v s1 ⟨x, H1, I1, r1, q1⟩ => test_link (thn (q1 pins s1 I1) fun u s2 ⟨y, H2, I2, r2, q2⟩ => thn (q2 pins s2 v u I2 r1 r2) fun d s3 ⟨z, H3, I3, r3, k, e, q3⟩ => ?_)) hm
  subst e
  cases r3
  refine wpAny_truthy_bool ?_
  cases k with
  | false => exact ite_ff ⟨H3, I3, q3⟩
  | true =>
    refine ite_tt (test_last (thn (q3 pins s3 I3) fun w' s4 ⟨z', H4, I4, r4, q4⟩ => thn (q4 pins s4 u w' I4 r2 r4) fun d' s5 ⟨z2, H5, I5, r5, k2, e2, q5⟩ => ?_))
    subst e2
    cases r5
    exact wpAny_truthy_bool ⟨H5, I5, q5⟩
/-- a op b op' c -/
theorem ex_chain {op op' : CmpOp} (h : EX X W a ρ fun d1 ρ1 => EX X W b ρ1 fun d2 ρ2 => OpD X W (compareOp op) d1 d2 fun d => ∃ t, d = .bl t ∧
    (t = true → EX X W c ρ2 fun d3 ρ3 => OpD X W (compareOp op') d2 d3 fun d => Φ d ρ3) ∧ (t = false → Φ (.bl false) ρ2)) (hm : lastMarks [op, op'] [b, c] = false := by with_unfolding_all rfl) : EX X W (.Compare a [op, op'] [b, c] pos) ρ Φ := fun F H σ Q E q => by
  refine run_chain (h F H σ _ E fun v1 d1 F1 H1 ρ1 E1 s1 dn1 k1 => k1 F1 H1 σ _ E1 fun v2 d2 F2 H2 ρ2 E2 s2 dn2 k2 => k2.at E2 (dn1.mono s2.fs) dn2 fun v d F3 H3 E3 s3 dn3 ⟨t, ed, k3, k4⟩ => ?_) hm
  subst ed
  cases dn3
  refine ⟨t, rfl, ?_⟩
  cases t with
  | false => rw [if_neg Bool.false_ne_true]; exact q _ _ F3 H3 ρ2 E3 ((s1.trans s2).trans s3) (.bl false) (k4 rfl)
  | true =>
    rw [if_pos rfl]
    exact k3 rfl F3 H3 σ _ E3 fun v4 d4 F4 H4 ρ4 E4 s4 dn4 k5 => k5.at E4 ((dn2.mono s3.fs).mono s4.fs) dn4 fun v5 d5 F5 H5 E5 s5 dn5 k6 => q v5 d5 F5 H5 ρ4 E5 ((((s1.trans s2).trans s3).trans s4).trans s5) dn5 k6
theorem tx_chain {op op' : CmpOp} (h : EX X W a ρ fun d1 ρ1 => EX X W b ρ1 fun d2 ρ2 => OpD X W (compareOp op) d1 d2 fun d => ∃ t, d = .bl t ∧
    (t = true → EX X W c ρ2 fun d3 ρ3 => OpD X W (compareOp op') d2 d3 fun d => ∃ t', d = .bl t' ∧ Θ t' ρ3) ∧ (t = false → Θ false ρ2)) (hm : lastMarks [op, op'] [b, c] = false := by with_unfolding_all rfl) : TX X W (.Compare a [op, op'] [b, c] pos) ρ Θ := fun F H σ Q E q => by
  refine run_chainT (h F H σ _ E fun v1 d1 F1 H1 ρ1 E1 s1 dn1 k1 => k1 F1 H1 σ _ E1 fun v2 d2 F2 H2 ρ2 E2 s2 dn2 k2 => k2.at E2 (dn1.mono s2.fs) dn2 fun v d F3 H3 E3 s3 dn3 ⟨t, ed, k3, k4⟩ => ?_) hm
  subst ed
  cases dn3
  refine ⟨t, rfl, ?_⟩
  cases t with
  | false => rw [if_neg Bool.false_ne_true]; exact q _ F3 H3 ρ2 E3 ((s1.trans s2).trans s3) (k4 rfl)
  | true =>
    rw [if_pos rfl]
    refine k3 rfl F3 H3 σ _ E3 fun v4 d4 F4 H4 ρ4 E4 s4 dn4 k5 => k5.at E4 ((dn2.mono s3.fs).mono s4.fs) dn4 fun v5 d5 F5 H5 E5 s5 dn5 ⟨t5, ed5, k6⟩ => ?_
    subst ed5
    cases dn5
    exact ⟨t5, rfl, q _ F5 H5 ρ4 E5 ((((s1.trans s2).trans s3).trans s4).trans s5) k6⟩

/-! ### displays -/
theorem ax_nil {Ψ : List D → Rho → Prop} (k : Ψ [] ρ) : AX X W [] ρ Ψ := fun F H σ Q E q => run_a pa_nil (q [] [] F H ρ E Tr.refl .nil k)
theorem ax_cons {Ψ : List D → Rho → Prop} (h : EX X W e ρ fun d ρ1 => AX X W es ρ1 fun ds ρ2 => Ψ (d :: ds) ρ2) (hs : starEach (e :: es) X.env = (false, eval e X.env) :: starEach es X.env := by rfl) : AX X W (e :: es) ρ Ψ := fun F H σ Q E q =>
  run_a (pa_cons (peR e) (paR es) hs) (h F H σ _ E fun v d F1 H1 ρ1 E1 s1 dn1 k1 => k1 F1 H1 σ _ E1 fun vs ds F2 H2 ρ2 E2 s2 dn2 k2 => q (v :: vs) (d :: ds) F2 H2 ρ2 E2 (s1.trans s2) (.cons (dn1.mono s2.fs) dn2) k2)
theorem ex_tup {x1 : Nat} (h : AX X W es ρ fun ds ρ1 => ds.length ≤ sizeLine ∧ Φ (.tup ds) ρ1) : EX X W (.Tuple es x1 pos) ρ Φ := fun F H σ Q E q =>
  run_e (pe_tup (paR es)) (h F H σ _ E fun vs ds F1 H1 ρ1 E1 s1 dn1 k1 => ⟨by rw [dn1.length]; exact k1.1, fun p hp =>
    q _ _ _ _ ρ1 (E1.step (Stp.newF E1.sub hp)) (s1.trans (Stp.newF E1.sub hp).tr) (.tup (SqT.of upd_same) (dn1.mono (Stp.newF E1.sub hp).fs)) k1.2⟩)
theorem off_of {K : PySem.W.Frag} {F H : Hp} {σ : L2.St} {p : Addr} (E : EnvD K W F H σ ρ) (hp : H p = none) : Off σ ρ p := fun j s hj hm hs => by
  have h := E.sl j s hj
  cases s with
  | no => exact hm
  | val d => exact hm
  | own ds =>
    obtain ⟨q, vs, e, _, _, h3, _⟩ := h
    rw [hs] at e
    injection e with e; injection e with e; injection e with e
    rw [← e, hp] at h3
    cases h3
  | ino q ds =>
    obtain ⟨vs, e, _, _, h3, _⟩ := h
    rw [hs] at e
    injection e with e; injection e with e; injection e with e
    rw [← e, hp] at h3
    cases h3
theorem h0_none {K : PySem.W.Frag} {F H : Hp} {σ : L2.St} {p : Addr} (E : EnvD K W F H σ ρ) (hp : H p = none) : W.H0 p = none := by
  cases h : W.H0 p with
  | none => rfl
  | some o => exact absurd hp (E.live p (by rw [h]; simp))
/-- a new list, kept as one's own -/
theorem nx_fin {Ψ : List D → Rho → Prop} {K : PySem.W.Frag} {F H F1 H1 : Hp} {σ : L2.St} {ρ1 : Rho} {p : Addr} {vs : List V} {ds : List D} {Q : VK}
    (q : ∀ (p : Addr) (vs : List V) (ds : List D) (F' H' : Hp) (ρ' : Rho), EnvD K W F' H' σ ρ' → Tr F H σ ρ F' H' σ ρ' → F' p = none → W.H0 p = none → H p = none → H' p = some (.lst vs) → DenL K F' vs ds → Off σ ρ' p → Ψ ds ρ' → Q (.ref p) H')
    (E1 : EnvD K W F1 H1 σ ρ1) (s1 : Tr F H σ ρ F1 H1 σ ρ1) (hp : H1 p = none) (dn : DenL K F1 vs ds) (k : Ψ ds ρ1) : Q (.ref p) (upd H1 p (.lst vs)) :=
  q p vs ds F1 _ ρ1 (E1.step (Stp.newO E1.sub hp)) (s1.trans (Stp.newO E1.sub hp).tr) (E1.none_f hp) (h0_none E1 hp) (s1.free hp) upd_same dn (off_of E1 hp) k
theorem nx_lst {Ψ : List D → Rho → Prop} (h : AX X W es ρ fun ds ρ1 => ds.length ≤ sizeLine ∧ Ψ ds ρ1) : NX X W (.List es pos) ρ Ψ := fun F H σ Q E q =>
  run_e (pe_lst (paR es)) (h F H σ _ E fun vs ds F1 H1 ρ1 E1 s1 dn1 k1 => ⟨by rw [dn1.length]; exact k1.1, fun p hp => nx_fin q E1 s1 hp dn1 k1.2⟩)
/-- a new list, frozen -/
theorem EnvD.freezeNew {K : PySem.W.Frag} {F H : Hp} {σ : L2.St} {p : Addr} {vs : List V} (E : EnvD K W F H σ ρ) (hp : F p = none) (h0 : W.H0 p = none) (hH : H p = some (.lst vs)) (ho : Off σ ρ p) : EnvD K W (upd F p (.lst vs)) H σ ρ := by
  have fs : Same F (upd F p (.lst vs)) := fun a u e => by rw [upd_ne (ne_of_none e hp)]; exact e
  exact {
    sub := fun a o e => by
      by_cases ha : a = p
      · subst ha; rw [upd_same] at e; cases e; exact hH
      · rw [upd_ne ha] at e; exact E.sub a o e
    f0 := fun a o e => fs _ _ (E.f0 a o e)
    new := fun a g1 g2 => by
      have ha : a ≠ p := fun z => g2 (by rw [z]; exact h0)
      rw [upd_ne ha]; exact E.new a g1 g2
    keep := E.keep
    live := E.live
    len := E.len
    sl := fun j s h => by
      have hs := E.sl j s h
      cases s with
      | no => trivial
      | val d => obtain ⟨v, e, g⟩ := hs; exact ⟨v, e, g.mono fs⟩
      | own ds' =>
        obtain ⟨r, us, e, g1, g2, g3, g4⟩ := hs
        have hr : r ≠ p := fun z => ho j _ h trivial (by rw [e, z])
        exact ⟨r, us, e, by rw [upd_ne hr]; exact g1, g2, g3, g4.mono fs⟩
      | ino r ds' =>
        obtain ⟨us, e, g1, g2, g3, g4⟩ := hs
        have hr : r ≠ p := fun z => ho j _ h trivial (by rw [e, z])
        exact ⟨us, e, by rw [upd_ne hr]; exact g1, g2, g3, g4.mono fs⟩
    dis := E.dis }
theorem ex_nx (h : NX X W e ρ fun ds ρ1 => Φ (.lst ds) ρ1) : EX X W e ρ Φ := fun F H σ Q E q => h F H σ Q E fun p vs ds F1 H1 ρ1 E1 s1 h1 h2 hn h3 dn ho k => by
  have fs : Same F1 (upd F1 p (.lst vs)) := fun a u e => by rw [upd_ne (ne_of_none e h1)]; exact e
  exact q (.ref p) (.lst ds) _ H1 ρ1 (E1.freezeNew h1 h2 h3 ho) (s1.frzNew h1 hn) (.lst upd_same (dn.mono fs)) k
end
end DL
set_option maxHeartbeats 2000000
/-! DL, part 5: subscripts, slices, built-in calls, methods of one's own lists. -/
namespace DL
open PySem PySem.Spec PyProof.Rows L2

/-- the items of a list of one's own -/
def Sl.items : Sl → Option (List D)
  | .own ds => some ds | .ino _ ds => some ds | _ => none
def Sl.put : Sl → List D → Sl
  | .own _, es => .own es | .ino p _, es => .ino p es | s, _ => s
section
variable {K : PySem.W.Frag} {W : Wd} {F H : Hp} {σ : L2.St} {ρ : Rho} {i : Nat} {s : Sl} {ds es : List D} {ws : List V}
theorem EnvD.at_slot (E : EnvD K W F H σ ρ) (hi : ρ[i]? = some s) (hs : s.items = some ds) : ∃ p vs, σ[i]? = some (some (.ref p)) ∧ F p = none ∧ H p = some (.lst vs) ∧ DenL K F vs ds := by
  have h := E.sl i s hi
  cases s with
  | no => cases hs
  | val d => cases hs
  | own ds' => cases hs; obtain ⟨p, vs, e, h1, h2, h3, h4⟩ := h; exact ⟨p, vs, e, h1, h3, h4⟩
  | ino p ds' => cases hs; obtain ⟨vs, e, h1, h2, h3, h4⟩ := h; exact ⟨p, vs, e, h1, h3, h4⟩
theorem EnvD.mut_slot {p : Addr} (E : EnvD K W F H σ ρ) (hi : ρ[i]? = some s) (hs : s.items = some ds) (hσ : σ[i]? = some (some (.ref p))) (hd : DenL K F ws es) : EnvD K W F (upd H p (.lst ws)) σ (ρ.set i (s.put es)) := by
  cases s with
  | no => cases hs
  | val d => cases hs
  | own ds' => exact E.mutOwn hi hσ hd
  | ino q ds' =>
    obtain ⟨vs, e, _⟩ := E.sl i _ hi
    rw [hσ] at e
    injection e with e; injection e with e; injection e with e
    subst e
    exact E.mutIno hi hd
end
theorem atI_den {K : PySem.W.Frag} {F : Hp} {vs : List V} {ds : List D} {k : Int} {d : D} (h : DenL K F vs ds) (ha : atI ds k = some d) : ∃ v, atI vs k = some v ∧ Den K F v d := by
  unfold atI at ha ⊢
  rw [h.length]
  cases e : ixN ds.length k with
  | none => rw [e] at ha; cases ha
  | some j =>
    rw [e] at ha
    exact h.get ha
def cutL {α : Type} (xs : List α) (lo hi : Option Int) : List α := (xs.drop (HT.sIx xs.length 0 lo)).take (HT.sIx xs.length xs.length hi - HT.sIx xs.length 0 lo)
theorem cut_den {K : PySem.W.Frag} {F : Hp} {vs : List V} {ds : List D} (h : DenL K F vs ds) (lo hi : Option Int) : DenL K F (cutV vs lo hi) (cutL ds lo hi) := by
  unfold cutV cutL
  rw [h.length]
  exact (h.drop _).take _

section
variable {X : Cx} {W : Wd} {ρ : Rho} {Φ : D → Rho → Prop} {Θ : Bool → Rho → Prop} {Ψ : List D → Rho → Prop} {pos p1 p2 apos : Pos} {i : Nat} {x f : Str} {d : D} {a b c e : Expr} {es rest : List Expr}
/-! ### subscripts -/
theorem ex_ix (h : EX X W a ρ fun d ρ1 => EX X W b ρ1 fun di ρ2 => ∃ k ds e, di = .int k ∧ d.seq? = some ds ∧ atI ds k = some e ∧ Φ e ρ2) (hs : PlainIx b := by intro _ _; rfl) : EX X W (.Subscript a b pos) ρ Φ := fun F H σ Q E q =>
  run_e (pe_ix ix_seq (peR a) (peR b) hs) (h F H σ _ E fun v1 d1 F1 H1 ρ1 E1 s1 dn1 k1 => k1 F1 H1 σ _ E1 fun v2 d2 F2 H2 ρ2 E2 s2 dn2 ⟨k, ds, e, ed, hq, ha, k2⟩ => by
    subst ed
    cases dn2
    obtain ⟨p, vs, rfl, hv, dl⟩ := (dn1.mono s2.fs).sq hq
    obtain ⟨u, hu, dn⟩ := atI_den dl ha
    have fin := q u e F2 H2 ρ2 E2 (s1.trans s2) dn k2
    rcases hv with hv | hv
    · exact .inl ⟨p, vs, k, u, rfl, rfl, sqL_mono E2.sub hv, hu, fin⟩
    · exact .inr (.inl ⟨p, vs, k, u, rfl, rfl, sqT_mono E2.sub hv, hu, fin⟩))
theorem ex_ixStr (h : EX X W a ρ fun d ρ1 => EX X W b ρ1 fun di ρ2 => ∃ k z c, di = .int k ∧ d = .str z ∧ z.length ≤ sizeLine ∧ atI z.cps.toList k = some c ∧ Φ (.str ⟨#[c]⟩) ρ2) (hs : PlainIx b := by intro _ _; rfl) : EX X W (.Subscript a b pos) ρ Φ := fun F H σ Q E q =>
  run_e (pe_ix ix_str (peR a) (peR b) hs) (h F H σ _ E fun v1 d1 F1 H1 ρ1 E1 s1 dn1 k1 => k1 F1 H1 σ _ E1 fun v2 d2 F2 H2 ρ2 E2 s2 dn2 ⟨k, z, c, ed, ez, hz, ha, k2⟩ => by
    subst ed; subst ez
    cases dn2; cases dn1
    exact ⟨z, k, c, rfl, rfl, hz, ha, q _ _ F2 H2 ρ2 E2 (s1.trans s2) (.str _) k2⟩)
/-- .. of a list of one's own -/
theorem ex_ixS (hv : VarOk X i x) (h : EX X W b ρ fun di ρ2 => ∃ k s ds e, di = .int k ∧ ρ2[i]? = some s ∧ s.items = some ds ∧ atI ds k = some e ∧ Φ e ρ2) (hρ : ∃ s ds, ρ[i]? = some s ∧ Sl.items s = some ds) (hs : PlainIx b := by intro _ _; rfl) : EX X W (.Subscript (.Name x p1) b pos) ρ Φ := fun F H σ Q E q => by
  obtain ⟨s0, ds0, e0, i0⟩ := hρ
  obtain ⟨p, vs0, hp, _⟩ := E.at_slot e0 i0
  refine run_e (pe_ix ix_list (pe_var hv.n hv.v hv.d hv.c) (peR b) hs) ⟨.ref p, hp, h F H σ _ E fun v2 d2 F2 H2 ρ2 E2 s2 dn2 ⟨k, s, ds, e, ed, hi, hq, ha, k2⟩ => ?_⟩
  subst ed
  cases dn2
  obtain ⟨p', vs, hp', _, hH, dl⟩ := E2.at_slot hi hq
  rw [hp] at hp'
  injection hp' with hp'; injection hp' with hp'; injection hp' with hp'
  subst hp'
  obtain ⟨u, hu, dn⟩ := atI_den dl ha
  exact ⟨p, vs, k, u, rfl, rfl, SqL.of hH, hu, q u e F2 H2 ρ2 E2 s2 dn k2⟩

/-! ### slices -/
def OX (X : Cx) (W : Wd) (e : Option Expr) (ρ : Rho) (Φ : Option Int → Rho → Prop) : Prop := match e with
  | none => Φ none ρ
  | some e => EX X W e ρ fun d ρ1 => ∃ k, d = .int k ∧ Φ (some k) ρ1
def tOX (X : Cx) (e : Option Expr) : TO := match e with
  | none => tNoPart
  | some e => tPart (RunE X e)
theorem po_R (e : Option Expr) : PO X e (tOX X e) := by
  cases e with
  | none => exact po_none
  | some e => exact po_some (peR e)
theorem ox_run {e : Option Expr} {Φ : Option Int → Rho → Prop} (h : OX X W e ρ Φ) {F H : Hp} {σ : L2.St} {Q : Option Int → Hp → Prop} (E : EnvD X.K W F H σ ρ)
    (q : ∀ (o : Option Int) (F' H' : Hp) (ρ' : Rho), EnvD X.K W F' H' σ ρ' → Tr F H σ ρ F' H' σ ρ' → Φ o ρ' → Q o H') : tOX X e σ H Q := by
  cases e with
  | none => exact q none F H ρ E Tr.refl h
  | some e =>
    refine h F H σ _ E fun v d F' H' ρ' E' s dn ⟨k, ed, kk⟩ => ?_
    subst ed
    cases dn
    exact ⟨k, rfl, q (some k) F' H' ρ' E' s kk⟩
/-- t[lo:hi] of a tuple -/
theorem ex_slT {lo hi : Option Expr} (h : EX X W a ρ fun d ρ1 => OX X W lo ρ1 fun l ρ2 => OX X W hi ρ2 fun u ρ3 => ∃ ds, d = .tup ds ∧ Φ (.tup (cutL ds l u)) ρ3) : EX X W (.Subscript a (.Slice lo hi none p2) pos) ρ Φ := fun F H σ Q E q =>
  run_e (pe_slice sl_tupA (peR a) (po_R lo) (po_R hi)) (h F H σ _ E fun v1 d1 F1 H1 ρ1 E1 s1 dn1 k1 => ox_run k1 E1 fun l F2 H2 ρ2 E2 s2 k2 => ox_run k2 E2 fun u F3 H3 ρ3 E3 s3 ⟨ds, ed, k3⟩ => by
    subst ed
    cases dn1 with
    | @tup p vs _ hv dl =>
      have hv3 := sqT_mono ((s2.fs.trans s3.fs).trans E3.sub) hv
      have dl3 := dl.mono (s2.fs.trans s3.fs)
      refine ⟨p, vs, rfl, hv3, fun hw => ?_, fun hw r hr => ?_⟩
      · have e : cutL ds l u = ds := by
          unfold cutL
          rw [← dl.length, hw.1, hw.2, List.drop_zero, Nat.sub_zero, dl.length, List.take_length]
        rw [e] at k3
        exact q _ _ F3 H3 ρ3 E3 ((s1.trans s2).trans s3) (.tup (sqT_mono (s2.fs.trans s3.fs) hv) dl3) k3
      · exact q _ _ _ _ ρ3 (E3.step (Stp.newF E3.sub hr)) (((s1.trans s2).trans s3).trans (Stp.newF E3.sub hr).tr) (.tup (SqT.of upd_same) ((cut_den dl3 l u).mono (Stp.newF E3.sub hr).fs)) k3)
/-- xs[lo:hi] of a list -/
theorem nx_slL {lo hi : Option Expr} (h : EX X W a ρ fun d ρ1 => OX X W lo ρ1 fun l ρ2 => OX X W hi ρ2 fun u ρ3 => ∃ ds, (d = .lst ds ∨ d = .frz ds) ∧ Ψ (cutL ds l u) ρ3) : NX X W (.Subscript a (.Slice lo hi none p2) pos) ρ Ψ := fun F H σ Q E q =>
  run_e (pe_slice sl_list (peR a) (po_R lo) (po_R hi)) (h F H σ _ E fun v1 d1 F1 H1 ρ1 E1 s1 dn1 k1 => ox_run k1 E1 fun l F2 H2 ρ2 E2 s2 k2 => ox_run k2 E2 fun u F3 H3 ρ3 E3 s3 ⟨ds, ed, k3⟩ => by
    have key : ∃ p vs, v1 = .ref p ∧ SqL X.K F1 p vs ∧ DenL X.K F1 vs ds := by
      rcases ed with ed | ed
      · subst ed
        cases dn1 with
        | lst hv dl => exact ⟨_, _, rfl, SqL.of hv, dl⟩
      · subst ed
        cases dn1 with
        | frz hv dl => exact ⟨_, _, rfl, hv, dl⟩
    obtain ⟨p, vs, rfl, hv, dl⟩ := key
    exact ⟨p, vs, rfl, sqL_mono ((s2.fs.trans s3.fs).trans E3.sub) hv, fun r hr => nx_fin q E3 ((s1.trans s2).trans s3) hr (cut_den (dl.mono (s2.fs.trans s3.fs)) l u) k3⟩)
theorem nx_slS {lo hi : Option Expr} (hv : VarOk X i x) (h : OX X W lo ρ fun l ρ2 => OX X W hi ρ2 fun u ρ3 => ∃ s ds, ρ3[i]? = some s ∧ s.items = some ds ∧ Ψ (cutL ds l u) ρ3) (hρ : ∃ s ds, ρ[i]? = some s ∧ Sl.items s = some ds) : NX X W (.Subscript (.Name x p1) (.Slice lo hi none p2) pos) ρ Ψ := fun F H σ Q E q => by
  obtain ⟨s0, ds0, e0, i0⟩ := hρ
  obtain ⟨p, vs0, hp, _⟩ := E.at_slot e0 i0
  refine run_e (pe_slice sl_list (pe_var hv.n hv.v hv.d hv.c) (po_R lo) (po_R hi)) ⟨.ref p, hp, ox_run h E fun l F2 H2 ρ2 E2 s2 k2 => ox_run k2 E2 fun u F3 H3 ρ3 E3 s3 ⟨s, ds, hi', hq, k3⟩ => ?_⟩
  obtain ⟨p', vs, hp', _, hH, dl⟩ := E3.at_slot hi' hq
  rw [hp] at hp'
  injection hp' with hp'; injection hp' with hp'; injection hp' with hp'
  subst hp'
  exact ⟨p, vs, rfl, SqL.of hH, fun r hr => nx_fin q E3 (s2.trans s3) hr (cut_den dl l u) k3⟩

/-! ### built-in calls -/
structure BltOk (X : Cx) (f : Str) (u : Value) : Prop where
  g : GlbOk X f
  m : X.mg f = none
  v : bootBuiltins f = some u
/-- a built-in function of data -/
theorem ex_cb {id : String} {r : List V → Hp → VK → Prop} (B : BltOk X f (.builtin id)) (hc : CallR X (.builtin id) r) (h : ∀ F H σ (Q : VK), EnvD X.K W F H σ ρ → (∀ (v : V) (d : D) (F' H' : Hp) (ρ' : Rho), EnvD X.K W F' H' σ ρ' → Tr F H σ ρ F' H' σ ρ' → Den X.K F' v d → Φ d ρ' → Q v H') → RunA X (e :: es) σ H fun vs H1 => r vs H1 Q)
    (he : starEach (e :: es) X.env = (false, eval e X.env) :: starEach es X.env := by rfl) (hpl : (backTo pos (starEach es X.env)).any (·.1) = false := by rfl) : EX X W (.Call (.Name f p1) (e :: es) [] pos) ρ Φ := fun F H σ Q E q =>
  run_e (pe_callB hc B.g.g B.m B.v (paR _) B.g.nm B.g.d he hpl) (h F H σ Q E q)
theorem ex_ct {T : String} {r : List V → Hp → VK → Prop} (B : BltOk X f (.type T)) (hc : CallR X (.type T) r) (h : ∀ F H σ (Q : VK), EnvD X.K W F H σ ρ → (∀ (v : V) (d : D) (F' H' : Hp) (ρ' : Rho), EnvD X.K W F' H' σ ρ' → Tr F H σ ρ F' H' σ ρ' → Den X.K F' v d → Φ d ρ' → Q v H') → RunA X (e :: es) σ H fun vs H1 => r vs H1 Q)
    (he : starEach (e :: es) X.env = (false, eval e X.env) :: starEach es X.env := by rfl) (hpl : (backTo pos (starEach es X.env)).any (·.1) = false := by rfl) : EX X W (.Call (.Name f p1) (e :: es) [] pos) ρ Φ := fun F H σ Q E q =>
  run_e (pe_callTy hc B.g.g B.m B.v (paR _) B.g.nm B.g.d he hpl) (h F H σ Q E q)
theorem runA1 {Q : List V → Hp → Prop} {H : Hp} {σ : L2.St} (h : RunE X e σ H fun v H1 => Q [v] H1) (hs : starEach [e] X.env = [(false, eval e X.env)] := by rfl) : RunA X [e] σ H Q := run_a (pa_cons (peR e) pa_nil hs) h
/-- int(e) of an int -/
theorem ex_intI (B : BltOk X f (.type "int")) (h : EX X W e ρ fun d ρ1 => ∃ j, d = .int j ∧ Φ (.int j) ρ1) (he : starEach [e] X.env = [(false, eval e X.env)] := by rfl) : EX X W (.Call (.Name f p1) [e] [] pos) ρ Φ :=
  ex_ct B call_int1 (fun F H σ Q E q => runA1 (h F H σ _ E fun v d F' H' ρ' E' s dn ⟨j, ed, k⟩ => by
    subst ed
    cases dn
    exact .inl ⟨j, rfl, q _ _ F' H' ρ' E' s (.int j) k⟩) he) he
/-- len(e) -/
theorem ex_len (B : BltOk X f (.builtin "len")) (h : EX X W e ρ fun d ρ1 => ∃ ds, d.seq? = some ds ∧ Φ (.int ds.length) ρ1) (he : starEach [e] X.env = [(false, eval e X.env)] := by rfl) : EX X W (.Call (.Name f p1) [e] [] pos) ρ Φ :=
  ex_cb B call_len_seq (fun F H σ Q E q => runA1 (h F H σ _ E fun v d F' H' ρ' E' s dn ⟨ds, ed, k⟩ => by
    obtain ⟨p, vs, rfl, hv, dl⟩ := dn.sq ed
    exact ⟨p, vs, rfl, sq_mono E'.sub hv, q _ _ F' H' ρ' E' s (.int _) (by rw [dl.length]; exact k)⟩) he) he
theorem ex_lenStr (B : BltOk X f (.builtin "len")) (h : EX X W e ρ fun d ρ1 => ∃ z, d = .str z ∧ z.length ≤ sizeLine ∧ Φ (.int z.length) ρ1) (he : starEach [e] X.env = [(false, eval e X.env)] := by rfl) : EX X W (.Call (.Name f p1) [e] [] pos) ρ Φ :=
  ex_cb B call_len_str (fun F H σ Q E q => runA1 (h F H σ _ E fun v d F' H' ρ' E' s dn ⟨z, ed, hz, k⟩ => by
    subst ed
    cases dn
    exact ⟨z, rfl, hz, q _ _ F' H' ρ' E' s (.int _) k⟩) he) he
theorem ex_lenS {s : Sl} {ds : List D} (B : BltOk X f (.builtin "len")) (hv : VarOk X i x) (hi : ρ[i]? = some s) (hs : s.items = some ds) (k : Φ (.int ds.length) ρ) : EX X W (.Call (.Name f p1) [.Name x p2] [] pos) ρ Φ :=
  ex_cb B call_len_seq (fun F H σ Q E q => by
    obtain ⟨p, vs, hp, _, hH, dl⟩ := E.at_slot hi hs
    exact runA1 (run_e (pe_var hv.n hv.v hv.d hv.c) ⟨.ref p, hp, p, vs, rfl, .inl (SqL.of hH), q _ _ F H ρ E Tr.refl (.int _) (by rw [dl.length]; exact k)⟩))
/-- tuple(e), list(e) -/
theorem ex_tupleOf (B : BltOk X f (.type "tuple")) (h : EX X W e ρ fun d ρ1 => ∃ ds, d.seq? = some ds ∧ Φ (.tup ds) ρ1) (he : starEach [e] X.env = [(false, eval e X.env)] := by rfl) : EX X W (.Call (.Name f p1) [e] [] pos) ρ Φ :=
  ex_ct B call_tuple_of (fun F H σ Q E q => runA1 (h F H σ _ E fun v d F' H' ρ' E' s dn ⟨ds, ed, k⟩ => by
    cases dn with
    | lst h1 h2 => cases ed; exact ⟨_, _, rfl, .inl ⟨SqL.of (E'.sub _ _ h1), fun l hl => q _ _ _ _ ρ' (E'.step (Stp.newF E'.sub hl)) (s.trans (Stp.newF E'.sub hl).tr) (.tup (SqT.of upd_same) (h2.mono (Stp.newF E'.sub hl).fs)) k⟩⟩
    | frz h1 h2 => cases ed; exact ⟨_, _, rfl, .inl ⟨sqL_mono E'.sub h1, fun l hl => q _ _ _ _ ρ' (E'.step (Stp.newF E'.sub hl)) (s.trans (Stp.newF E'.sub hl).tr) (.tup (SqT.of upd_same) (h2.mono (Stp.newF E'.sub hl).fs)) k⟩⟩
    | tup h1 h2 => cases ed; exact ⟨_, _, rfl, .inr ⟨sqT_mono E'.sub h1, q _ _ _ _ ρ' E' s (.tup h1 h2) k⟩⟩
    | _ => cases ed) he) he
theorem ex_tupleS {s : Sl} {ds : List D} (B : BltOk X f (.type "tuple")) (hv : VarOk X i x) (hi : ρ[i]? = some s) (hs : s.items = some ds) (k : Φ (.tup ds) ρ) : EX X W (.Call (.Name f p1) [.Name x p2] [] pos) ρ Φ :=
  ex_ct B call_tuple_of (fun F H σ Q E q => by
    obtain ⟨p, vs, hp, _, hH, dl⟩ := E.at_slot hi hs
    exact runA1 (run_e (pe_var hv.n hv.v hv.d hv.c) ⟨.ref p, hp, p, vs, rfl, .inl ⟨SqL.of hH, fun l hl => q _ _ _ _ ρ (E.step (Stp.newF E.sub hl)) (Stp.newF E.sub hl).tr (.tup (SqT.of upd_same) (dl.mono (Stp.newF E.sub hl).fs)) k⟩⟩))
theorem nx_listOf (B : BltOk X f (.type "list")) (h : EX X W e ρ fun d ρ1 => ∃ ds, d.seq? = some ds ∧ Ψ ds ρ1) (he : starEach [e] X.env = [(false, eval e X.env)] := by rfl) (hpl : (backTo pos (starEach [] X.env)).any (·.1) = false := by rfl) : NX X W (.Call (.Name f p1) [e] [] pos) ρ Ψ := fun F H σ Q E q =>
  run_e (pe_callTy call_list_of B.g.g B.m B.v (paR _) B.g.nm B.g.d he hpl) (runA1 (h F H σ _ E fun v d F' H' ρ' E' s dn ⟨ds, ed, k⟩ => by
    obtain ⟨p, vs, rfl, hv, dl⟩ := dn.sq ed
    exact ⟨p, vs, rfl, sq_mono E'.sub hv, fun l hl => nx_fin q E' s hl dl k⟩) he)
theorem nx_listS {s : Sl} {ds : List D} (B : BltOk X f (.type "list")) (hv : VarOk X i x) (hi : ρ[i]? = some s) (hs : s.items = some ds) (k : Ψ ds ρ) : NX X W (.Call (.Name f p1) [.Name x p2] [] pos) ρ Ψ := fun F H σ Q E q => by
  obtain ⟨p, vs, hp, _, hH, dl⟩ := E.at_slot hi hs
  exact run_e (pe_callTy call_list_of B.g.g B.m B.v (paR _) B.g.nm B.g.d rfl rfl) (runA1 (run_e (pe_var hv.n hv.v hv.d hv.c) ⟨.ref p, hp, p, vs, rfl, .inl (SqL.of hH), fun l hl => nx_fin q E Tr.refl hl dl k⟩))
/-- max, min of two ints -/
theorem ex_max2 (hc : X.calm = true) (B : BltOk X f (.builtin "max")) (h : AX X W [a, b] ρ fun ds ρ1 => ∃ i j, ds = [.int i, .int j] ∧ Φ (.int (if j > i then j else i)) ρ1) (he : starEach [a, b] X.env = (false, eval a X.env) :: starEach [b] X.env := by rfl) (hpl : (backTo pos (starEach [b] X.env)).any (·.1) = false := by rfl) : EX X W (.Call (.Name f p1) [a, b] [] pos) ρ Φ :=
  ex_cb B (call_max2 hc) (fun F H σ Q E q => h F H σ _ E fun vs ds F' H' ρ' E' s dn ⟨i, j, ed, k⟩ => by
    subst ed
    cases dn with
    | cons h1 h2 => cases h1; cases h2 with | cons h3 h4 => cases h3; cases h4; exact ⟨i, j, rfl, q _ _ F' H' ρ' E' s (.int _) k⟩) he hpl
theorem ex_min2 (hc : X.calm = true) (B : BltOk X f (.builtin "min")) (h : AX X W [a, b] ρ fun ds ρ1 => ∃ i j, ds = [.int i, .int j] ∧ Φ (.int (if j < i then j else i)) ρ1) (he : starEach [a, b] X.env = (false, eval a X.env) :: starEach [b] X.env := by rfl) (hpl : (backTo pos (starEach [b] X.env)).any (·.1) = false := by rfl) : EX X W (.Call (.Name f p1) [a, b] [] pos) ρ Φ :=
  ex_cb B (call_min2 hc) (fun F H σ Q E q => h F H σ _ E fun vs ds F' H' ρ' E' s dn ⟨i, j, ed, k⟩ => by
    subst ed
    cases dn with
    | cons h1 h2 => cases h1; cases h2 with | cons h3 h4 => cases h3; cases h4; exact ⟨i, j, rfl, q _ _ F' H' ρ' E' s (.int _) k⟩) he hpl

/-! ### isinstance -/
def D.tyn : D → Option String
  | .non => some "NoneType" | .bl _ => some "bool" | .int _ => some "int" | .str _ => some "str" | .lst _ => some "list" | .tup _ => some "tuple" | .frz _ => none | .ref _ => none | .ty _ => none
theorem Den.tyx {K : PySem.W.Frag} {F H : Hp} {v : V} {d : D} {T : String} (s : Same F H) (h : Den K F v d) (ht : d.tyn = some T) : TyX K H v (.type T) := by
  cases h with
  | non => cases ht; exact .base .non
  | bl b => cases ht; exact .base (.bl b)
  | int i => cases ht; exact .base (.int i)
  | str x => cases ht; exact .base (.str x)
  | lst h1 h2 => cases ht; exact .base (.lst (s _ _ h1))
  | tup h1 h2 =>
    cases ht
    rcases sqT_mono s h1 with (h | ⟨o, h⟩) | ⟨o, its, n, hk, hc, _⟩
    · exact .base (.tup h)
    · exact .fTuple h
    · exact .kTuple hk hc
  | _ => cases ht
theorem ex_isi {C : String} (B : BltOk X f (.builtin "isinstance")) (h : EX X W a ρ fun d ρ1 => EX X W b ρ1 fun dc ρ2 => ∃ T r, dc = .ty C ∧ d.tyn = some T ∧ kitB T C = some r ∧ Φ (.bl r) ρ2)
    (he : starEach [a, b] X.env = (false, eval a X.env) :: starEach [b] X.env := by rfl) (he2 : starEach [b] X.env = [(false, eval b X.env)] := by rfl) (hpl : (backTo pos (starEach [b] X.env)).any (·.1) = false := by rfl) : EX X W (.Call (.Name f p1) [a, b] [] pos) ρ Φ :=
  ex_cb B call_isi (fun F H σ Q E q => run_a (pa_cons (peR a) (pa_cons (peR b) pa_nil he2) he) (h F H σ _ E fun v1 d1 F1 H1 ρ1 E1 s1 dn1 k1 => k1 F1 H1 σ _ E1 fun v2 d2 F2 H2 ρ2 E2 s2 dn2 ⟨T, r, ed, ht, hk, k⟩ => by
    subst ed
    cases dn2
    exact ⟨v1, .ty C, .type T, .type C, r, rfl, .ty C, dn1.tyx (s2.fs.trans E2.sub) ht, kit_ty hk, q _ _ F2 H2 ρ2 E2 (s1.trans s2) (.bl r) k⟩)) he hpl
theorem clsV_ty : ∀ {K : PySem.W.Frag} {F : Hp} {vs : List V} (Cs : List String), DenL K F vs (Cs.map D.ty) → Paired ClsV vs (Cs.map Value.type)
  | _, _, _, [], .nil => .nil
  | _, _, _, C :: Cs, .cons h1 h2 => by
    cases h1
    exact .cons (.ty C) (clsV_ty Cs h2)
def kitsB (a : String) : List String → Option Bool
  | [] => some false
  | c :: cs => match kitB a c with
    | some true => some true
    | some false => kitsB a cs
    | none => none
theorem kits_ty {K : PySem.W.Frag} {a : String} : ∀ {cs : List String} {r : Bool}, kitsB a cs = some r → PySem.W.kitAny K (.type a) (cs.map Value.type) = some r
  | [], r, h => by cases h; rfl
  | c :: cs, r, h => by
    unfold kitsB at h
    cases e : kitB a c with
    | none => rw [e] at h; cases h
    | some b =>
      rw [e] at h
      cases b with
      | true => cases h; exact kitAny_cons (kit_ty e) (fun z => by cases z) (fun _ => rfl)
      | false => exact kitAny_cons (kit_ty e) (fun _ => kits_ty h) (fun z => by cases z)
theorem ex_isiT {x1 : Nat} {Cs : List String} (B : BltOk X f (.builtin "isinstance")) (h : EX X W a ρ fun d ρ1 => AX X W es ρ1 fun ds ρ2 => ∃ T r, ds = Cs.map D.ty ∧ ds.length ≤ sizeLine ∧ d.tyn = some T ∧ kitsB T Cs = some r ∧ Φ (.bl r) ρ2)
    (he : starEach [a, .Tuple es x1 p2] X.env = (false, eval a X.env) :: starEach [.Tuple es x1 p2] X.env := by rfl) (he2 : starEach [.Tuple es x1 p2] X.env = [(false, eval (.Tuple es x1 p2) X.env)] := by rfl) (hpl : (backTo pos (starEach [.Tuple es x1 p2] X.env)).any (·.1) = false := by rfl) : EX X W (.Call (.Name f p1) [a, .Tuple es x1 p2] [] pos) ρ Φ :=
  ex_cb B call_isiT (fun F H σ Q E q => run_a (pa_cons (peR a) (pa_cons (pe_tup (paR es)) pa_nil he2) he) (h F H σ _ E fun v1 d1 F1 H1 ρ1 E1 s1 dn1 k1 => k1 F1 H1 σ _ E1 fun vs ds F2 H2 ρ2 E2 s2 dn2 ⟨T, r, ed, hl, ht, hk, k⟩ => ⟨by rw [dn2.length]; exact hl, fun p hp => by
    subst ed
    have t := Stp.newF (o := .tup vs) E2.sub hp
    exact ⟨v1, p, vs, .type T, Cs.map Value.type, r, rfl, upd_same, clsV_ty Cs dn2, dn1.tyx ((s2.fs.trans E2.sub).trans t.hs) ht, kits_ty hk, q _ _ _ _ ρ2 (E2.step t) ((s1.trans s2).trans t.tr) (.bl r) k⟩⟩)) he hpl
end
end DL
set_option maxHeartbeats 2000000
/-! DL, part 6: statements, what is walked, for, comprehensions. -/
namespace DL
open PySem PySem.Spec PyProof.Rows L2

section
variable {X : Cx} {W : Wd} {ρ : Rho} {Φ : Out → Prop} {Ψ : List D → Rho → Prop} {pos p1 p2 p3 apos : Pos} {i k : Nat} {x f : Str} {d : D} {a b c e : Expr} {es rest : List Expr} {st : Stmt} {sts u w : List Stmt} {N : List Str} {sc : Scope}
/-! ### blocks -/
theorem SX.mono {Φ' : Out → Prop} (h : SX X W sts ρ Φ) (m : ∀ o, Φ o → Φ' o) : SX X W sts ρ Φ' := fun F H σ E D q => h F H σ E D
  ⟨fun F' H' σ' ρ' g s k => q.nx F' H' σ' ρ' g s (m _ k), fun F' H' σ' ρ' v d g s dn k => q.rt F' H' σ' ρ' v d g s dn (m _ k), fun F' H' σ' ρ' p vs ds g s a b c dn o k => q.rl F' H' σ' ρ' p vs ds g s a b c dn o (m _ k),
    fun F' H' σ' ρ' g s k => q.bk F' H' σ' ρ' g s (m _ k), fun F' H' σ' ρ' g s k => q.ct F' H' σ' ρ' g s (m _ k)⟩
theorem sx_nil (k : Φ (.nx ρ)) : SX X W [] ρ Φ := fun F H σ E D q => run_ss pss_nil (q.nx F H σ ρ D Tr.refl k)
/-- what comes behind a statement -/
def Then (X : Cx) (W : Wd) (rest : List Stmt) (Φ : Out → Prop) : Out → Prop
  | .nx ρ' => SX X W rest ρ' Φ | o => Φ o
theorem sx_cons (h : S1 X W st ρ (Then X W sts Φ)) : SX X W (st :: sts) ρ Φ := fun F H σ E D q =>
  run_ss (pss_cons (psR st) (pssR sts)) (h F H σ { E with nx := RunSs X sts E } D
    ⟨fun F' H' σ' ρ' g s k => k F' H' σ' E g (q.mono s), fun F' H' σ' ρ' v d g s dn k => q.rt F' H' σ' ρ' v d g s dn k, fun F' H' σ' ρ' p vs ds g s a b c dn o k => q.rl F' H' σ' ρ' p vs ds g s a b c dn o k,
      fun F' H' σ' ρ' g s k => q.bk F' H' σ' ρ' g s k, fun F' H' σ' ρ' g s k => q.ct F' H' σ' ρ' g s k⟩)
theorem sx_one (h : S1 X W st ρ Φ) : SX X W [st] ρ Φ := fun F H σ E D q => run_ss (pss_one (psR st)) (h F H σ E D q)
/-- behind an assertion -/
theorem sx_cut {Φ1 : Out → Prop} (h : SX X W sts ρ Φ1) (m : ∀ o, Φ1 o → Φ o) : SX X W sts ρ Φ := h.mono m

/-! ### small statements -/
theorem s_asg (C : Cxt X k N sc) (hv : LocOk X i x) (h : EX X W e ρ fun d ρ1 => Φ (.nx (ρ1.set i (.val d)))) (hs : swapsWith e (some (.Name x p1)) pos.line X.env = pure false := by rfl) : S1 X W (.Assign [.Name x p1] e pos) ρ Φ := fun F H σ E D q =>
  run_s (ps_set C.nd hv.n hv.l (peR e) hs hv.f) (h F H σ _ D fun v d F' H' ρ' E' s dn kk => q.nx _ _ _ _ (E'.set dn) (s.trans tr_set) kk)
theorem s_asgN (C : Cxt X k N sc) (hv : LocOk X i x) (h : NX X W e ρ fun ds ρ1 => Φ (.nx (ρ1.set i (.own ds)))) (hs : swapsWith e (some (.Name x p1)) pos.line X.env = pure false := by rfl) : S1 X W (.Assign [.Name x p1] e pos) ρ Φ := fun F H σ E D q =>
  run_s (ps_set C.nd hv.n hv.l (peR e) hs hv.f) (h F H σ _ D fun p vs ds F' H' ρ' E' s h1 h2 h3 h4 dl ho kk =>
    q.nx _ _ _ _ (E'.setOwn h1 h2 h4 dl fun j t _ hj hm => ho j t hj hm) (tr_own h3 s) kk)
/-- xs[i] = e, xs a list of one's own -/
theorem s_setS {t : Expr} (hv : VarOk X i x) (h : EX X W e ρ fun d ρ1 => (∃ s ds, ρ1[i]? = some s ∧ Sl.items s = some ds) ∧ EX X W t ρ1 fun di ρ2 => ∃ s ds k j, di = .int k ∧ ρ2[i]? = some s ∧ Sl.items s = some ds ∧ ixN ds.length k = some j ∧ Φ (.nx (ρ2.set i (s.put (ds.set j d)))))
    (hs : swapsWithSole [.Subscript (.Name x p1) t p2] e pos.line X.env = pure false := by rfl) (hw : swappedStores [.Subscript (.Name x p1) t p2] e X.env = pure none := by rfl)
    (h1 : (assignEach [.Subscript (.Name x p1) t p2] X.env).map (·.2) = [assign (.Subscript (.Name x p1) t p2) X.env] := by rfl)
    (ha : ∀ v, assign (.Subscript (.Name x p1) t p2) X.env v = (do
      let ov ← holding [v] (eval (.Name x p1) X.env)
      let iv ← holding [v, ov] (eval t X.env)
      standAt p2
      holding [v, ov, iv] (setItem ov iv v)
      release [v, ov, iv] []) := by intro _; rfl) : S1 X W (.Assign [.Subscript (.Name x p1) t p2] e pos) ρ Φ := fun F H σ E D q =>
  run_s (ps_asg (peR e) (pg_sub (pe_var hv.n hv.v hv.d hv.c) (peR t) set_list ha) hs hw h1) (h F H σ _ D fun v d F1 H1 ρ1 E1 s1 dn1 ⟨⟨s0, ds0, e0, i0⟩, k1⟩ => by
    obtain ⟨p, vs0, hp, _⟩ := E1.at_slot e0 i0
    refine ⟨.ref p, hp, k1 F1 H1 σ _ E1 fun v2 d2 F2 H2 ρ2 E2 s2 dn2 ⟨s, ds, kk, j, ed, hi, hq, hj, k2⟩ => ?_⟩
    subst ed
    cases dn2
    obtain ⟨p', vs, hp', _, hH, dl⟩ := E2.at_slot hi hq
    rw [hp] at hp'
    injection hp' with hp'; injection hp' with hp'; injection hp' with hp'
    subst hp'
    have hm : s.mut := by cases s <;> first | trivial | cases hq
    refine ⟨p, vs, kk, j, rfl, rfl, hH, by rw [dl.length]; exact hj, ?_⟩
    exact q.nx _ _ _ _ (E2.mut_slot hi hq hp (dl.set j (dn1.mono s2.fs))) ((s1.trans s2).trans (tr_mut hi hm (fun _ => hm) hp)) k2)
theorem s_expr (h : EX X W e ρ fun _ ρ1 => Φ (.nx ρ1)) (hs : swapsWith e none pos.line X.env = pure false := by rfl) : S1 X W (.Expr e pos) ρ Φ := fun F H σ E D q =>
  run_s (ps_expr (peR e) hs) (h F H σ _ D fun v d F' H' ρ' E' s dn kk => q.nx _ _ _ _ E' s kk)
theorem s_ret (h : EX X W e ρ fun d ρ1 => Φ (.rt d ρ1)) : S1 X W (.Return (some e) pos) ρ Φ := fun F H σ E D q =>
  run_s (ps_ret (peR e)) (h F H σ _ D fun v d F' H' ρ' E' s dn kk => q.rt _ _ _ _ v d E' s dn kk)
theorem s_retN (h : Φ (.rt .non ρ)) : S1 X W (.Return none pos) ρ Φ := fun F H σ E D q => run_s ps_retN (q.rt _ _ _ _ .non .non D Tr.refl .non h)
/-- a new list is handed back -/
theorem s_retNX (h : NX X W e ρ fun ds ρ1 => Φ (.rl ds ρ1)) : S1 X W (.Return (some e) pos) ρ Φ := fun F H σ E D q =>
  run_s (ps_ret (peR e)) (h F H σ _ D fun p vs ds F' H' ρ' E' s h1 h2 h3 h4 dl ho kk => q.rl F' H' σ ρ' p vs ds E' s h1 h2 h4 dl (fun j r es hj z => by
    obtain ⟨_, e1, _⟩ := E'.sl j _ hj
    exact ho j _ hj trivial (by rw [e1, z])) kk)
theorem s_retS {ds : List D} (hv : VarOk X i x) (hi : ρ[i]? = some (.own ds)) (h : Φ (.rl ds ρ)) : S1 X W (.Return (some (.Name x p1)) pos) ρ Φ := fun F H σ E D q => by
  obtain ⟨p, vs, hp, h1, h2, h4, dl⟩ := D.sl i _ hi
  exact run_s (ps_ret (pe_var hv.n hv.v hv.d hv.c)) ⟨.ref p, hp, q.rl F H σ ρ p vs ds D Tr.refl h1 h2 h4 dl (fun j r es hj z => by
    obtain ⟨_, e1, _⟩ := D.sl j _ hj
    have : i = j := D.dis i j _ _ p hi hj trivial trivial hp (by rw [e1, z])
    subst this
    rw [hi] at hj
    cases hj) h⟩
theorem s_if (h : TX X W c ρ fun t ρ1 => (t = true → SX X W u ρ1 Φ) ∧ (t = false → SX X W w ρ1 Φ)) : S1 X W (.If c u w pos) ρ Φ := fun F H σ E D q =>
  run_s (ps_if (ptR c) (pssR u) (pssR w)) (h F H σ _ D fun t F' H' ρ' E' s kk => by
    cases t with
    | true => rw [if_pos rfl]; exact kk.1 rfl F' H' σ E E' (q.mono s)
    | false => rw [if_neg Bool.false_ne_true]; exact kk.2 rfl F' H' σ E E' (q.mono s))
theorem s_break (h : Φ (.bk ρ)) : S1 X W (.Break pos) ρ Φ := fun F H σ E D q => run_s ps_break (q.bk F H σ ρ D Tr.refl h)
theorem s_cont (h : Φ (.ct ρ)) : S1 X W (.Continue pos) ρ Φ := fun F H σ E D q => run_s ps_continue (q.ct F H σ ρ D Tr.refl h)
theorem s_pass (h : Φ (.nx ρ)) : S1 X W (.Pass pos) ρ Φ := fun F H σ E D q => run_s ps_pass (q.nx F H σ ρ D Tr.refl h)
/-- a list of one's own is frozen from here on -/
theorem sx_frz {ds : List D} (i : Nat) (hi : ρ[i]? = some (.own ds)) (h : SX X W sts (ρ.set i (.val (.lst ds))) Φ) : SX X W sts ρ Φ := fun F H σ E D q => by
  obtain ⟨F', fs, nf, E'⟩ := D.freeze hi
  have t : Tr F H σ ρ F' H σ (ρ.set i (.val (.lst ds))) := ⟨fs, fun a o h k => ⟨h, off_put hi (fun z => z.elim) k⟩, fun _ h => h, fun a _ h2 h3 => nf a h2 (h3 i _ hi trivial)⟩
  exact h F' H σ E E' (q.mono t)

/-! ### targets -/
theorem gx_name {Θ : Rho → Prop} (C : Cxt X k N sc) (hv : LocOk X i x) (h : Θ (ρ.set i (.val d))) : GX X W (.Name x pos) d ρ Θ := fun F H σ v Q D dn q =>
  run_g (pg_name C.nd hv.n hv.l hv.f) (q _ _ _ _ (D.set dn) tr_set h)
theorem gsx_nil {Θ : Rho → Prop} (h : Θ ρ) : GsX X W [] [] ρ Θ := fun F H σ vs Q D dn q => run_gs pgs_nil ⟨by cases dn; rfl, q _ _ _ _ D Tr.refl h⟩
theorem gsx_cons {Θ : Rho → Prop} {ds : List D} (h : GX X W e d ρ fun ρ1 => GsX X W es ds ρ1 Θ) (hs : (assignEach (e :: es) X.env).map (·.2) = assign e X.env :: (assignEach es X.env).map (·.2) := by rfl) : GsX X W (e :: es) (d :: ds) ρ Θ := fun F H σ vs Q D dn q => by
  cases dn with
  | cons h1 h2 => exact run_gs (pgs_cons (pgR e) (pgsR es) hs) ⟨_, _, rfl, h F H σ _ _ D h1 fun F' H' σ' ρ' D' s k => k F' H' σ' _ _ D' (h2.mono s.fs) fun F2 H2 σ2 ρ2 D2 s2 k2 => q F2 H2 σ2 ρ2 D2 (s.trans s2) k2⟩
theorem gx_tup {Θ : Rho → Prop} {ds : List D} {kk : Nat} (hc : X.calm = true) (h : GsX X W es ds ρ Θ) (hl : ds.length = es.length) (hn : (assignEach es X.env).length = es.length := by rfl) (hst : (assignEach es X.env).findIdx? (·.1) = none := by rfl) : GX X W (.Tuple es kk pos) (.tup ds) ρ Θ := fun F H σ v Q D dn q => by
  cases dn with
  | tup h1 h2 => exact run_g (pg_tup hc (pgsR es) hn hst) ⟨_, _, rfl, sqT_mono D.sub h1, by rw [h2.length]; exact hl, h F H σ _ _ D h2 q⟩
/-- a, b = e -/
theorem s_asgT {kk : Nat} (h : EX X W e ρ fun d ρ1 => GX X W (.Tuple es kk p2) d ρ1 fun ρ2 => Φ (.nx ρ2)) (hs : swapsWithSole [.Tuple es kk p2] e pos.line X.env = pure false := by rfl) (hw : swappedStores [.Tuple es kk p2] e X.env = pure none := by rfl)
    (h1 : (assignEach [.Tuple es kk p2] X.env).map (·.2) = [assign (.Tuple es kk p2) X.env] := by rfl) : S1 X W (.Assign [.Tuple es kk p2] e pos) ρ Φ := fun F H σ E D q =>
  run_s (ps_asg (peR e) (pgR _) hs hw h1) (h F H σ _ D fun v d F1 H1 ρ1 E1 s1 dn1 k1 => k1 F1 H1 σ _ _ E1 dn1 fun F2 H2 σ2 ρ2 E2 s2 k2 => q.nx _ _ _ _ E2 (s1.trans s2) k2)

/-! ### methods of one's own lists -/
theorem tyL {K : PySem.W.Frag} {H : Hp} {p : Addr} {vs : List V} (h : H p = some (.lst vs)) : tyV K "list" (.ref p) H := .inl ⟨rfl, vs, SqL.of h⟩
/-- x.append(e) -/
theorem s_append (hv : VarOk X i x) (hρ : ∃ s ds, ρ[i]? = some s ∧ Sl.items s = some ds) (h : EX X W e ρ fun d ρ1 => ∃ s ds, ρ1[i]? = some s ∧ Sl.items s = some ds ∧ ds.length < sizeLine ∧ Φ (.nx (ρ1.set i (s.put (ds ++ [d])))))
    (hbase : attributeBase (.Name x p1) "append" X.env (eval (.Name x p1) X.env) = eval (.Name x p1) X.env := by rfl) (hline : (apos.endLine == p2.line) = true := by rfl) (hs : starEach [e] X.env = [(false, eval e X.env)] := by rfl)
    (hfew : ((backTo p2 (starEach [e] X.env)).all (fun x => !x.1) && (backToKw p2 (keywordEach [] X.env)).all (fun x => x.1.isSome) && decide (([e] : List Expr).length + ([] : List Keyword).length + (if ([] : List Keyword).isEmpty then 0 else 1) < 30)) = true := by rfl)
    (hw : swapsWith (.Call (.Attribute (.Name x p1) "append" apos) [e] [] p2) none pos.line X.env = pure false := by rfl) : S1 X W (.Expr (.Call (.Attribute (.Name x p1) "append" apos) [e] [] p2) pos) ρ Φ := fun F H σ E D q => by
  obtain ⟨s0, ds0, e0, i0⟩ := hρ
  obtain ⟨p, vs0, hp, _, hH0, _⟩ := D.at_slot e0 i0
  refine run_s (ps_expr (pe_bm PySem.F.plainAttrs_list PySem.F.slot_list_append PySem.F.type_list_append mt_append (pe_var hv.n hv.v hv.d hv.c) (pa_cons (peR e) pa_nil hs) hbase hfew hline hs rfl) hw) ⟨.ref p, hp, tyL hH0, h F H σ _ D fun v d F1 H1 ρ1 E1 s1 dn1 ⟨s, ds, hi, hq, hz, k1⟩ => ?_⟩
  obtain ⟨p', vs, hp', _, hH, dl⟩ := E1.at_slot hi hq
  rw [hp] at hp'
  injection hp' with hp'; injection hp' with hp'; injection hp' with hp'
  subst hp'
  have hm : s.mut := by cases s <;> first | trivial | cases hq
  exact ⟨p, vs, v, rfl, rfl, hH, by rw [dl.length]; exact hz, q.nx _ _ _ _ (E1.mut_slot hi hq hp (dl.snoc dn1)) (s1.trans (tr_mut hi hm (fun _ => hm) hp)) k1⟩
/-- x.insert(k, e) -/
theorem s_insert (hv : VarOk X i x) (hρ : ∃ s ds, ρ[i]? = some s ∧ Sl.items s = some ds) (h : EX X W a ρ fun dk ρ0 => EX X W e ρ0 fun d ρ1 => ∃ s ds k, dk = .int k ∧ ρ1[i]? = some s ∧ Sl.items s = some ds ∧ ds.length < sizeLine ∧ 0 ≤ k ∧ k < 2 ^ 63 ∧ Φ (.nx (ρ1.set i (s.put (ds.take k.toNat ++ [d] ++ ds.drop k.toNat)))))
    (hbase : attributeBase (.Name x p1) "insert" X.env (eval (.Name x p1) X.env) = eval (.Name x p1) X.env := by rfl) (hline : (apos.endLine == p2.line) = true := by rfl) (hs : starEach [a, e] X.env = (false, eval a X.env) :: starEach [e] X.env := by rfl) (hs2 : starEach [e] X.env = [(false, eval e X.env)] := by rfl)
    (hfew : ((backTo p2 (starEach [a, e] X.env)).all (fun x => !x.1) && (backToKw p2 (keywordEach [] X.env)).all (fun x => x.1.isSome) && decide (([a, e] : List Expr).length + ([] : List Keyword).length + (if ([] : List Keyword).isEmpty then 0 else 1) < 30)) = true := by rfl)
    (hpl : (backTo p2 (starEach [e] X.env)).any (·.1) = false := by rfl) (hw : swapsWith (.Call (.Attribute (.Name x p1) "insert" apos) [a, e] [] p2) none pos.line X.env = pure false := by rfl) : S1 X W (.Expr (.Call (.Attribute (.Name x p1) "insert" apos) [a, e] [] p2) pos) ρ Φ := fun F H σ E D q => by
  obtain ⟨s0, ds0, e0, i0⟩ := hρ
  obtain ⟨p, vs0, hp, _, hH0, _⟩ := D.at_slot e0 i0
  refine run_s (ps_expr (pe_bm PySem.F.plainAttrs_list PySem.F.slot_list_insert PySem.F.type_list_insert mt_insert (pe_var hv.n hv.v hv.d hv.c) (pa_cons (peR a) (pa_cons (peR e) pa_nil hs2) hs) hbase hfew hline hs hpl) hw) ⟨.ref p, hp, tyL hH0, h F H σ _ D fun vk dk F0 H0 ρ0 D0 s0' dn0 k0 => k0 F0 H0 σ _ D0 fun v d F1 H1 ρ1 E1 s1 dn1 ⟨s, ds, k, ek, hi, hq, hz, hk0, hk1, k1⟩ => ?_⟩
  subst ek
  cases dn0
  obtain ⟨p', vs, hp', _, hH, dl⟩ := E1.at_slot hi hq
  rw [hp] at hp'
  injection hp' with hp'; injection hp' with hp'; injection hp' with hp'
  subst hp'
  have hm : s.mut := by cases s <;> first | trivial | cases hq
  exact ⟨p, vs, k, v, rfl, rfl, hH, by rw [dl.length]; exact hz, hk0, hk1, q.nx _ _ _ _ (E1.mut_slot hi hq hp (((dl.take _).append (.cons dn1 .nil)).append (dl.drop _))) ((s0'.trans s1).trans (tr_mut hi hm (fun _ => hm) hp)) k1⟩
/-- x.pop(e) -/
theorem ex_popAt {Θ : D → Rho → Prop} (hv : VarOk X i x) (hρ : ∃ s ds, ρ[i]? = some s ∧ Sl.items s = some ds) (h : EX X W e ρ fun dk ρ1 => ∃ s ds k d, dk = .int ((k : Nat) : Int) ∧ ρ1[i]? = some s ∧ Sl.items s = some ds ∧ k < 2 ^ 62 ∧ ds[k]? = some d ∧ Θ d (ρ1.set i (s.put (ds.eraseIdx k))))
    (hbase : attributeBase (.Name x p1) "pop" X.env (eval (.Name x p1) X.env) = eval (.Name x p1) X.env := by rfl) (hline : (apos.endLine == p2.line) = true := by rfl) (hs : starEach [e] X.env = [(false, eval e X.env)] := by rfl)
    (hfew : ((backTo p2 (starEach [e] X.env)).all (fun x => !x.1) && (backToKw p2 (keywordEach [] X.env)).all (fun x => x.1.isSome) && decide (([e] : List Expr).length + ([] : List Keyword).length + (if ([] : List Keyword).isEmpty then 0 else 1) < 30)) = true := by rfl) :
    EX X W (.Call (.Attribute (.Name x p1) "pop" apos) [e] [] p2) ρ Θ := fun F H σ Q D q => by
  obtain ⟨s0, ds0, e0, i0⟩ := hρ
  obtain ⟨p, vs0, hp, _, hH0, _⟩ := D.at_slot e0 i0
  refine run_e (pe_bm PySem.F.plainAttrs_list PySem.F.slot_list_pop PySem.F.type_list_pop mt_popAt (pe_var hv.n hv.v hv.d hv.c) (pa_cons (peR e) pa_nil hs) hbase hfew hline hs rfl) ⟨.ref p, hp, tyL hH0, h F H σ _ D fun v dk F1 H1 ρ1 E1 s1 dn1 ⟨s, ds, k, d, ek, hi, hq, hz, hd, k1⟩ => ?_⟩
  subst ek
  cases dn1
  obtain ⟨p', vs, hp', _, hH, dl⟩ := E1.at_slot hi hq
  rw [hp] at hp'
  injection hp' with hp'; injection hp' with hp'; injection hp' with hp'
  subst hp'
  have hm : s.mut := by cases s <;> first | trivial | cases hq
  obtain ⟨y, hy, dy⟩ := dl.get hd
  have hl : k < vs.length := (List.getElem?_eq_some_iff.mp hy).1
  have hseq : seqIndex? ((k : Nat) : Int) vs.length = some k := (ixN_seq (n := vs.length) (by unfold ixN; rw [if_pos (by omega), if_pos (by omega)]; simp)).1
  exact ⟨p, vs, _, k, y, rfl, rfl, hH, by omega, by omega, hseq, hy, q y d _ _ _ (E1.mut_slot hi hq hp (dl.eraseIdx k)) (s1.trans (tr_mut hi hm (fun _ => hm) hp)) dy k1⟩
/-- x.pop() -/
theorem ex_pop0 {Θ : D → Rho → Prop} {s : Sl} {ds : List D} (hv : VarOk X i x) (hi : ρ[i]? = some s) (hq : s.items = some (ds ++ [d])) (h : Θ d (ρ.set i (s.put ds)))
    (hbase : attributeBase (.Name x p1) "pop" X.env (eval (.Name x p1) X.env) = eval (.Name x p1) X.env := by rfl) (hline : (apos.endLine == p2.line) = true := by rfl) : EX X W (.Call (.Attribute (.Name x p1) "pop" apos) [] [] p2) ρ Θ := fun F H σ Q D q => by
  obtain ⟨p, vs, hp, _, hH, dl⟩ := D.at_slot hi hq
  have hm : s.mut := by cases s <;> first | trivial | cases hq
  have hd : (ds ++ [d])[ds.length]? = some d := by simp
  obtain ⟨y, hy, dy⟩ := dl.get hd
  have hl := dl.length
  rw [List.length_append, List.length_singleton] at hl
  have dl2 := dl.dropLast
  rw [List.dropLast_concat] at dl2
  exact run_e (pe_bm0 PySem.F.plainAttrs_list PySem.F.slot_list_pop PySem.F.type_list_pop mt_pop (pe_var hv.n hv.v hv.d hv.c) hbase hline)
    ⟨.ref p, hp, tyL hH, p, vs, y, rfl, rfl, hH, by rw [hl, Nat.add_sub_cancel]; exact hy, q y d _ _ _ (D.mut_slot hi hq hp dl2) (tr_mut hi hm (fun _ => hm) hp) dy h⟩
end
end DL
set_option maxHeartbeats 2000000
/-! DL, part 7: what is walked; for; comprehensions. -/
namespace DL
open PySem PySem.Spec PyProof.Rows L2

/-- the walk J gives the data ds while what is frozen in F stands -/
structure WalkD (K : PySem.W.Frag) (J : It) (F : Hp) (ds : List D) : Prop where
  go : ∀ (i : Nat) (H : Hp), Same F H → i < ds.length → J.go i H
  stop : ∀ (H : Hp), Same F H → J.stop ds.length H
  yld : ∀ (i : Nat) (H : Hp) (x : V) (H' : Hp), Same F H → i < ds.length → J.yld i H x H' →
    (H' = H ∧ ∃ d, ds[i]? = some d ∧ Den K F x d) ∨ (∃ T ws es, x = .ref T ∧ H T = none ∧ H' = upd H T (.tup ws) ∧ ds[i]? = some (.tup es) ∧ DenL K F ws es)
theorem WalkD.turn {K : PySem.W.Frag} {W : Wd} {J : It} {F F1 H H' : Hp} {ds : List D} {σ : L2.St} {ρ : Rho} {i : Nat} {x : V} (w : WalkD K J F ds) (E : EnvD K W F1 H σ ρ) (s : Same F F1) (hi : i < ds.length) (y : J.yld i H x H') :
    ∃ F2 d, Stp F1 H F2 H' ∧ ds[i]? = some d ∧ Den K F2 x d := by
  rcases w.yld i H x H' (s.trans E.sub) hi y with ⟨e, d, hd, dn⟩ | ⟨T, ws, es, e1, e2, e3, e4, dn⟩
  · subst e
    exact ⟨F1, d, Stp.refl E.sub, hd, dn.mono s⟩
  · subst e1 e3
    exact ⟨_, _, Stp.newF E.sub e2, e4, .tup (SqT.of upd_same) ((dn.mono s).mono (Stp.newF E.sub e2).fs)⟩
def IX (X : Cx) (W : Wd) (tg iter : Expr) (ρ : Rho) (Φ : List D → Rho → Prop) : Prop := ∀ (F H : Hp) (σ : L2.St) (R : It → Hp → Prop), EnvD X.K W F H σ ρ →
  (∀ (J : It) (ds : List D) (F' H' : Hp) (ρ' : Rho), EnvD X.K W F' H' σ ρ' → Tr F H σ ρ F' H' σ ρ' → WalkD X.K J F' ds → Φ ds ρ' → R J H') → RunI X tg iter σ H R
section
variable {X : Cx} {W : Wd} {ρ : Rho} {Φ : Out → Prop} {Ψ : List D → Rho → Prop} {pos p1 p2 p3 apos : Pos} {i k : Nat} {x f : Str} {d : D} {a b c e tg iter elt : Expr} {es rest : List Expr} {st : Stmt} {sts u w body : List Stmt} {N : List Str} {sc : Scope}
theorem walk_l {K : PySem.W.Frag} {F : Hp} {p : Addr} {vs : List V} {ds : List D} (h : SqL K F p vs) (dl : DenL K F vs ds) : WalkD K (Itl K p) F ds where
  go := fun i H s hi => by
    obtain ⟨v, hv, _⟩ := dl.get (List.getElem?_eq_getElem hi)
    exact ⟨vs, v, sqL_mono s h, hv⟩
  stop := fun H s => ⟨vs, sqL_mono s h, by rw [dl.length]; exact Nat.le_refl _⟩
  yld := fun i H x H' s hi y => .inl ⟨y.1, dl.getV (y.2 vs (sqL_mono s h))⟩
theorem walk_t {K : PySem.W.Frag} {F : Hp} {p : Addr} {vs : List V} {ds : List D} (h : SqT K F p vs) (dl : DenL K F vs ds) : WalkD K (Itt K p) F ds where
  go := fun i H s hi => by
    obtain ⟨v, hv, _⟩ := dl.get (List.getElem?_eq_getElem hi)
    exact ⟨vs, v, sqT_mono s h, hv⟩
  stop := fun H s => ⟨vs, sqT_mono s h, by rw [dl.length]; exact Nat.le_refl _⟩
  yld := fun i H x H' s hi y => .inl ⟨y.1, dl.getV (y.2 vs (sqT_mono s h))⟩
theorem ix_list (h : EX X W e ρ fun d ρ1 => ∃ ds, (d = .lst ds ∨ d = .frz ds) ∧ Ψ ds ρ1) : IX X W tg e ρ Ψ := fun F H σ R D q =>
  run_i (pi_list (peR e)) (h F H σ _ D fun v d F' H' ρ' E' s dn ⟨ds, ed, k⟩ => by
    have key : ∃ p vs, v = .ref p ∧ SqL X.K F' p vs ∧ DenL X.K F' vs ds := by
      rcases ed with ed | ed
      · subst ed
        cases dn with
        | lst hv dl => exact ⟨_, _, rfl, SqL.of hv, dl⟩
      · subst ed
        cases dn with
        | frz hv dl => exact ⟨_, _, rfl, hv, dl⟩
    obtain ⟨p, vs, rfl, hv, dl⟩ := key
    exact ⟨p, rfl, ⟨vs, sqL_mono E'.sub hv⟩, q _ ds F' H' ρ' E' s (walk_l hv dl) k⟩)
theorem ix_tup (h : EX X W e ρ fun d ρ1 => ∃ ds, d = .tup ds ∧ Ψ ds ρ1) : IX X W tg e ρ Ψ := fun F H σ R D q =>
  run_i (pi_tup (peR e)) (h F H σ _ D fun v d F' H' ρ' E' s dn ⟨ds, ed, k⟩ => by
    subst ed
    cases dn with
    | tup hv dl => exact ⟨_, rfl, ⟨_, sqT_mono E'.sub hv⟩, q _ ds F' H' ρ' E' s (walk_t hv dl) k⟩)
/-- lo, lo + c, .. -/
def steps (lo c : Int) (n : Nat) : List D := (List.range n).map fun (j : Nat) => D.int (lo + (j : Int) * c)
theorem steps_get {lo c : Int} {n i : Nat} (h : i < n) : (steps lo c n)[i]? = some (.int (lo + (i : Int) * c)) := by
  unfold steps
  rw [List.getElem?_map, List.getElem?_range h]
  rfl
theorem steps_len {lo c : Int} {n : Nat} : (steps lo c n).length = n := by unfold steps; rw [List.length_map, List.length_range]
theorem walk_r {K : PySem.W.Frag} {F : Hp} {lo : Int} {n : Nat} : WalkD K (Itr lo n) F (steps lo 1 n) where
  go := fun i H s hi => by rw [steps_len] at hi; exact hi
  stop := fun H s => by rw [steps_len]; exact Nat.le_refl _
  yld := fun i H x H' s hi y => .inl ⟨y.1, _, by rw [steps_len] at hi; exact steps_get hi, by rw [y.2, Int.mul_one]; exact .int _⟩
theorem walk_rc {K : PySem.W.Frag} {F : Hp} {lo c : Int} {n : Nat} : WalkD K (Itc lo c n) F (steps lo c n) where
  go := fun i H s hi => by rw [steps_len] at hi; exact hi
  stop := fun H s => by rw [steps_len]; exact Nat.le_refl _
  yld := fun i H x H' s hi y => .inl ⟨y.1, _, by rw [steps_len] at hi; exact steps_get hi, by rw [y.2]; exact .int _⟩
/-- range(n), range(a, b) -/
theorem ix_range1 (B : BltOk X "range" (.type "range")) (h : EX X W a ρ fun d ρ1 => ∃ j, d = .int j ∧ -(2 ^ 62) ≤ j ∧ j < 2 ^ 62 ∧ Ψ (steps 0 1 j.toNat) ρ1) (hs : starEach [a] X.env = [(false, eval a X.env)] := by rfl) : IX X W tg (.Call (.Name "range" p1) [a] [] pos) ρ Ψ := fun F H σ R D q =>
  run_i (pi_range1 B.g.g B.m (paR [a]) hs) (runA1 (h F H σ _ D fun v d F' H' ρ' E' s dn ⟨j, ed, h1, h2, k⟩ => by
    subst ed
    cases dn
    exact ⟨j, rfl, h1, h2, q _ _ F' H' ρ' E' s walk_r k⟩) hs)
theorem ix_range2 (B : BltOk X "range" (.type "range")) (h : AX X W [a, b] ρ fun ds ρ1 => ∃ i j, ds = [.int i, .int j] ∧ (-(2 ^ 62) ≤ i ∧ i < 2 ^ 62 ∧ -(2 ^ 62) ≤ j ∧ j < 2 ^ 62) ∧ Ψ (steps i 1 (j - i).toNat) ρ1)
    (hs : starEach [a, b] X.env = [(false, eval a X.env), (false, eval b X.env)] := by rfl) (hs2 : starEach [b] X.env = [(false, eval b X.env)] := by rfl) : IX X W tg (.Call (.Name "range" p1) [a, b] [] pos) ρ Ψ := fun F H σ R D q =>
  run_i (pi_range2 B.g.g B.m (paR [a, b]) hs hs2) (h F H σ _ D fun vs ds F' H' ρ' E' s dn ⟨i, j, ed, h1, k⟩ => by
    subst ed
    cases dn with
    | cons g1 g2 => cases g1; cases g2 with | cons g3 g4 => cases g3; cases g4; exact ⟨i, j, rfl, h1, q _ _ F' H' ρ' E' s walk_r k⟩)
theorem ix_range3 (B : BltOk X "range" (.type "range")) (h : AX X W [a, b, c] ρ fun ds ρ1 => ∃ i j l n, ds = [.int i, .int j, .int l] ∧ RgC i j l n ∧ Ψ (steps i l n) ρ1)
    (hs : starEach [a, b, c] X.env = (false, eval a X.env) :: starEach [b, c] X.env := by rfl) (hpl : (backTo pos (starEach [b, c] X.env)).any (·.1) = false := by rfl) : IX X W tg (.Call (.Name "range" p1) [a, b, c] [] pos) ρ Ψ := fun F H σ R D q =>
  run_i (pi_range3 B.g.g B.m (paR [a, b, c]) hs hpl) (h F H σ _ D fun vs ds F' H' ρ' E' s dn ⟨i, j, l, n, ed, h1, k⟩ => by
    subst ed
    cases dn with
    | cons g1 g2 => cases g1; cases g2 with | cons g3 g4 => cases g3; cases g4 with | cons g5 g6 => cases g5; cases g6; exact ⟨i, j, l, n, rfl, h1, q _ _ F' H' ρ' E' s walk_rc k⟩)
theorem ix_enum {kk : Nat} (B : BltOk X "enumerate" (.type "enumerate")) (h : EX X W a ρ fun d ρ1 => ∃ ds, (d = .lst ds ∨ d = .frz ds) ∧ Ψ (ds.zipIdx.map fun p => D.tup [.int (p.2 : Int), p.1]) ρ1) (hs : starEach [a] X.env = [(false, eval a X.env)] := by rfl) :
    IX X W (.Tuple es kk p2) (.Call (.Name "enumerate" p1) [a] [] pos) ρ Ψ := fun F H σ R D q =>
  run_i (pi_enum B.g.g B.m (pa_cons (peR a) pa_nil hs) hs) (h F H σ _ D fun v d F' H' ρ' E' s dn ⟨ds, ed, k⟩ => by
    have key : ∃ p vs, v = .ref p ∧ SqL X.K F' p vs ∧ DenL X.K F' vs ds := by
      rcases ed with ed | ed
      · subst ed
        cases dn with
        | lst hv dl => exact ⟨_, _, rfl, SqL.of hv, dl⟩
      · subst ed
        cases dn with
        | frz hv dl => exact ⟨_, _, rfl, hv, dl⟩
    obtain ⟨p, vs, rfl, hv, dl⟩ := key
    refine ⟨p, vs, rfl, sqL_mono E'.sub hv, q _ _ F' H' ρ' E' s ?_ k⟩
    have wl : (ds.zipIdx.map fun p => DL.D.tup [.int (p.2 : Int), p.1]).length = vs.length := by rw [List.length_map, List.length_zipIdx, dl.length]
    have we := walk_enum (K := X.K) (a := p) (xs := vs)
    refine ⟨fun i H s2 hi => we.goes i H (by rw [wl] at hi; exact hi) (sqL_mono s2 hv), fun H s2 => by rw [wl]; exact we.stops H (sqL_mono s2 hv), fun i H x H' s2 hi y => ?_⟩
    obtain ⟨T, x1, y1, e1, e2, e3, e4, e5⟩ := we.yields i H x H' (by rw [wl] at hi; exact hi) (sqL_mono s2 hv) y
    obtain ⟨d, hd, dn⟩ := dl.getV e5
    cases e4
    exact .inr ⟨T, _, [.int (i : Int), d], e1, e2, e3, by rw [List.getElem?_map, List.getElem?_zipIdx, hd]; simp, .cons (.int _) (.cons dn .nil)⟩)

/-! ### for -/
/-- what a turn's body is to reach -/
def Turned (Jv : Nat → Rho → Prop) (i : Nat) (Φ : Out → Prop) : Out → Prop
  | .nx ρ' => Jv (i + 1) ρ' | .ct ρ' => Jv (i + 1) ρ' | .bk ρ' => Φ (.nx ρ') | o => Φ o
theorem s_for (C : Cxt X k N sc) (h : IX X W tg iter ρ fun ds ρ1 => ∃ Jv : Nat → Rho → Prop, Jv 0 ρ1 ∧ (∀ (i : Nat) d ρ', ds[i]? = some d → Jv i ρ' → GX X W tg d ρ' fun ρ2 => SX X W body ρ2 (Turned Jv i Φ)) ∧ (∀ ρ', Jv ds.length ρ' → Φ (.nx ρ')))
    (hs : ∀ x, foldedSetIterable iter X.env x = pure x := by intro _; rfl) : S1 X W (.For tg iter body [] pos) ρ Φ := fun F H σ E D q =>
  run_s (ps_for C.pass C.calm (piR tg iter) (pgR tg) (pssR body) hs) (h F H σ _ D fun J ds F1 H1 ρ1 E1 s1 wk ⟨Jv, h0, ht, hd⟩ => by
    refine ⟨fun i m σ' H' => m = ds.length - i ∧ i ≤ ds.length ∧ ∃ F' ρ', EnvD X.K W F' H' σ' ρ' ∧ Tr F1 H1 σ ρ1 F' H' σ' ρ' ∧ Jv i ρ', ⟨ds.length, by simp, Nat.zero_le _, F1, ρ1, E1, Tr.refl, h0⟩, ?_⟩
    rintro i m σ' H' ⟨rfl, hi, F', ρ', E', t', hv⟩
    by_cases hlt : i < ds.length
    · refine .inr ⟨wk.go i H' (t'.fs.trans E'.sub) hlt, fun σ2 H2 => ∃ F2 ρ2, EnvD X.K W F2 H2 σ2 ρ2 ∧ Tr F1 H1 σ ρ1 F2 H2 σ2 ρ2 ∧ Jv (i + 1) ρ2, fun σ2 H2 ⟨F2, ρ2, E2, t2, v2⟩ => ⟨ds.length - (i + 1), by omega, rfl, hlt, F2, ρ2, E2, t2, v2⟩, fun xv H2 y => ?_⟩
      obtain ⟨F2, d, st, hd2, dn⟩ := wk.turn E' t'.fs hlt y
      refine ht i d ρ' hd2 hv F2 H2 σ' xv _ (E'.step st) dn fun F3 H3 σ3 ρ3 E3 s3 k3 => ?_
      have t3 : Tr F1 H1 σ ρ1 F3 H3 σ3 ρ3 := (t'.trans st.tr).trans s3
      exact k3 F3 H3 σ3 _ E3 ⟨fun F4 H4 σ4 ρ4 E4 s4 k4 => ⟨F4, ρ4, E4, t3.trans s4, k4⟩, fun F4 H4 σ4 ρ4 v d E4 s4 dn k4 => q.rt F4 H4 σ4 ρ4 v d E4 (s1.trans (t3.trans s4)) dn k4,
        fun F4 H4 σ4 ρ4 p vs es E4 s4 a1 a2 a3 a4 a5 k4 => q.rl F4 H4 σ4 ρ4 p vs es E4 (s1.trans (t3.trans s4)) a1 a2 a3 a4 a5 k4, fun F4 H4 σ4 ρ4 E4 s4 k4 => q.nx F4 H4 σ4 ρ4 E4 (s1.trans (t3.trans s4)) k4, fun F4 H4 σ4 ρ4 E4 s4 k4 => ⟨F4, ρ4, E4, t3.trans s4, k4⟩⟩
    · have e : i = ds.length := by omega
      subst e
      exact .inl ⟨wk.stop H' (t'.fs.trans E'.sub), q.nx F' H' σ' ρ' E' (s1.trans t') (hd ρ' hv)⟩)

/-! ### while: a measure by the state -/
theorem s_while (C : Cxt X k N sc) (Jv : Nat → Rho → Prop) (m0 : Nat) (h0 : Jv m0 ρ) (h : ∀ m ρ', Jv m ρ' → TX X W c ρ' fun t ρ1 => (t = true → SX X W body ρ1 fun o => match o with | .nx ρ2 => ∃ m', m' < m ∧ Jv m' ρ2 | .ct ρ2 => ∃ m', m' < m ∧ Jv m' ρ2 | .bk ρ2 => Φ (.nx ρ2) | o => Φ o) ∧ (t = false → Φ (.nx ρ1))) :
    S1 X W (.While c body [] pos) ρ Φ := fun F H σ E D q =>
  run_s (ps_while C.pass (ptR c) (pssR body)) (by
    refine ⟨fun m σ' H' => ∃ F' ρ', EnvD X.K W F' H' σ' ρ' ∧ Tr F H σ ρ F' H' σ' ρ' ∧ Jv m ρ', ⟨m0, F, ρ, D, Tr.refl, h0⟩, ?_⟩
    rintro m σ' H' ⟨F', ρ', E', t', hv⟩
    refine h m ρ' hv F' H' σ' _ E' fun t F1 H1 ρ1 E1 s1 k1 => ?_
    cases t with
    | false => rw [if_neg Bool.false_ne_true]; exact q.nx _ _ _ _ E1 (t'.trans s1) (k1.2 rfl)
    | true =>
      rw [if_pos rfl]
      refine ⟨fun σ2 H2 => ∃ m', m' < m ∧ ∃ F2 ρ2, EnvD X.K W F2 H2 σ2 ρ2 ∧ Tr F H σ ρ F2 H2 σ2 ρ2 ∧ Jv m' ρ2, fun σ2 H2 z => z, ?_⟩
      have t1 := t'.trans s1
      exact k1.1 rfl F1 H1 σ' _ E1 ⟨fun F4 H4 σ4 ρ4 E4 s4 ⟨m', hm, k4⟩ => ⟨m', hm, F4, ρ4, E4, t1.trans s4, k4⟩, fun F4 H4 σ4 ρ4 v d E4 s4 dn k4 => q.rt F4 H4 σ4 ρ4 v d E4 (t1.trans s4) dn k4,
        fun F4 H4 σ4 ρ4 p vs es E4 s4 a1 a2 a3 a4 a5 k4 => q.rl F4 H4 σ4 ρ4 p vs es E4 (t1.trans s4) a1 a2 a3 a4 a5 k4, fun F4 H4 σ4 ρ4 E4 s4 k4 => q.nx F4 H4 σ4 ρ4 E4 (t1.trans s4) k4, fun F4 H4 σ4 ρ4 E4 s4 ⟨m', hm, k4⟩ => ⟨m', hm, F4, ρ4, E4, t1.trans s4, k4⟩⟩)
end

/-! ### comprehensions -/
/-- X' is the context of a comprehension's block in X -/
def IsBlk (X X' : Cx) (scope : Scope) : Prop := ∃ (s : Shared) (H : Hp) (C : Addr) (cl : List (Str × Addr)) (fp : List Addr), X' = X.blk s H scope (compEnvC scope cl C X.env) fp
def blkScope (scope sc : Scope) : Scope := relS scope sc
theorem IsBlk.cxt {X X' : Cx} {scope : Scope} {k : Nat} {N : List Str} {sc : Scope} (b : IsBlk X X' scope) (C : Cxt X k N sc) : Cxt X' k N (blkScope scope sc) := by
  obtain ⟨s, H, c, cl, fp, rfl⟩ := b
  refine ⟨C.n, ?_, C.nd, C.calm, PassesOwn.never, C.room⟩
  rw [← C.s]
  rfl
theorem IsBlk.loc {X X' : Cx} {scope : Scope} {k : Nat} {N : List Str} {sc : Scope} (b : IsBlk X X' scope) (C : Cxt X k N sc) {i : Nat} {x : Str} (hx : N[i]? = some x) (hl : (blkScope scope sc).names.lookup x = some .local) : LocOk X' i x := by
  have C' := b.cxt C
  exact ⟨by rw [C'.n]; exact hx, .inl (by rw [C'.s]; exact hl), .inr (by rw [C'.s]; exact hl)⟩
theorem IsBlk.mg {X X' : Cx} {scope : Scope} (b : IsBlk X X' scope) : X'.mg = X.mg := by
  obtain ⟨s, H, c, cl, fp, rfl⟩ := b
  rfl
/-- the slots of a block's own names -/
def wipeR (ρ : Rho) : List Nat → Rho
  | [] => ρ
  | v :: vs => (wipeR ρ vs).set v .no
def unwipe (ρ0 ρ : Rho) : List Nat → Rho
  | [] => ρ
  | v :: vs => (unwipe ρ0 ρ vs).set v (ρ0.getD v .no)
section
variable {K : PySem.W.Frag} {W : Wd} {F H F1 H1 : Hp} {σ τ : L2.St} {ρ ρ' ρ1 : Rho}
theorem EnvD.forget (E : EnvD K W F H σ ρ) (i : Nat) : EnvD K W F H (σ.set i none) (ρ.set i .no) where
  sub := E.sub
  f0 := E.f0
  new := E.new
  keep := E.keep
  live := E.live
  len := by rw [List.length_set, List.length_set]; exact E.len
  sl := fun j s h => by
    by_cases hj : i = j
    · subst hj
      have hl : i < (ρ.set i .no).length := (List.getElem?_eq_some_iff.mp h).1
      rw [List.length_set] at hl
      rw [List.getElem?_set_self hl] at h
      cases h
      trivial
    · rw [List.getElem?_set_ne hj] at h ⊢
      exact E.sl j s h
  dis := fun j k s t p h1 h2 m1 m2 e1 e2 => by
    have key : ∀ {j : Nat} {s : Sl}, (ρ.set i .no)[j]? = some s → s.mut → i ≠ j ∧ ρ[j]? = some s := fun {j s} h m => by
      by_cases hj : i = j
      · subst hj
        have hl : i < (ρ.set i .no).length := (List.getElem?_eq_some_iff.mp h).1
        rw [List.length_set] at hl
        rw [List.getElem?_set_self hl] at h
        cases h
        exact m.elim
      · rw [List.getElem?_set_ne hj] at h
        exact ⟨hj, h⟩
    obtain ⟨n1, g1⟩ := key h1 m1
    obtain ⟨n2, g2⟩ := key h2 m2
    rw [List.getElem?_set_ne n1] at e1
    rw [List.getElem?_set_ne n2] at e2
    exact E.dis j k s t p g1 g2 m1 m2 e1 e2
theorem EnvD.wipe (E : EnvD K W F H σ ρ) : ∀ vs : List Nat, EnvD K W F H (wipe σ vs) (wipeR ρ vs)
  | [] => E
  | v :: vs => (E.wipe vs).forget v
theorem tr_forget (i : Nat) : Tr F H σ ρ F H (σ.set i none) (ρ.set i .no) := ⟨Same.refl _, fun a o h k => ⟨h, fun j s hj hm e => by
  by_cases hij : i = j
  · subst hij
    have hl : i < (ρ.set i .no).length := (List.getElem?_eq_some_iff.mp hj).1
    rw [List.length_set] at hl
    rw [List.getElem?_set_self hl] at hj
    cases hj
    exact hm
  · rw [List.getElem?_set_ne hij] at hj e
    exact k j s hj hm e⟩, fun _ h => h, fun _ _ h _ => h⟩
theorem tr_wipe : ∀ vs : List Nat, Tr F H σ ρ F H (wipe σ vs) (wipeR ρ vs)
  | [] => Tr.refl
  | v :: vs => (tr_wipe vs).trans (tr_forget v)
/-- a name of the block is given back -/
theorem EnvD.restore {i : Nat} {s : Sl} (E : EnvD K W F H (τ.set i none) ρ) (hm : ¬ s.mut) (hs : SlOk K W F H τ[i]? s) : EnvD K W F H τ (ρ.set i s) where
  sub := E.sub
  f0 := E.f0
  new := E.new
  keep := E.keep
  live := E.live
  len := by
    have h := E.len
    rw [List.length_set] at h ⊢
    exact h
  sl := fun j t h => by
    by_cases hj : i = j
    · subst hj
      have hl : i < (ρ.set i s).length := (List.getElem?_eq_some_iff.mp h).1
      rw [List.length_set] at hl
      rw [List.getElem?_set_self hl] at h
      cases h
      exact hs
    · rw [List.getElem?_set_ne hj] at h
      have := E.sl j t h
      rw [List.getElem?_set_ne hj] at this
      exact this
  dis := fun j k s' t p h1 h2 m1 m2 e1 e2 => by
    have key : ∀ {j : Nat} {t : Sl}, (ρ.set i s)[j]? = some t → t.mut → i ≠ j ∧ ρ[j]? = some t := fun {j t} h m => by
      by_cases hj : i = j
      · subst hj
        have hl : i < (ρ.set i s).length := (List.getElem?_eq_some_iff.mp h).1
        rw [List.length_set] at hl
        rw [List.getElem?_set_self hl] at h
        cases h
        exact absurd m hm
      · rw [List.getElem?_set_ne hj] at h
        exact ⟨hj, h⟩
    obtain ⟨n1, g1⟩ := key h1 m1
    obtain ⟨n2, g2⟩ := key h2 m2
    exact E.dis j k s' t p g1 g2 m1 m2 (by rw [List.getElem?_set_ne n1]; exact e1) (by rw [List.getElem?_set_ne n2]; exact e2)
theorem wipe_get {σ : L2.St} {i : Nat} : ∀ {vs : List Nat}, i ∉ vs → (L2.wipe σ vs)[i]? = σ[i]?
  | [], _ => rfl
  | v :: vs, h => by
    rw [List.mem_cons, not_or] at h
    show ((L2.wipe σ vs).set v none)[i]? = _
    rw [List.getElem?_set_ne (fun z => h.1 z.symm)]
    exact wipe_get h.2
theorem SlOk.calm {s : Option (Option V)} {x : Sl} (h : SlOk K W F1 H1 s x) (hm : ¬ x.mut) (e : Same F1 F) : SlOk K W F H s x := by
  cases x with
  | no => trivial
  | val d => obtain ⟨v, e1, h1⟩ := h; exact ⟨v, e1, h1.mono e⟩
  | own ds => exact absurd trivial hm
  | ino p ds => exact absurd trivial hm
theorem EnvD.unwipe (E1 : EnvD K W F1 H1 σ ρ1) (e : Same F1 F) : ∀ (vs : List Nat), vs.Nodup → (∀ v ∈ vs, ¬ (ρ1.getD v .no).mut) → ∀ {ρ : Rho}, EnvD K W F H (L2.wipe σ vs) ρ → EnvD K W F H σ (unwipe ρ1 ρ vs)
  | [], _, _, _, E => E
  | v :: vs, nd, hm, ρ, E => by
    rw [List.nodup_cons] at nd
    have hv := hm v List.mem_cons_self
    have hs : SlOk K W F H (L2.wipe σ vs)[v]? (ρ1.getD v .no) := by
      rw [wipe_get nd.1]
      cases h : ρ1[v]? with
      | none => rw [List.getD_eq_getElem?_getD, h]; trivial
      | some s =>
        rw [List.getD_eq_getElem?_getD, h] at hv ⊢
        exact (E1.sl v s h).calm hv e
    have E2 : EnvD K W F H (L2.wipe σ vs) (ρ.set v (ρ1.getD v .no)) := EnvD.restore E hv hs
    have E3 := EnvD.unwipe E1 e vs nd.2 (fun u hu => hm u (List.mem_cons_of_mem _ hu)) E2
    show EnvD K W F H σ ((DL.unwipe ρ1 ρ vs).set v (ρ1.getD v .no))
    have comm : ∀ (us : List Nat), v ∉ us → DL.unwipe ρ1 (ρ.set v (ρ1.getD v .no)) us = (DL.unwipe ρ1 ρ us).set v (ρ1.getD v .no) := by
      intro us
      induction us with
      | nil => intro _; rfl
      | cons u us ih =>
        intro hu
        rw [List.mem_cons, not_or] at hu
        show (DL.unwipe ρ1 (ρ.set v _) us).set u _ = ((DL.unwipe ρ1 ρ us).set u _).set v _
        rw [ih hu.2, List.set_comm _ _ hu.1]
    rw [← comm vs nd.1]
    exact E3
end
end DL
set_option maxHeartbeats 2000000
/-! DL, part 8: comprehensions. -/
namespace DL
open PySem PySem.Spec PyProof.Rows L2

theorem wipe_set_ne {σ : L2.St} {i : Nat} {x : Option V} : ∀ {vs : List Nat}, i ∉ vs → L2.wipe (σ.set i x) vs = (L2.wipe σ vs).set i x
  | [], _ => rfl
  | v :: vs, h => by
    rw [List.mem_cons, not_or] at h
    show (L2.wipe (σ.set i x) vs).set v none = ((L2.wipe σ vs).set v none).set i x
    rw [wipe_set_ne h.2, List.set_comm _ _ h.1]
theorem wipe_set {σ : L2.St} {i : Nat} {x : Option V} : ∀ {vs : List Nat}, i ∈ vs → L2.wipe (σ.set i x) vs = L2.wipe σ vs
  | v :: vs, h => by
    show (L2.wipe (σ.set i x) vs).set v none = (L2.wipe σ vs).set v none
    by_cases hi : i ∈ vs
    · rw [wipe_set hi]
    · have e : i = v := by
        rcases List.mem_cons.mp h with h | h
        · exact h
        · exact absurd h hi
      subst e
      rw [wipe_set_ne hi, List.set_set]
theorem wipe_fix {σ : L2.St} {u : Nat} : ∀ {us : List Nat}, u ∈ us → (L2.wipe σ us).set u none = L2.wipe σ us
  | u' :: us, h => by
    show ((L2.wipe σ us).set u' none).set u none = (L2.wipe σ us).set u' none
    by_cases e : u = u'
    · rw [e, List.set_set]
    · rw [List.set_comm _ _ (Ne.symm e), wipe_fix (by rcases List.mem_cons.mp h with h | h; exact absurd h e; exact h)]
theorem wipe_idem {σ : L2.St} {vs : List Nat} : L2.wipe (L2.wipe σ vs) vs = L2.wipe σ vs := by
  have gen : ∀ (us : List Nat), (∀ u ∈ us, u ∈ vs) → L2.wipe (L2.wipe σ vs) us = L2.wipe σ vs := by
    intro us
    induction us with
    | nil => intro _; rfl
    | cons u us ih =>
      intro h
      show (L2.wipe (L2.wipe σ vs) us).set u none = _
      rw [ih fun u' hu' => h u' (List.mem_cons_of_mem _ hu'), wipe_fix (h u List.mem_cons_self)]
  exact gen vs fun _ h => h
theorem unwipe_out {ρ1 ρ : Rho} {j : Nat} : ∀ {vs : List Nat}, j ∉ vs → (unwipe ρ1 ρ vs)[j]? = ρ[j]?
  | [], _ => rfl
  | v :: vs, h => by
    rw [List.mem_cons, not_or] at h
    show ((unwipe ρ1 ρ vs).set v _)[j]? = _
    rw [List.getElem?_set_ne (fun z => h.1 z.symm)]
    exact unwipe_out h.2
theorem unwipe_in {ρ1 ρ : Rho} {j : Nat} {s : Sl} : ∀ {vs : List Nat}, j ∈ vs → (unwipe ρ1 ρ vs)[j]? = some s → s = ρ1.getD j .no
  | v :: vs, h, e => by
    have e : ((unwipe ρ1 ρ vs).set v (ρ1.getD v .no))[j]? = some s := e
    by_cases hv : v = j
    · subst hv
      have hl : v < ((unwipe ρ1 ρ vs).set v (ρ1.getD v .no)).length := (List.getElem?_eq_some_iff.mp e).1
      rw [List.length_set] at hl
      rw [List.getElem?_set_self hl] at e
      cases e
      rfl
    · rw [List.getElem?_set_ne hv] at e
      exact unwipe_in (by rcases List.mem_cons.mp h with h | h; exact absurd h.symm hv; exact h) e
theorem off_unwipe {σ : L2.St} {ρ1 ρ : Rho} {vs : List Nat} {a : Addr} (hm : ∀ v ∈ vs, ¬ (ρ1.getD v .no).mut) (h : Off (L2.wipe σ vs) ρ a) : Off σ (unwipe ρ1 ρ vs) a := fun j s hj ht e => by
  by_cases hv : j ∈ vs
  · rw [unwipe_in hv hj] at ht
    exact hm j hv ht
  · rw [unwipe_out hv] at hj
    exact h j s hj ht (by rw [wipe_get hv]; exact e)
/-- a target within a block whose own slots are vs -/
def GC (X : Cx) (W : Wd) (vs : List Nat) (tg : Expr) (d : D) (ρ : Rho) (Θ : Rho → Prop) : Prop := ∀ (F H : Hp) (σ : L2.St) (v : V) (Q : L2.St → Hp → Prop), EnvD X.K W F H σ ρ → Den X.K F v d →
  (∀ (F' H' : Hp) (σ' : L2.St) (ρ' : Rho), EnvD X.K W F' H' σ' ρ' → Tr F H σ ρ F' H' σ' ρ' → L2.wipe σ' vs = L2.wipe σ vs → Θ ρ' → Q σ' H') → RunG X tg v σ H Q
def GCs (X : Cx) (W : Wd) (vs : List Nat) (ts : List Expr) (ds : List D) (ρ : Rho) (Θ : Rho → Prop) : Prop := ∀ (F H : Hp) (σ : L2.St) (us : List V) (Q : L2.St → Hp → Prop), EnvD X.K W F H σ ρ → DenL X.K F us ds →
  (∀ (F' H' : Hp) (σ' : L2.St) (ρ' : Rho), EnvD X.K W F' H' σ' ρ' → Tr F H σ ρ F' H' σ' ρ' → L2.wipe σ' vs = L2.wipe σ vs → Θ ρ' → Q σ' H') → RunGs X ts us σ H Q
section
variable {X : Cx} {W : Wd} {ρ : Rho} {Θ : Rho → Prop} {vs : List Nat} {pos : Pos} {i k : Nat} {x : Str} {d : D} {ds : List D} {e : Expr} {es : List Expr} {N : List Str} {sc : Scope}
theorem gc_name (C : Cxt X k N sc) (hv : LocOk X i x) (hi : i ∈ vs) (h : Θ (ρ.set i (.val d))) : GC X W vs (.Name x pos) d ρ Θ := fun F H σ v Q D dn q =>
  run_g (pg_name C.nd hv.n hv.l hv.f) (q _ _ _ _ (D.set dn) tr_set (wipe_set hi) h)
theorem gcs_nil (h : Θ ρ) : GCs X W vs [] [] ρ Θ := fun F H σ us Q D dn q => run_gs pgs_nil ⟨by cases dn; rfl, q _ _ _ _ D Tr.refl rfl h⟩
theorem gcs_cons (h : GC X W vs e d ρ fun ρ1 => GCs X W vs es ds ρ1 Θ) (hs : (assignEach (e :: es) X.env).map (·.2) = assign e X.env :: (assignEach es X.env).map (·.2) := by rfl) : GCs X W vs (e :: es) (d :: ds) ρ Θ := fun F H σ us Q D dn q => by
  cases dn with
  | cons h1 h2 => exact run_gs (pgs_cons (pgR e) (pgsR es) hs) ⟨_, _, rfl, h F H σ _ _ D h1 fun F' H' σ' ρ' D' s w k => k F' H' σ' _ _ D' (h2.mono s.fs) fun F2 H2 σ2 ρ2 D2 s2 w2 k2 => q F2 H2 σ2 ρ2 D2 (s.trans s2) (w2.trans w) k2⟩
theorem gc_tup {kk : Nat} (hc : X.calm = true) (h : GCs X W vs es ds ρ Θ) (hl : ds.length = es.length) (hn : (assignEach es X.env).length = es.length := by rfl) (hst : (assignEach es X.env).findIdx? (·.1) = none := by rfl) : GC X W vs (.Tuple es kk pos) (.tup ds) ρ Θ := fun F H σ v Q D dn q => by
  cases dn with
  | tup h1 h2 => exact run_g (pg_tup hc (pgsR es) hn hst) ⟨_, _, rfl, sqT_mono D.sub h1, by rw [h2.length]; exact hl, h F H σ _ _ D h2 q⟩
end
/-- the tests of a comprehension: none or one -/
def TsX (X : Cx) (W : Wd) (ifs : List Expr) (ρ : Rho) (Θ : Bool → Rho → Prop) : Prop := match ifs with
  | [] => Θ true ρ
  | [c] => TX X W c ρ Θ
  | _ => False
def tTs (X : Cx) (scope : Scope) (ifs : List Expr) : TT := match ifs with
  | [] => tYes
  | [c] => fun σ H Q => ∀ X', IsBlk X X' scope → RunT X' c σ H Q
  | _ => fun _ _ _ => False
theorem yes_of {X : Cx} {scope : Scope} {σ : L2.St} {H : Hp} {Q : Bool → Hp → Prop} (h : Q true H) : tTs X scope [] σ H Q := h
theorem pts_R {X X' : Cx} {scope : Scope} (b : IsBlk X X' scope) (ifs : List Expr) : PTs X' ifs (tTs X scope ifs) := by
  match ifs with
  | [] => exact pts_nil
  | [c] => exact pts_one ⟨fun pins s _ _ _ I h => h X' b pins s I⟩
  | _ :: _ :: _ => exact ⟨fun _ _ _ _ _ _ h => h.elim⟩
/-- the new list of a comprehension gets an item -/
theorem EnvD.updOff {K : PySem.W.Frag} {W : Wd} {F H : Hp} {σ : L2.St} {ρ : Rho} {p : Addr} {o : HO} (E : EnvD K W F H σ ρ) (hF : F p = none) (h0 : W.H0 p = none) (ho : Off σ ρ p) : EnvD K W F (upd H p o) σ ρ where
  sub := fun a u e => by rw [upd_ne (fun z : a = p => by rw [z, hF] at e; cases e)]; exact E.sub a u e
  f0 := E.f0
  new := E.new
  keep := fun a u e m => by rw [upd_ne (fun z : a = p => by rw [z, h0] at e; cases e)]; exact E.keep a u e m
  live := fun a h => by
    by_cases z : a = p
    · rw [z, upd_same]; simp
    · rw [upd_ne z]; exact E.live a h
  len := E.len
  sl := fun j s h => by
    have hs := E.sl j s h
    cases s with
    | no => trivial
    | val d => exact hs
    | own ds =>
      obtain ⟨r, us, e, g1, g2, g3, g4⟩ := hs
      have hr : r ≠ p := fun z => ho j _ h trivial (by rw [e, z])
      exact ⟨r, us, e, g1, g2, by rw [upd_ne hr]; exact g3, g4⟩
    | ino r ds =>
      obtain ⟨us, e, g1, g2, g3, g4⟩ := hs
      have hr : r ≠ p := fun z => ho j _ h trivial (by rw [e, z])
      exact ⟨us, e, g1, g2, by rw [upd_ne hr]; exact g3, g4⟩
  dis := E.dis
theorem Tr.updNew {F H F' H' : Hp} {σ σ' : L2.St} {ρ ρ' : Rho} {p : Addr} {o : HO} (t : Tr F H σ ρ F' H' σ' ρ') (hp : H p = none) : Tr F H σ ρ F' (upd H' p o) σ' ρ' := ⟨t.fs, fun a u h k => by
  have hap : a ≠ p := fun z => by rw [z, hp] at h; cases h
  obtain ⟨h1, k1⟩ := t.kp a u h k
  exact ⟨by rw [upd_ne hap]; exact h1, k1⟩, fun a h => by
  by_cases z : a = p
  · rw [z, upd_same]; simp
  · rw [upd_ne z]; exact t.lv a h, t.nf⟩
section
variable {X : Cx} {W : Wd} {ρ : Rho} {Ψ : List D → Rho → Prop} {pos : Pos} {i j k : Nat} {x : Str} {tg iter elt c : Expr} {ifs : List Expr} {N : List Str} {sc scope : Scope} {own : List (Str × Nat)}
theorem lc_read (C : Cxt X k N sc) (ok : BlkOk X.N X.env.scope scope own) (hnd : (own.map (·.2)).Nodup)
    (h : IX X W tg iter ρ fun ds ρ1 => (∀ v ∈ own.map (·.2), ¬ (ρ1.getD v .no).mut) ∧ ∃ Jv : Nat → List D → Rho → Prop, Jv 0 [] (wipeR ρ1 (own.map (·.2))) ∧
      (∀ (i : Nat) d acc ρ', ds[i]? = some d → Jv i acc ρ' → ∀ X1, IsBlk X X1 scope → GC X1 W (own.map (·.2)) tg d ρ' fun ρ2 => ∀ X2, IsBlk X X2 scope → TsX X2 W ifs ρ2 fun t ρ3 =>
        (t = true → ∀ X3, IsBlk X X3 scope → EX X3 W elt ρ3 fun e ρ4 => acc.length < sizeLine ∧ Jv (i + 1) (acc ++ [e]) (wipeR ρ4 (own.map (·.2)))) ∧ (t = false → Jv (i + 1) acc (wipeR ρ3 (own.map (·.2))))) ∧
      (∀ acc ρ', Jv ds.length acc ρ' → Ψ acc (unwipe ρ1 ρ' (own.map (·.2))))) {F H : Hp} {σ : L2.St} {Q : VK} (D0 : EnvD X.K W F H σ ρ)
    (q : ∀ (p : Addr) (vs : List V) (ds : List D) (F' H' : Hp) (ρ' : Rho), EnvD X.K W F' H' σ ρ' → Tr F H σ ρ F' H' σ ρ' → F' p = none → W.H0 p = none → H p = none → H' p = some (.lst vs) → DenL X.K F' vs ds → Off σ ρ' p → Ψ ds ρ' → Q (.ref p) H') :
    tLc (RunI X tg iter) (fun v σ H Q => ∀ X', IsBlk X X' scope → RunG X' tg v σ H Q) (tTs X scope ifs) (fun σ H Q => ∀ X', IsBlk X X' scope → RunE X' elt σ H Q) (own.map (·.2)) σ H Q := by
  generalize hw : own.map (·.2) = ws at *
  refine h F H σ _ D0 fun J ds F1 H1 ρ1 E1 s1 wk ⟨hm, Jv, h0, ht, hd⟩ L hL => ?_
  have Ew := E1.wipe ws
  have L0 : W.H0 L = none := h0_none E1 hL
  refine ⟨fun i m H' => m = ds.length - i ∧ i ≤ ds.length ∧ ∃ F' ρ' us acc, EnvD X.K W F' H' (L2.wipe σ ws) ρ' ∧ Tr F1 H1 (L2.wipe σ ws) (wipeR ρ1 ws) F' H' (L2.wipe σ ws) ρ' ∧ F' L = none ∧ Off (L2.wipe σ ws) ρ' L ∧ H' L = some (.lst us) ∧ DenL X.K F' us acc ∧ Jv i acc ρ',
    ⟨ds.length, by simp, Nat.zero_le _, F1, wipeR ρ1 ws, [], [], Ew.step (Stp.newO Ew.sub hL), (Stp.newO Ew.sub hL).tr, E1.none_f hL, off_of Ew hL, upd_same, .nil, h0⟩, ?_⟩
  rintro i m H' ⟨rfl, hi, F', ρ', us, acc, E', t', hF, ho, hL', dl, hv⟩
  by_cases hlt : i < ds.length
  · refine .inr ⟨wk.go i H' (t'.fs.trans E'.sub) hlt, fun H2 => i + 1 ≤ ds.length ∧ ∃ F' ρ' us acc, EnvD X.K W F' H2 (L2.wipe σ ws) ρ' ∧ Tr F1 H1 (L2.wipe σ ws) (wipeR ρ1 ws) F' H2 (L2.wipe σ ws) ρ' ∧ F' L = none ∧ Off (L2.wipe σ ws) ρ' L ∧ H2 L = some (.lst us) ∧ DenL X.K F' us acc ∧ Jv (i + 1) acc ρ',
      fun H2 z => ⟨_, by omega, rfl, z⟩, fun xv H2 y => ?_⟩
    obtain ⟨F2, d, st, hd2, dn⟩ := wk.turn E' t'.fs hlt y
    intro X1 b1
    have K1 : X1.K = X.K := by obtain ⟨_, _, _, _, _, rfl⟩ := b1; rfl
    have g := ht i d acc ρ' hd2 hv X1 b1 F2 H2 (L2.wipe σ ws) xv
    rw [K1] at g
    refine g _ (E'.step st) dn fun F3 H3 σ3 ρ3 E3 s3 hw3 k3 => ⟨hw3.trans ?_, ?_⟩
    · exact wipe_idem
    · have kL : ∀ {F4 H4 : Hp} {τ : L2.St} {ρ4 : Rho}, Tr F' H' (L2.wipe σ ws) ρ' F4 H4 τ ρ4 → H4 L = some (.lst us) ∧ Off τ ρ4 L := fun t => t.kp L _ hL' ho
      have nF : ∀ {F4 H4 : Hp} {τ : L2.St} {ρ4 : Rho}, Tr F' H' (L2.wipe σ ws) ρ' F4 H4 τ ρ4 → F4 L = none := fun t => t.nf L (by rw [hL']; simp) hF ho
      have t3 := st.tr.trans s3
      have back : ∀ {F4 H4 : Hp} {ρ4 : Rho}, EnvD X.K W F4 H4 σ3 ρ4 → EnvD X.K W F4 H4 (L2.wipe σ ws) (wipeR ρ4 ws) := fun E4 => by
        have E5 := E4.wipe ws
        rw [hw3, wipe_idem] at E5
        exact E5
      have tback : ∀ {F4 H4 : Hp} {ρ4 : Rho}, Tr F1 H1 (L2.wipe σ ws) (wipeR ρ1 ws) F4 H4 σ3 ρ4 → Tr F1 H1 (L2.wipe σ ws) (wipeR ρ1 ws) F4 H4 (L2.wipe σ ws) (wipeR ρ4 ws) := fun t => by
        have t5 := t.trans (tr_wipe ws)
        rw [hw3, wipe_idem] at t5
        exact t5
      have fin0 : ∀ {F4 H4 : Hp} {ρ4 : Rho}, EnvD X.K W F4 H4 σ3 ρ4 → Tr F' H' (L2.wipe σ ws) ρ' F4 H4 σ3 ρ4 → Jv (i + 1) acc (wipeR ρ4 ws) → i + 1 ≤ ds.length ∧ ∃ F' ρ' us acc, EnvD X.K W F' H4 (L2.wipe σ ws) ρ' ∧ Tr F1 H1 (L2.wipe σ ws) (wipeR ρ1 ws) F' H4 (L2.wipe σ ws) ρ' ∧ F' L = none ∧ Off (L2.wipe σ ws) ρ' L ∧ H4 L = some (.lst us) ∧ DenL X.K F' us acc ∧ Jv (i + 1) acc ρ' := fun {F4 H4 ρ4} E4 t4 j4 => by
        have tt := t4.trans (tr_wipe ws)
        rw [hw3, wipe_idem] at tt
        exact ⟨hlt, F4, _, us, acc, back E4, tback (t'.trans t4), nF t4, (kL tt).2, (kL t4).1, dl.mono t4.fs, j4⟩
      have fin1 : ∀ {F4 H4 : Hp} {ρ4 : Rho} {y : V} {e : D}, EnvD X.K W F4 H4 σ3 ρ4 → Tr F' H' (L2.wipe σ ws) ρ' F4 H4 σ3 ρ4 → Den X.K F4 y e → acc.length < sizeLine → Jv (i + 1) (acc ++ [e]) (wipeR ρ4 ws) →
          ∃ acc', H4 L = some (.lst acc') ∧ acc'.length < sizeLine ∧ (i + 1 ≤ ds.length ∧ ∃ F' ρ' us acc, EnvD X.K W F' (upd H4 L (.lst (acc' ++ [y]))) (L2.wipe σ ws) ρ' ∧ Tr F1 H1 (L2.wipe σ ws) (wipeR ρ1 ws) F' (upd H4 L (.lst (acc' ++ [y]))) (L2.wipe σ ws) ρ' ∧ F' L = none ∧ Off (L2.wipe σ ws) ρ' L ∧
            (upd H4 L (.lst (acc' ++ [y]))) L = some (.lst us) ∧ DenL X.K F' us acc ∧ Jv (i + 1) acc ρ') := fun {F4 H4 ρ4 y e} E4 t4 dn hz j4 => by
        have tt := t4.trans (tr_wipe ws)
        rw [hw3, wipe_idem] at tt
        exact ⟨us, (kL t4).1, by rw [dl.length]; exact hz, hlt, F4, _, us ++ [y], acc ++ [e], (back E4).updOff (nF t4) L0 (kL tt).2, (tback (t'.trans t4)).updNew hL, nF t4, (kL tt).2, upd_same, (dl.mono t4.fs).snoc dn, j4⟩
      have elts : ∀ {F4 H4 : Hp} {ρ4 : Rho}, EnvD X.K W F4 H4 σ3 ρ4 → Tr F' H' (L2.wipe σ ws) ρ' F4 H4 σ3 ρ4 → (∀ X3, IsBlk X X3 scope → EX X3 W elt ρ4 fun e ρ4 => acc.length < sizeLine ∧ Jv (i + 1) (acc ++ [e]) (wipeR ρ4 ws)) →
          ∀ X', IsBlk X X' scope → RunE X' elt σ3 H4 fun y H4 => ∃ acc', H4 L = some (.lst acc') ∧ acc'.length < sizeLine ∧ (i + 1 ≤ ds.length ∧ ∃ F' ρ' us acc, EnvD X.K W F' (upd H4 L (.lst (acc' ++ [y]))) (L2.wipe σ ws) ρ' ∧ Tr F1 H1 (L2.wipe σ ws) (wipeR ρ1 ws) F' (upd H4 L (.lst (acc' ++ [y]))) (L2.wipe σ ws) ρ' ∧ F' L = none ∧ Off (L2.wipe σ ws) ρ' L ∧
            (upd H4 L (.lst (acc' ++ [y]))) L = some (.lst us) ∧ DenL X.K F' us acc ∧ Jv (i + 1) acc ρ') := fun {F4 H4 ρ4} E4 t4 k4 X3 b3 => by
        have K3 : X3.K = X.K := by obtain ⟨_, _, _, _, _, rfl⟩ := b3; rfl
        have g3 := k4 X3 b3 F4 H4 σ3
        rw [K3] at g3
        exact g3 _ E4 fun y e F5 H5 ρ5 E5 s5 dn5 k5 => fin1 (y := y) (e := e) E5 (t4.trans s5) dn5 k5.1 k5.2
      match ifs, k3 with
      | [], k3 =>
        have k4 := k3 X1 b1
        refine yes_of ?_
        rw [if_pos rfl]
        exact elts E3 t3 (k4.1 rfl)
      | [c], k3 =>
        intro X2 b2
        have K2 : X2.K = X.K := by obtain ⟨_, _, _, _, _, rfl⟩ := b2; rfl
        have g2 : TX X2 W c ρ3 _ := k3 X2 b2
        have g2' := g2 F3 H3 σ3
        rw [K2] at g2'
        refine g2' _ E3 fun t F4 H4 ρ4 E4 s4 k4 => ?_
        cases t with
        | false => rw [if_neg Bool.false_ne_true]; exact fin0 E4 (t3.trans s4) (k4.2 rfl)
        | true => rw [if_pos rfl]; exact elts E4 (t3.trans s4) (k4.1 rfl)
      | _ :: _ :: _, k3 => exact (k3 X1 b1).elim
  · have e : i = ds.length := by omega
    subst e
    refine .inl ⟨wk.stop H' (t'.fs.trans E'.sub), ?_⟩
    have E5 := EnvD.unwipe E1 t'.fs ws hnd hm E'
    have tw : Tr F1 H1 σ ρ1 F' H' (L2.wipe σ ws) ρ' := (tr_wipe ws).trans t'
    have tr5 : Tr F1 H1 σ ρ1 F' H' σ (unwipe ρ1 ρ' ws) := ⟨tw.fs, fun a o h k => let ⟨h1, k1⟩ := tw.kp a o h k; ⟨h1, off_unwipe hm k1⟩, tw.lv, tw.nf⟩
    exact q L us acc F' H' _ E5 (s1.trans tr5) hF L0 (s1.free hL) hL' dl (off_unwipe hm ho) (hd acc ρ' hv)

theorem nx_lc (C : Cxt X k N sc) (ok : BlkOk X.N X.env.scope scope own) (hnd : (own.map (·.2)).Nodup)
    (h : IX X W tg iter ρ fun ds ρ1 => (∀ v ∈ own.map (·.2), ¬ (ρ1.getD v .no).mut) ∧ ∃ Jv : Nat → List D → Rho → Prop, Jv 0 [] (wipeR ρ1 (own.map (·.2))) ∧
      (∀ (i : Nat) d acc ρ', ds[i]? = some d → Jv i acc ρ' → ∀ X1, IsBlk X X1 scope → GC X1 W (own.map (·.2)) tg d ρ' fun ρ2 => ∀ X2, IsBlk X X2 scope → TsX X2 W ifs ρ2 fun t ρ3 =>
        (t = true → ∀ X3, IsBlk X X3 scope → EX X3 W elt ρ3 fun e ρ4 => acc.length < sizeLine ∧ Jv (i + 1) (acc ++ [e]) (wipeR ρ4 (own.map (·.2)))) ∧ (t = false → Jv (i + 1) acc (wipeR ρ3 (own.map (·.2))))) ∧
      (∀ acc ρ', Jv ds.length acc ρ' → Ψ acc (unwipe ρ1 ρ' (own.map (·.2)))))
    (hs : ∀ x, foldedSetIterable iter X.env x = pure x := by intro _; rfl) : NX X W (.ListComp elt [⟨tg, iter, ifs, 0⟩] scope pos) ρ Ψ := fun F H σ Q D0 q =>
  run_e (pe_lc (own := own) C.calm C.nd (piR tg iter) ok
    (fun s H c cl fp => ⟨fun pins s' σ' H' v u Q' I r hh => hh _ ⟨s, H, c, cl, fp, rfl⟩ pins s' u I r⟩) (fun s H c cl fp => pts_R ⟨s, H, c, cl, fp, rfl⟩ ifs) (fun s H c cl fp => ⟨fun pins s' σ' H' Q' I hh => hh _ ⟨s, H, c, cl, fp, rfl⟩ pins s' I⟩) hs) (lc_read C ok hnd h D0 q)
/-- name = [..] -/
theorem s_asgLc {py spos : Pos} {y : Str} {l : Nat} {Φ : Out → Prop} (hl : LocOk X l y) (hyl : X.env.scope.names.lookup y = some .local) (C : Cxt X k N sc) (hsw : swapsWith (.ListComp elt [⟨tg, iter, ifs, 0⟩] scope pos) (some (.Name y py)) spos.line X.env = pure true) (ok : BlkOk X.N X.env.scope scope own) (hnd : (own.map (·.2)).Nodup)
    (h : IX X W tg iter ρ fun ds ρ1 => (∀ v ∈ own.map (·.2), ¬ (ρ1.getD v .no).mut) ∧ ∃ Jv : Nat → List D → Rho → Prop, Jv 0 [] (wipeR ρ1 (own.map (·.2))) ∧
      (∀ (i : Nat) d acc ρ', ds[i]? = some d → Jv i acc ρ' → ∀ X1, IsBlk X X1 scope → GC X1 W (own.map (·.2)) tg d ρ' fun ρ2 => ∀ X2, IsBlk X X2 scope → TsX X2 W ifs ρ2 fun t ρ3 =>
        (t = true → ∀ X3, IsBlk X X3 scope → EX X3 W elt ρ3 fun e ρ4 => acc.length < sizeLine ∧ Jv (i + 1) (acc ++ [e]) (wipeR ρ4 (own.map (·.2)))) ∧ (t = false → Jv (i + 1) acc (wipeR ρ3 (own.map (·.2))))) ∧
      (∀ acc ρ', Jv ds.length acc ρ' → Φ (.nx ((unwipe ρ1 ρ' (own.map (·.2))).set l (.own acc)))))
    (hs : ∀ x, foldedSetIterable iter X.env x = pure x := by intro _; rfl) : S1 X W (.Assign [.Name y py] (.ListComp elt [⟨tg, iter, ifs, 0⟩] scope pos) spos) ρ Φ := fun F H σ E D0 q =>
  run_s (ps_setLc (own := own) C.calm C.nd hl.n hyl hsw (piR tg iter) ok
    (fun s H c cl fp => ⟨fun pins s' σ' H' v u Q' I r hh => hh _ ⟨s, H, c, cl, fp, rfl⟩ pins s' u I r⟩) (fun s H c cl fp => pts_R ⟨s, H, c, cl, fp, rfl⟩ ifs) (fun s H c cl fp => ⟨fun pins s' σ' H' Q' I hh => hh _ ⟨s, H, c, cl, fp, rfl⟩ pins s' I⟩) hs)
    (lc_read (Ψ := fun acc ρ' => Φ (.nx (ρ'.set l (.own acc)))) C ok hnd h D0 fun p vs ds F' H' ρ' E' s h1 h2 h3 h4 dl ho kk =>
      q.nx _ _ _ _ (E'.setOwn h1 h2 h4 dl fun j t _ hj hm => ho j t hj hm) (tr_own h3 s) kk)

/-! ### comprehensions whose target is a name and that change nothing -/
theorem unwipe1 {ρ1 : Rho} {j : Nat} (hj : j < ρ1.length) : unwipe ρ1 (wipeR ρ1 [j]) [j] = ρ1 := by
  show (((ρ1.set j .no)).set j (ρ1.getD j .no)) = ρ1
  rw [List.set_set, List.getD_eq_getElem?_getD, List.getElem?_eq_getElem hj]
  simp
/-- the turns of such a comprehension -/
def Maps (X : Cx) (W : Wd) (scope : Scope) (elt : Expr) (ifs : List Expr) (ρ : Rho) (j k : Nat) (N : List Str) (sc : Scope) (ds : List D) (f : D → D) (t : D → Bool) : Prop :=
  ∀ d ∈ ds, ∀ X', IsBlk X X' scope → Cxt X' k N sc → TsX X' W ifs (ρ.set j (.val d)) (fun b ρ3 => b = t d ∧ ρ3 = ρ.set j (.val d)) ∧ (t d = true → EX X' W elt (ρ.set j (.val d)) fun e ρ4 => e = f d ∧ ρ4 = ρ.set j (.val d))
theorem TsX.mono {X' : Cx} {Θ Θ' : Bool → Rho → Prop} (h : TsX X' W ifs ρ Θ) (m : ∀ b ρ, Θ b ρ → Θ' b ρ) : TsX X' W ifs ρ Θ' := by
  match ifs, h with
  | [], h => exact m _ _ h
  | [c], h => exact TX.mono h m
theorem set_lookup {x : Str} {px : Pos} (C : Cxt X k N sc) (hx : N[j]? = some x) (hl : (blkScope scope sc).names.lookup x = some .local) {f : D → D} {t : D → Bool} {ds : List D} {ρ1 : Rho} (hlen : ds.length ≤ sizeLine) (hj : j < ρ1.length)
    (h : Maps X W scope elt ifs ρ1 j k N (blkScope scope sc) ds f t) :
    ∀ (i : Nat) (d : D) (acc : List D) (ρ' : Rho), ds[i]? = some d → (acc = ((ds.take i).filter t).map f ∧ ρ' = wipeR ρ1 [j]) → ∀ X1, IsBlk X X1 scope → GC X1 W [j] (.Name x px) d ρ' fun ρ2 => ∀ X2, IsBlk X X2 scope → TsX X2 W ifs ρ2 fun t' ρ3 =>
        (t' = true → ∀ X3, IsBlk X X3 scope → EX X3 W elt ρ3 fun e ρ4 => acc.length < sizeLine ∧ (acc ++ [e] = ((ds.take (i + 1)).filter t).map f ∧ wipeR ρ4 [j] = wipeR ρ1 [j])) ∧ (t' = false → acc = ((ds.take (i + 1)).filter t).map f ∧ wipeR ρ3 [j] = wipeR ρ1 [j]) := fun i d acc ρ' hd ⟨ea, er⟩ X1 b1 => by
  have hi : i < ds.length := (List.getElem?_eq_some_iff.mp hd).1
  have hm : d ∈ ds := List.mem_of_getElem? hd
  have etk : ds.take (i + 1) = ds.take i ++ [d] := by rw [List.take_succ, hd]; rfl
  have ew : (wipeR ρ1 [j]).set j (.val d) = ρ1.set j (.val d) := by show ((ρ1.set j .no).set j _) = _; rw [List.set_set]
  have ew2 : wipeR (ρ1.set j (.val d)) [j] = wipeR ρ1 [j] := by show ((ρ1.set j _).set j .no) = (ρ1.set j .no); rw [List.set_set]
  subst er
  refine gc_name (b1.cxt C) (b1.loc C hx hl) List.mem_cons_self fun X2 b2 => ?_
  rw [ew]
  refine (h d hm X2 b2 (b2.cxt C)).1.mono fun t' ρ3 ⟨e1, e2⟩ => ⟨fun ht X3 b3 => ?_, fun ht => ?_⟩
  · subst e2
    refine ((h d hm X3 b3 (b3.cxt C)).2 (by rw [← e1]; exact ht)).mono fun e ρ4 ⟨e3, e4⟩ => ⟨?_, ?_, by rw [e4, ew2]⟩
    · rw [ea, List.length_map]
      refine Nat.lt_of_le_of_lt (List.length_filter_le _ _) ?_
      rw [List.length_take]
      omega
    · rw [etk, List.filter_append, List.map_append, ea, e3, List.filter_cons, if_pos (by rw [← e1]; exact ht)]
      rfl
  · subst e2
    refine ⟨?_, ew2⟩
    rw [etk, List.filter_append, List.map_append, ← ea, List.filter_cons, if_neg (by rw [← e1, ht]; exact Bool.false_ne_true)]
    simp
theorem nx_map {x : Str} {px : Pos} (C : Cxt X k N sc) (ok : BlkOk X.N X.env.scope scope [(x, j)]) (hx : N[j]? = some x) (hl : (blkScope scope sc).names.lookup x = some .local) (f : D → D) (t : D → Bool)
    (h : IX X W (.Name x px) iter ρ fun ds ρ1 => ds.length ≤ sizeLine ∧ j < ρ1.length ∧ ¬ (ρ1.getD j .no).mut ∧ Maps X W scope elt ifs ρ1 j k N (blkScope scope sc) ds f t ∧ Ψ ((ds.filter t).map f) ρ1)
    (hs : ∀ x, foldedSetIterable iter X.env x = pure x := by intro _; rfl) : NX X W (.ListComp elt [⟨.Name x px, iter, ifs, 0⟩] scope pos) ρ Ψ :=
  nx_lc C ok (by simp) (fun F H σ R D0 q => h F H σ R D0 fun J ds F' H' ρ1 E' s wk ⟨hlen, hj, hmu, hM, hk⟩ => q J ds F' H' ρ1 E' s wk
    ⟨fun v hv => by have e : v = j := by simpa using hv
                    rw [e]; exact hmu, fun i acc ρ' => acc = ((ds.take i).filter t).map f ∧ ρ' = wipeR ρ1 [j], ⟨rfl, rfl⟩, set_lookup C hx hl hlen hj hM, fun acc ρ' ⟨ea, er⟩ => by
      rw [ea, er, List.take_length]
      show Ψ _ (unwipe ρ1 (wipeR ρ1 [j]) [j])
      rw [unwipe1 hj]
      exact hk⟩) hs
theorem s_asgMap {x y : Str} {px py spos : Pos} {l : Nat} {Φ : Out → Prop} (hl0 : LocOk X l y) (hyl : X.env.scope.names.lookup y = some .local) (C : Cxt X k N sc) (ok : BlkOk X.N X.env.scope scope [(x, j)]) (hx : N[j]? = some x) (hl : (blkScope scope sc).names.lookup x = some .local) (f : D → D) (t : D → Bool)
    (h : IX X W (.Name x px) iter ρ fun ds ρ1 => ds.length ≤ sizeLine ∧ j < ρ1.length ∧ ¬ (ρ1.getD j .no).mut ∧ Maps X W scope elt ifs ρ1 j k N (blkScope scope sc) ds f t ∧ Φ (.nx (ρ1.set l (.own ((ds.filter t).map f)))))
    (hsw : swapsWith (.ListComp elt [⟨.Name x px, iter, ifs, 0⟩] scope pos) (some (.Name y py)) spos.line X.env = pure true)
    (hs : ∀ x, foldedSetIterable iter X.env x = pure x := by intro _; rfl) : S1 X W (.Assign [.Name y py] (.ListComp elt [⟨.Name x px, iter, ifs, 0⟩] scope pos) spos) ρ Φ :=
  s_asgLc hl0 hyl C hsw ok (by simp) (fun F H σ R D0 q => h F H σ R D0 fun J ds F' H' ρ1 E' s wk ⟨hlen, hj, hmu, hM, hk⟩ => q J ds F' H' ρ1 E' s wk
    ⟨fun v hv => by have e : v = j := by simpa using hv
                    rw [e]; exact hmu, fun i acc ρ' => acc = ((ds.take i).filter t).map f ∧ ρ' = wipeR ρ1 [j], ⟨rfl, rfl⟩, set_lookup C hx hl hlen hj hM, fun acc ρ' ⟨ea, er⟩ => by
      rw [ea, er, List.take_length]
      show Φ (.nx ((unwipe ρ1 (wipeR ρ1 [j]) [j]).set l _))
      rw [unwipe1 hj]
      exact hk⟩) hs
end
end DL
set_option maxHeartbeats 2000000
/-! DL, part 9: defs and their calls. -/
namespace DL
open PySem PySem.Spec PyProof.Rows L2

/-- how a call ends: a datum, a new list, an error of the class at C with its `at`; and what stands then in the list that was handed in -/
inductive Ro where
  | ret (d : D) (o : Option (List D)) | retl (ds : List D) (o : Option (List D)) | exc (C : Addr) (d : D) (o : Option (List D))
/-- what a def promises: from the list that is handed in to be changed (as its first argument), the other arguments and a wish -/
abbrev Spec := Option (List D) → List D → (Ro → Prop) → Prop
def ArgOk (K : PySem.W.Frag) (F H : Hp) (vs : List V) : Option (Addr × List D) → List D → Prop
  | none, as => DenL K F vs as
  | some (p, ds), as => ∃ vs' ws, vs = .ref p :: vs' ∧ F p = none ∧ H p = some (.lst ws) ∧ DenL K F ws ds ∧ DenL K F vs' as
def IoOk (K : PySem.W.Frag) (F' H' : Hp) : Option (Addr × List D) → Option (List D) → Prop
  | none, none => True
  | some (p, _), some ds' => ∃ ws, H' p = some (.lst ws) ∧ DenL K F' ws ds'
  | _, _ => False
structure Post (K : PySem.W.Frag) (F H : Hp) (o : Option (Addr × List D)) (o' : Option (List D)) (F' H' : Hp) : Prop where
  fs : Same F F'
  sub : Same F' H'
  nf : ∀ a, H a ≠ none → F a = none → F' a = none
  kp : ∀ a u, H a = some u → (∀ p ds, o = some (p, ds) → a ≠ p) → H' a = some u
  lv : ∀ a, H a ≠ none → H' a ≠ none
  io : IoOk K F' H' o o'
def xAt : Str := "at"
def spD (K : PySem.W.Frag) (S : Spec) : Sp := fun vs H Q E => ∃ (F : Hp) (o : Option (Addr × List D)) (as : List D) (Φ : Ro → Prop), Same F H ∧ ArgOk K F H vs o as ∧ S (o.map (·.2)) as Φ ∧
  (∀ (v : V) (d : D) (o' : Option (List D)) (F' H' : Hp), Post K F H o o' F' H' → Den K F' v d → Φ (.ret d o') → Q v H') ∧
  (∀ (p : Addr) (us : List V) (l : List D) (o' : Option (List D)) (F' H' : Hp), Post K F H o o' F' H' → F' p = none → H p = none → H' p = some (.lst us) → DenL K F' us l → Φ (.retl l o') → Q (.ref p) H') ∧
  (∀ (C dd : Addr) (v : V) (d : D) (o' : Option (List D)) (F' H' : Hp), Post K F H o o' F' H' → H' dd = some (.xd [(xAt, v)]) → F' dd = none → H dd = none → Den K F' v d → Φ (.exc C d o') → E (.ref C) (some dd) H')
/-- a def of the program, by its name -/
def FnD (P : Program) (w : World) (K : PySem.W.Frag) (mg : Str → Option Value) (base : Heap) (k : Nat) (x : Str) (ps : List Str) (S : Spec) : Prop :=
  ∃ (fa : Addr) (fd : FuncData), mg x = some (.ref fa) ∧ PySem.W.keepIn K (.ref fa) = true ∧ Binds K fd ps [] ∧ FnOk P w K mg base (L2N.CX P w) k fa fd ps (spD K S)
abbrev FnAt (X : Cx) (k : Nat) (x : Str) (ps : List Str) (S : Spec) : Prop := FnD X.prog X.w X.K X.mg X.base k x ps S
theorem IsBlk.fn {X X' : Cx} {scope : Scope} {k : Nat} {x : Str} {ps : List Str} {S : Spec} (b : IsBlk X X' scope) (h : FnAt X k x ps S) : FnAt X' k x ps S := by
  obtain ⟨s, H, c, cl, fp, rfl⟩ := b
  exact h

section
variable {K : PySem.W.Frag} {W : Wd} {F H F' H' : Hp} {σ : L2.St} {ρ : Rho} {i : Nat} {s : Sl} {ds ds' : List D} {p : Addr}
theorem Post.stp (h : Post K F H none none F' H') : Stp F H F' H' := ⟨h.fs, h.sub, fun a o e => h.kp a o e (fun _ _ z => by cases z), h.nf⟩
/-- behind a call that was handed the i-th slot's list -/
theorem EnvD.called (E : EnvD K W F H σ ρ) (hi : ρ[i]? = some s) (hs : s.items = some ds) (hσ : σ[i]? = some (some (.ref p))) (h : Post K F H (some (p, ds)) (some ds') F' H') : EnvD K W F' H' σ (ρ.set i (s.put ds')) ∧ Tr F H σ ρ F' H' σ (ρ.set i (s.put ds')) := by
  obtain ⟨p', vs, hp', hF, hH, dl⟩ := E.at_slot hi hs
  have hq : p' = p := by
    rw [hσ] at hp'
    injection hp' with hp'; injection hp' with hp'; injection hp' with hp'
    exact hp'.symm
  subst hq
  have hm : s.mut := by cases s <;> first | trivial | cases hs
  have hm' : (s.put ds').mut → s.mut := fun _ => hm
  have kp : ∀ a u, H a = some u → a ≠ p' → H' a = some u := fun a u e n => h.kp a u e fun q es z => by cases z; exact n
  have off : ∀ {a}, Off σ ρ a → a ≠ p' := fun {a} k z => k i s hi hm (by rw [z]; exact hσ)
  obtain ⟨ws, hw, dw⟩ := (show ∃ ws, H' p' = some (.lst ws) ∧ DenL K F' ws ds' from h.io)
  have hF' : F' p' = none := h.nf p' (by rw [hH]; simp) hF
  have hl : i < ρ.length := (List.getElem?_eq_some_iff.mp hi).1
  refine ⟨{
    sub := h.sub
    f0 := fun a o e => h.fs _ _ (E.f0 a o e)
    new := fun a h1 h2 => h.nf a (E.live a h2) (E.new a h1 h2)
    keep := fun a o e m => by
      refine kp a o (E.keep a o e m) fun z => ?_
      subst z
      cases s with
      | own es =>
        obtain ⟨q, _, e1, _, h0, _⟩ := E.sl i _ hi
        rw [hσ] at e1
        injection e1 with e1; injection e1 with e1; injection e1 with e1
        rw [← e1, e] at h0
        cases h0
      | ino q es =>
        obtain ⟨_, e1, _, hM, _⟩ := E.sl i _ hi
        rw [hσ] at e1
        injection e1 with e1; injection e1 with e1; injection e1 with e1
        rw [← e1] at hM
        exact m hM
      | _ => cases hs
    live := fun a e => h.lv a (E.live a e)
    len := by rw [List.length_set]; exact E.len
    sl := fun j t hj => by
      by_cases hij : i = j
      · subst hij
        rw [List.getElem?_set_self hl] at hj
        cases hj
        have h1 := E.sl i _ hi
        cases s with
        | own es =>
          obtain ⟨q, us, e1, g1, g2, g3, g4⟩ := h1
          rw [hσ] at e1
          injection e1 with e1; injection e1 with e1; injection e1 with e1
          subst e1
          exact ⟨p', ws, hσ, hF', g2, hw, dw⟩
        | ino q es =>
          obtain ⟨us, e1, g1, g2, g3, g4⟩ := h1
          rw [hσ] at e1
          injection e1 with e1; injection e1 with e1; injection e1 with e1
          subst e1
          exact ⟨ws, hσ, hF', g2, hw, dw⟩
        | _ => cases hs
      · rw [List.getElem?_set_ne hij] at hj
        have h1 := E.sl j t hj
        cases t with
        | no => trivial
        | val d => obtain ⟨v, e, g⟩ := h1; exact ⟨v, e, g.mono h.fs⟩
        | own es =>
          obtain ⟨q, us, e1, g1, g2, g3, g4⟩ := h1
          have hq : q ≠ p' := fun z => hij (E.dis i j _ _ p' hi hj hm trivial hσ (by rw [e1, z]))
          exact ⟨q, us, e1, h.nf q (by rw [g3]; simp) g1, g2, kp q _ g3 hq, g4.mono h.fs⟩
        | ino q es =>
          obtain ⟨us, e1, g1, g2, g3, g4⟩ := h1
          have hq : q ≠ p' := fun z => hij (E.dis i j _ _ p' hi hj hm trivial hσ (by rw [e1, z]))
          exact ⟨us, e1, h.nf q (by rw [g3]; simp) g1, g2, kp q _ g3 hq, g4.mono h.fs⟩
    dis := fun j l t u q g1 g2 m1 m2 e1 e2 => by
      have key : ∀ {j : Nat} {t : Sl}, (ρ.set i (s.put ds'))[j]? = some t → ∃ t', ρ[j]? = some t' ∧ (t.mut → t'.mut) := fun {j t} hj => by
        by_cases hij : i = j
        · subst hij
          exact ⟨s, hi, fun _ => hm⟩
        · rw [List.getElem?_set_ne hij] at hj
          exact ⟨t, hj, id⟩
      obtain ⟨t', q1, q2⟩ := key g1
      obtain ⟨u', q3, q4⟩ := key g2
      exact E.dis j l t' u' q q1 q3 (q2 m1) (q4 m2) e1 e2 }, ?_⟩
  exact ⟨h.fs, fun a o e k => ⟨kp a o e (off k), off_put hi hm' k⟩, h.lv, fun a h1 h2 _ => h.nf a h1 h2⟩
end

/-- what an error may be that leaves the code here -/
def Thr (X : Cx) (W : Wd) (xp : Addr → D → Rho → Prop) : Prop := ∃ Wx : L2.WX, L2N.Takes X Wx ∧
  ∀ (F H : Hp) (σ : L2.St) (ρ : Rho) (C dd : Addr) (v : V) (d : D), EnvD X.K W F H σ ρ → H dd = some (.xd [(xAt, v)]) → F dd = none → W.H0 dd = none → Den X.K F v d → xp C d ρ → Wx (.ref C) (some dd) σ H
/-- the wish of a call's end, by the caller's slots -/
def Got (Φ : D → Rho → Prop) (xp : Addr → D → Rho → Prop) (ρ : Rho) : Ro → Prop
  | .ret d none => Φ d ρ | .retl l none => Φ (.lst l) ρ | .exc C d none => xp C d ρ | _ => False
def GotS (Φ : D → Rho → Prop) (xp : Addr → D → Rho → Prop) (ρ : Rho) (i : Nat) (s : Sl) : Ro → Prop
  | .ret d (some es) => Φ d (ρ.set i (s.put es)) | .retl l (some es) => Φ (.lst l) (ρ.set i (s.put es)) | .exc C d (some es) => xp C d (ρ.set i (s.put es)) | _ => False
def noX : Addr → D → Rho → Prop := fun _ _ _ => False
section
variable {X : Cx} {W : Wd} {ρ : Rho} {Φ : D → Rho → Prop} {pos p1 p2 : Pos} {i k : Nat} {x y : Str} {e : Expr} {es : List Expr} {ps : List Str} {S : Spec}
theorem fin_l {K : PySem.W.Frag} {F H : Hp} {σ : L2.St} {p : Addr} {us : List V} {l : List D} {Q : VK} {F0 H0 : Hp} {ρ0 : Rho} (E : EnvD K W F H σ ρ) (t : Tr F0 H0 σ ρ0 F H σ ρ) (h1 : F p = none) (h2 : H0 p = none) (h3 : W.H0 p = none) (ho : Off σ ρ p) (hH : H p = some (.lst us)) (dl : DenL K F us l)
    (q : ∀ (v : V) (d : D) (F' H' : Hp) (ρ' : Rho), EnvD K W F' H' σ ρ' → Tr F0 H0 σ ρ0 F' H' σ ρ' → Den K F' v d → Φ d ρ' → Q v H') (k : Φ (.lst l) ρ) : Q (.ref p) H := by
  have fs : Same F (upd F p (.lst us)) := fun a u e => by rw [upd_ne (ne_of_none e h1)]; exact e
  exact q (.ref p) (.lst l) _ H ρ (E.freezeNew h1 h3 hH ho) (t.frzNew h1 h2) (.lst upd_same (dl.mono fs)) k
/-- f(e, ..), data alone handed in -/
theorem ex_callX {xp : Addr → D → Rho → Prop} (T : Thr X W xp) (G : GlbOk X x) (Fn : FnAt X k x ps S) (hr : Room k X.A) (h : AX X W (e :: es) ρ fun as ρ1 => S none as (Got Φ xp ρ1))
    (he : starEach (e :: es) X.env = (false, eval e X.env) :: starEach es X.env := by rfl) (hpl : (backTo pos (starEach es X.env)).any (·.1) = false := by rfl) : EX X W (.Call (.Name x p1) (e :: es) [] pos) ρ Φ := fun F H σ Q E q => by
  obtain ⟨fa, fd, hm, hk, hb, F1⟩ := Fn
  obtain ⟨Wx, tk, hW⟩ := T
  intro pins s I
  refine wpAny_Call_Name_kw (ld_glob I G.g hm ?_ G.d)
  refine PySem.W.callWith_K (h₀ := X.base) I.ok.mod.kin hk (thn (h F H σ (fun vs H1 => spD X.K S vs H1 Q fun cls d H' => Wx cls d σ H') E (fun vs as F1 H1 ρ1 E1 s1 dl hS => ?_) pos pins s I) fun us s1 ⟨vs, H1, I1, r, q1⟩ => ⟨I1.kIn, ?_⟩) he hpl
  · refine ⟨F1, none, as, _, E1.sub, dl, hS, fun v d o' F' H' po dn hk => ?_, fun p us l o' F' H' po h1 h2 h3 dl' hk => ?_, fun C dd v d o' F' H' po hx hx1 hx2 dn hk => ?_⟩
    · cases o' with
      | none => exact q v d F' H' ρ1 (E1.step po.stp) (s1.trans po.stp.tr) dn hk
      | some l => exact hk.elim
    · cases o' with
      | none => exact fin_l (E1.step po.stp) (s1.trans po.stp.tr) h1 (s1.free h2) (h0_none E1 h2) (off_of E1 h2) h3 dl' q hk
      | some l => exact hk.elim
    · cases o' with
      | none => exact hW F' H' σ ρ1 C dd v d (E1.step po.stp) hx hx1 (h0_none E1 hx2) dn hk
      | some l => exact hk.elim
  · have hl : (us ++ []).length = ps.length := by rw [List.append_nil, ← r.length]; exact F1.len _ _ _ _ q1
    refine wpAny_call (codeAny_mono (F1.run X.A X.stack s1 H1 ⟨us, []⟩ us vs Q _ hr I1.env0 (by have hbb := hb s1 us I1.kIn hl; rw [List.append_nil] at hbb; exact hbb) r q1) fun r' s' hq => ?_)
    cases r' with
    | error er => exact L2N.passAt tk σ pins H1 s1 er s' I1 hq
    | ok fl =>
      cases fl with
      | ret u => exact I1.after hq
      | next => exact False.elim hq
      | brk => exact False.elim hq
      | cont => exact False.elim hq
theorem takesN : L2N.Takes X (fun _ _ _ _ => False) := fun _ _ ⟨_, _, _, _, _, _, _, _, _, _, _, _, _, _, _, _, z⟩ => z.elim
theorem thr0 : Thr X W noX := ⟨_, takesN, fun _ _ _ _ _ _ _ _ _ _ _ _ _ h => h.elim⟩
theorem ex_call (G : GlbOk X x) (Fn : FnAt X k x ps S) (hr : Room k X.A) (h : AX X W (e :: es) ρ fun as ρ1 => S none as (Got Φ noX ρ1))
    (he : starEach (e :: es) X.env = (false, eval e X.env) :: starEach es X.env := by rfl) (hpl : (backTo pos (starEach es X.env)).any (·.1) = false := by rfl) : EX X W (.Call (.Name x p1) (e :: es) [] pos) ρ Φ := ex_callX thr0 G Fn hr h he hpl
/-- f(s, e, ..), s a list of one's own that f may change -/
theorem ex_callSX {xp : Addr → D → Rho → Prop} (T : Thr X W xp) (G : GlbOk X x) (Fn : FnAt X k x ps S) (hr : Room k X.A) (hv : VarOk X i y) (hρ : ∃ s ds, ρ[i]? = some s ∧ Sl.items s = some ds)
    (h : AX X W es ρ fun as ρ1 => ∃ s ds, ρ1[i]? = some s ∧ Sl.items s = some ds ∧ S (some ds) as (GotS Φ xp ρ1 i s))
    (he : starEach (.Name y p2 :: es) X.env = (false, eval (.Name y p2) X.env) :: starEach es X.env := by rfl) (hpl : (backTo pos (starEach es X.env)).any (·.1) = false := by rfl) : EX X W (.Call (.Name x p1) (.Name y p2 :: es) [] pos) ρ Φ := fun F H σ Q E q => by
  obtain ⟨fa, fd, hm, hk, hb, F1⟩ := Fn
  obtain ⟨Wx, tk, hW⟩ := T
  obtain ⟨s0, ds0, e0, i0⟩ := hρ
  obtain ⟨p, vs0, hp, _⟩ := E.at_slot e0 i0
  intro pins s I
  refine wpAny_Call_Name_kw (ld_glob I G.g hm ?_ G.d)
  have rd : RunA X (.Name y p2 :: es) σ H fun vs H1 => spD X.K S vs H1 Q fun cls d H' => Wx cls d σ H' := run_a (pa_cons (pe_var hv.n hv.v hv.d hv.c) (paR es) he) ⟨.ref p, hp, h F H σ _ E fun vs as F1 H1 ρ1 E1 s1 dl ⟨s, ds, hi, hs, hS⟩ => by
    obtain ⟨p', ws, hp', hF, hH, dw⟩ := E1.at_slot hi hs
    rw [hp] at hp'
    injection hp' with hp'; injection hp' with hp'; injection hp' with hp'
    subst hp'
    refine ⟨F1, some (p, ds), as, _, E1.sub, ⟨vs, ws, rfl, hF, hH, dw, dl⟩, hS, fun v d o' F' H' po dn hk => ?_, fun r us l o' F' H' po h1 h2 h3 dl' hk => ?_, fun C dd v d o' F' H' po hx hx1 hx2 dn hk => ?_⟩
    · cases o' with
      | none => exact hk.elim
      | some es' =>
        obtain ⟨E2, t2⟩ := E1.called hi hs hp po
        exact q v d F' H' _ E2 (s1.trans t2) dn hk
    · cases o' with
      | none => exact hk.elim
      | some es' =>
        obtain ⟨E2, t2⟩ := E1.called hi hs hp po
        have off2 := (off_of E1 h2)
        refine fin_l E2 (s1.trans t2) h1 (s1.free h2) (h0_none E1 h2) (fun j t hj ht e => ?_) h3 dl' q hk
        by_cases hij : i = j
        · subst hij
          have hm : s.mut := by cases s <;> first | trivial | cases hs
          exact off2 i s hi hm e
        · rw [List.getElem?_set_ne hij] at hj
          exact off2 j t hj ht e
    · cases o' with
      | none => exact hk.elim
      | some es' =>
        obtain ⟨E2, t2⟩ := E1.called hi hs hp po
        exact hW F' H' σ _ C dd v d E2 hx hx1 (h0_none E1 hx2) dn hk⟩
  refine PySem.W.callWith_K (h₀ := X.base) I.ok.mod.kin hk (thn (rd pos pins s I) fun us s1 ⟨vs, H1, I1, r, q1⟩ => ⟨I1.kIn, ?_⟩) he hpl
  have hl : (us ++ []).length = ps.length := by rw [List.append_nil, ← r.length]; exact F1.len _ _ _ _ q1
  refine wpAny_call (codeAny_mono (F1.run X.A X.stack s1 H1 ⟨us, []⟩ us vs Q _ hr I1.env0 (by have hbb := hb s1 us I1.kIn hl; rw [List.append_nil] at hbb; exact hbb) r q1) fun r' s' hq => ?_)
  cases r' with
  | error er => exact L2N.passAt tk σ pins H1 s1 er s' I1 hq
  | ok fl =>
    cases fl with
    | ret u => exact I1.after hq
    | next => exact False.elim hq
    | brk => exact False.elim hq
    | cont => exact False.elim hq
theorem ex_callS (G : GlbOk X x) (Fn : FnAt X k x ps S) (hr : Room k X.A) (hv : VarOk X i y) (hρ : ∃ s ds, ρ[i]? = some s ∧ Sl.items s = some ds)
    (h : AX X W es ρ fun as ρ1 => ∃ s ds, ρ1[i]? = some s ∧ Sl.items s = some ds ∧ S (some ds) as (GotS Φ noX ρ1 i s))
    (he : starEach (.Name y p2 :: es) X.env = (false, eval (.Name y p2) X.env) :: starEach es X.env := by rfl) (hpl : (backTo pos (starEach es X.env)).any (·.1) = false := by rfl) : EX X W (.Call (.Name x p1) (.Name y p2 :: es) [] pos) ρ Φ := ex_callSX thr0 G Fn hr hv hρ h he hpl
end

/-! ### a def's body -/
/-- the slots at the entry -/
def ent (n : Nat) (o : Option (Addr × List D)) (as : List D) : Rho :=
  (match o with | none => [] | some (p, ds) => [Sl.ino p ds]) ++ as.map Sl.val ++ List.replicate n Sl.no
/-- what the handed list holds at the end -/
def outs (o : Option (Addr × List D)) (ρ : Rho) (o' : Option (List D)) : Prop := match o with
  | none => o' = none
  | some (p, _) => ∃ ds', ρ[0]? = some (.ino p ds') ∧ o' = some ds'
/-- the wish of a body, by the wish of the call -/
def Fin (o : Option (Addr × List D)) (Φ : Ro → Prop) : Out → Prop
  | .nx ρ => ∃ o', outs o ρ o' ∧ Φ (.ret .non o')
  | .rt d ρ => ∃ o', outs o ρ o' ∧ Φ (.ret d o')
  | .rl l ρ => ∃ o', outs o ρ o' ∧ Φ (.retl l o')
  | _ => False
def FinX (o : Option (Addr × List D)) (Φ : Ro → Prop) (C : Addr) (d : D) (ρ : Rho) : Prop := ∃ o', outs o ρ o' ∧ Φ (.exc C d o')
/-- what a def is walked under: its context and its frame -/
structure Body (X : Cx) (W : Wd) (k : Nat) (N : List Str) (sc : Scope) (o : Option (Addr × List D)) (Φ : Ro → Prop) : Prop where
  c : Cxt X k N sc
  fn : ∀ x, X.fn x = true
  t : Thr X W (FinX o Φ)
  hs : X.stack = X.env :: X.outer
  hf : X.env.frame = some X.env.locals
section
variable {P : Program} {w : World} {K : PySem.W.Frag} {mg : Str → Option Value} {base : Heap}
theorem ent_env {F H : Hp} {vs : List V} {o : Option (Addr × List D)} {as : List D} {N : List Str} (hs : Same F H) (ha : ArgOk K F H vs o as) (hl : vs.length ≤ N.length) :
    EnvD K ⟨H, F, fun a => ∃ ds, o = some (a, ds)⟩ F H (L2.start N vs) (ent (N.length - vs.length) o as) := by
  have lenA : ∀ {vs : List V} {as : List D}, DenL K F vs as → (L2.start N vs).length = N.length ∨ vs.length > N.length := fun {vs as} h => by
    unfold L2.start
    rw [List.length_append, List.length_map, List.length_replicate]
    omega
  cases o with
  | none =>
    have dl : DenL K F vs as := ha
    refine ⟨hs, Same.refl _, fun _ h _ => h, fun _ _ h _ => h, fun _ h => h, ?_, fun j s hj => ?_, fun j l s t p hj hl' m1 m2 _ _ => ?_⟩
    · unfold L2.start ent
      simp [dl.length]
    · unfold ent at hj
      rw [List.nil_append] at hj
      by_cases hlt : j < as.length
      · rw [List.getElem?_append_left (by rw [List.length_map]; exact hlt), List.getElem?_map, List.getElem?_eq_getElem hlt] at hj
        cases hj
        obtain ⟨v, hv, dn⟩ := dl.get (List.getElem?_eq_getElem hlt)
        refine ⟨v, ?_, dn⟩
        unfold L2.start
        rw [List.getElem?_append_left (by rw [List.length_map, dl.length]; exact hlt), List.getElem?_map, hv]
        rfl
      · rw [List.getElem?_append_right (by rw [List.length_map]; omega), List.getElem?_replicate] at hj
        split at hj
        · cases hj; trivial
        · cases hj
    · have nm : ∀ {j : Nat} {s : Sl}, (ent (N.length - vs.length) none as)[j]? = some s → ¬ s.mut := fun {j s} h => by
        have hm := List.mem_of_getElem? h
        unfold ent at hm
        simp only [List.nil_append, List.mem_append, List.mem_map, List.mem_replicate] at hm
        rcases hm with ⟨d, _, rfl⟩ | ⟨_, rfl⟩
        · exact id
        · exact id
      exact absurd m1 (nm hj)
  | some q =>
    obtain ⟨p, ds⟩ := q
    obtain ⟨vs', ws, rfl, hF, hH, dw, dl⟩ := ha
    refine ⟨hs, Same.refl _, fun _ h _ => h, fun _ _ h _ => h, fun _ h => h, ?_, fun j s hj => ?_, fun j l s t r hj hl' m1 m2 _ _ => ?_⟩
    · unfold L2.start ent
      simp [dl.length]
    · unfold ent at hj
      cases j with
      | zero =>
        simp at hj
        subst hj
        refine ⟨ws, ?_, hF, ⟨ds, rfl⟩, hH, dw⟩
        unfold L2.start
        simp
      | succ j =>
        simp only [List.cons_append, List.nil_append, List.getElem?_cons_succ] at hj
        unfold L2.start
        simp only [List.map_cons, List.cons_append, List.getElem?_cons_succ]
        by_cases hlt : j < as.length
        · rw [List.getElem?_append_left (by rw [List.length_map]; exact hlt), List.getElem?_map, List.getElem?_eq_getElem hlt] at hj
          cases hj
          obtain ⟨v, hv, dn⟩ := dl.get (List.getElem?_eq_getElem hlt)
          refine ⟨v, ?_, dn⟩
          rw [List.getElem?_append_left (by rw [List.length_map, dl.length]; exact hlt), List.getElem?_map, hv]
          rfl
        · rw [List.getElem?_append_right (by rw [List.length_map]; omega), List.getElem?_replicate] at hj
          split at hj
          · cases hj; trivial
          · cases hj
    · have nm : ∀ {j : Nat} {s : Sl}, (ent (N.length - (V.ref p :: vs').length) (some (p, ds)) as)[j]? = some s → s.mut → j = 0 := fun {j s} h hm => by
        cases j with
        | zero => rfl
        | succ j =>
          unfold ent at h
          simp only [List.cons_append, List.nil_append, List.getElem?_cons_succ] at h
          have hx := List.mem_of_getElem? h
          simp only [List.mem_append, List.mem_map, List.mem_replicate] at hx
          rcases hx with ⟨d, _, rfl⟩ | ⟨_, rfl⟩
          · exact hm.elim
          · exact hm.elim
      rw [nm hj m1, nm hl' m2]
theorem post_of {F H F' H' : Hp} {o : Option (Addr × List D)} {o' : Option (List D)} {σ : L2.St} {ρ : Rho} (E : EnvD K ⟨H, F, fun a => ∃ ds, o = some (a, ds)⟩ F' H' σ ρ) (h : outs o ρ o') : Post K F H o o' F' H' where
  fs := E.f0
  sub := E.sub
  nf := fun a h1 h2 => E.new a h2 h1
  kp := fun a u e n => E.keep a u e fun ⟨ds, z⟩ => n a ds z rfl
  lv := E.live
  io := by
    cases o with
    | none => cases h; trivial
    | some q =>
      obtain ⟨p, ds⟩ := q
      obtain ⟨ds', h0, rfl⟩ := h
      obtain ⟨ws, _, _, _, h3, h4⟩ := E.sl 0 _ h0
      exact ⟨ws, h3, h4⟩
/-- THE RULE: a def keeps its promise if its body, walked from any entry, does -/
theorem fnOk_of {x qual : Str} {st : Stmt} {f : Addr} {fd : FuncData} {N ps : List Str} {k : Nat} {S : Spec} (Fu : FunD K x qual (defArgs st) (defBody st) (defScope st) [] [] f fd) (Sc : FnScope N ps (defScope st))
    (len : ∀ o as Φ, S o as Φ → (match o with | none => 0 | some _ => 1) + as.length = ps.length)
    (body : ∀ (X : Cx), X.prog = P → X.w = w → X.K = K → X.mg = mg → X.base = base → ∀ (W : Wd) (o : Option (Addr × List D)) (as : List D) (Φ : Ro → Prop), S (o.map (·.2)) as Φ → Body X W k N (defScope st) o Φ → SX X W (defBody st) (ent (N.length - ps.length) o as) (Fin o Φ)) :
    FnOk P w K mg base (L2N.CX P w) (k + 1) f fd ps (spD K S) := by
  have lenv : ∀ vs H Q E, spD K S vs H Q E → vs.length = ps.length := fun vs H Q E ⟨F, o, as, Φ, _, ha, hS, _⟩ => by
    have h := len _ _ _ hS
    cases o with
    | none =>
      have dl : DenL K F vs as := ha
      rw [dl.length]
      simpa using h
    | some q =>
      obtain ⟨p, ds⟩ := q
      obtain ⟨vs', ws, rfl, _, _, _, dl⟩ := ha
      rw [List.length_cons, dl.length]
      have h' : 1 + as.length = ps.length := h
      omega
  refine Fu.ok (CX := L2N.CX P w) Sc lenv fun cdv A outer s H vs Q E hr hsp => ?_
  have hl := lenv _ _ _ _ hsp
  obtain ⟨F, o, as, Φ, hs, ha, hS, q1, q2, q3⟩ := hsp
  have hN : ps.length ≤ N.length := by have h := congrArg List.length Sc.pre; rw [List.length_take] at h; omega
  refine ⟨RunSs _ (defBody st), pssR _, ?_⟩
  generalize hX : cxOf (L2N.CX P w) P w K mg base N qual (defScope st) f cdv A outer s H E = X
  have tk : L2N.Takes X (fun cls d _ H' => E cls d H') := by
    rw [← hX]
    exact L2N.takes_of rfl rfl rfl rfl
  have ps' : PassesOwn (model X.prog X.w) X.A X.env X.xe := by rw [← hX]; exact passes_of (K := fun e s'' => L2N.CX P w outer H s E e s'') rfl
  have B : Body X ⟨H, F, fun a => ∃ ds, o = some (a, ds)⟩ k N (defScope st) o Φ := by
    refine ⟨⟨by rw [← hX]; rfl, by rw [← hX]; rfl, by rw [← hX]; exact Sc.nd, by rw [← hX]; rfl, ps', by rw [← hX]; exact hr⟩, fun x => by rw [← hX]; rfl, ⟨_, tk, fun F' H' σ ρ C dd v d E' hx hx1 hx2 dn ⟨o', ho, hk⟩ => ?_⟩, by rw [← hX]; rfl, by rw [← hX]; rfl⟩
    have EK : EnvD K ⟨H, F, fun a => ∃ ds, o = some (a, ds)⟩ F' H' σ ρ := by rw [← hX] at E'; exact E'
    exact q3 C dd v d o' F' H' (post_of EK ho) hx hx1 hx2 (by rw [← hX] at dn; exact dn) hk
  have hb := body X (by rw [← hX]; rfl) (by rw [← hX]; rfl) (by rw [← hX]; rfl) (by rw [← hX]; rfl) (by rw [← hX]; rfl) _ o as Φ hS B
  have XK : X.K = K := by rw [← hX]; rfl
  rw [← hl] at hb hN
  refine hb F H (L2.start N vs) _ (by rw [XK]; exact ent_env hs ha hN) ⟨fun F' H' σ' ρ' E' _ ⟨o', ho, hk⟩ => ?_, fun F' H' σ' ρ' v d E' _ dn ⟨o', ho, hk⟩ => ?_, fun F' H' σ' ρ' p us l E' _ h1 h2 h3 dl hne ⟨o', ho, hk⟩ => ?_, fun _ _ _ _ _ _ z => z.elim, fun _ _ _ _ _ _ z => z.elim⟩
  · rw [XK] at E'
    exact q1 .non .non o' F' H' (post_of E' ho) .non hk
  · rw [XK] at E' dn
    exact q1 v d o' F' H' (post_of E' ho) dn hk
  · rw [XK] at E' dl
    exact q2 p us l o' F' H' (post_of E' ho) h1 h2 h3 dl hk
theorem fnD_of {x qual : Str} {st : Stmt} {f : Addr} {fd : FuncData} {N ps : List Str} {k : Nat} {S : Spec} (hm : mg x = some (.ref f)) (Fu : FunD K x qual (defArgs st) (defBody st) (defScope st) [] [] f fd) (b : Binds K fd ps []) (Sc : FnScope N ps (defScope st))
    (len : ∀ o as Φ, S o as Φ → (match o with | none => 0 | some _ => 1) + as.length = ps.length)
    (body : ∀ (X : Cx), X.prog = P → X.w = w → X.K = K → X.mg = mg → X.base = base → ∀ (W : Wd) (o : Option (Addr × List D)) (as : List D) (Φ : Ro → Prop), S (o.map (·.2)) as Φ → Body X W k N (defScope st) o Φ → SX X W (defBody st) (ent (N.length - ps.length) o as) (Fin o Φ)) :
    FnD P w K mg base (k + 1) x ps S := ⟨f, fd, hm, Fu.kp, b, fnOk_of Fu Sc len body⟩
end
end DL
set_option maxHeartbeats 2000000
/-! DL, the head: a Hook with one more question about K; what is asked of own error classes. -/
namespace DL
open PySem PySem.Spec PyProof.Rows L2

/-- what the defs' facts tell, and one more answer -/
def ansE (n : Nat) (fa : List He.Fa) (fn : List He.DefD) (ex : PySem.W.Frag → Bool) (g : Addr → Option Obj) : He.AlD × Bool := (He.obsDG n fa fn g, ex (He.frG g (He.asD g n)))
def hkE (n : Nat) (fa : List He.Fa) (fn : List He.DefD) (ex : PySem.W.Frag → Bool) : PySem.W.Hook where
  α := He.AlD × Bool
  obs := fun s => ansE n fa fn ex s.heap.get?
  val := fun _ => (He.valD fn, true)
  says := fun _ h => ∃ K : PySem.W.Frag, K.In h ∧ (He.SaysD fa fn K ∧ ex K = true)
  of := fun _ s e => ⟨He.frG s.heap.get? (He.asD s.heap.get? n), He.frG_in, congrArg (fun z : He.AlD × Bool => z.1) e, congrArg (fun z : He.AlD × Bool => z.2) e⟩
  keeps := fun _ _ _ ⟨K, hK, c⟩ kp => ⟨K, PySem.W.Frag.In.keeps hK kp, c⟩
theorem ansE_at {n : Nat} {fa : List He.Fa} {fn : List He.DefD} {ex : PySem.W.Frag → Bool} {g : Addr → Option Obj} {s : Shared} (h : ∀ a, g a = s.heap.get? a) : ansE n fa fn ex g = (hkE n fa fn ex).obs s := by
  have e : g = s.heap.get? := funext h
  subst e
  rfl

/-- the class object at C is one of an own error class over ValueError -/
def oexB (K : PySem.W.Frag) (C : Addr) : Bool := match K.lookup C with
  | some ⟨.type "type", _, .cls cd, sl⟩ => (match cd.mro, sl.toList with
    | .ref C' :: bm, [_, _, _, _, some (.builtin n), _] => (C' == C && n == "ValueError.__new__") && ((!cd.hasDel && cd.hasDict) && PySem.HandSPX.refsVE bm)
    | _, _ => false)
  | _ => false
theorem oexB_ok {K : PySem.W.Frag} {C : Addr} (h : oexB K C = true) :
    ∃ nm q N bs bm sn sub ab col dd k0 k1 k2 k3 k5, K.lookup C = some (excClassObj nm q C N bs bm true sn sub ab col dd k0 k1 k2 k3 k5 "ValueError.__new__") ∧ PySem.HandSPX.refsVE bm = true := by
  unfold oexB at h
  split at h
  · rename_i dd cd sl ho
    split at h
    · rename_i C' bm k0 k1 k2 k3 n k5 hm hs
      obtain ⟨h1, h2⟩ := Bool.and_eq_true_iff.mp h
      obtain ⟨h3, h4⟩ := Bool.and_eq_true_iff.mp h1
      obtain ⟨h5, h6⟩ := Bool.and_eq_true_iff.mp h2
      obtain ⟨h7, h8⟩ := Bool.and_eq_true_iff.mp h5
      have e1 := beq_iff_eq.mp h3
      have e2 := beq_iff_eq.mp h4
      subst e1 e2
      obtain ⟨nm, bs, mro, ns, qn, hd, sn, sub, ab, col, del⟩ := cd
      dsimp only at hm h7 h8
      have e3 : del = false := by simpa using h7
      subst hm h8 e3
      obtain ⟨l⟩ := sl
      have e4 : l = [k0, k1, k2, k3, some (.builtin "ValueError.__new__"), k5] := hs
      subst e4
      exact ⟨nm, qn, ns, bs, bm, sn, sub, ab, col, dd, k0, k1, k2, k3, k5, ho, h6⟩
    · cases h
  · cases h
def eqOO (a b : Option (Option Value)) : Bool := decide (a = b)
def eqOB (a : Option Bool) (b : Bool) : Bool := decide (a = some b)
/-- an own error class, by its name: its __init__ is base's -/
def excB (K : PySem.W.Frag) (base x : Str) : Bool := let C := He.ga K x
  oexB K C && (eqOO (PySem.W.findIn K (.ref C) "__setattr__") (some (some (.builtin "object.__setattr__"))) && (eqOB (PySem.W.subIn K (.ref C) (.type "BaseException")) true && (decide (PySem.W.typeIn K (.ref C) = some (.type "type")) && (PySem.W.keepIn K (.ref C) &&
    (xfB K C && (eqOO (PySem.W.findIn K (.ref C) "at") (some none) && (eqOO (PySem.W.findIn K (.ref C) "__class__") (some (some (.builtin "object.__class__"))) && (eqOB (PySem.W.mroIn K C (.type "object")) true &&
      (eqOO (PySem.W.findIn K (.ref C) "__init__") (some (some (.ref (He.ma K (He.ga K base) "__init__")))) && eqOB (PySem.W.kitOne K (.ref C) (.type "ValueError")) true)))))))))
structure ErrC (K : PySem.W.Frag) (C fI : Addr) : Prop where
  oex : OexC K C
  xf : XfC K C
  at_ : PySem.W.findIn K (.ref C) "at" = some none
  ca : PySem.W.findIn K (.ref C) "__class__" = some (some (.builtin "object.__class__"))
  mo : PySem.W.mroIn K C (.type "object") = some true
  ini : PySem.W.findIn K (.ref C) "__init__" = some (some (.ref fI))
  ve : PySem.W.kitOne K (.ref C) (.type "ValueError") = some true
theorem excB_ok {K : PySem.W.Frag} {base x : Str} (h : excB K base x = true) : ErrC K (He.ga K x) (He.ma K (He.ga K base) "__init__") := by
  unfold excB at h
  simp only [Bool.and_eq_true] at h
  obtain ⟨h1, h2, h3, h4, h5, h6, h7, h8, h9, h10, h11⟩ := h
  exact ⟨⟨oexB_ok h1, of_decide_eq_true h2, of_decide_eq_true h3, of_decide_eq_true h4, h5⟩, xfB_ok h6, of_decide_eq_true h7, of_decide_eq_true h8, of_decide_eq_true h9, of_decide_eq_true h10, of_decide_eq_true h11⟩
/-- what is the same for all classes -/
def excG (K : PySem.W.Frag) (base : Str) : Bool := eqOO (PySem.W.specialIn K (.builtin "object.__class__") "__get__") (some (some (.builtin "getset_descriptor.__get__"))) && (eqOB (PySem.W.takesIn K (.builtin "object.__class__")) true &&
  decide (PySem.W.typeIn K (.ref (He.ma K (He.ga K base) "__init__")) = some (.type "function")))
structure ErrG (K : PySem.W.Frag) (fI : Addr) : Prop where
  get : PySem.W.specialIn K (.builtin "object.__class__") "__get__" = some (some (.builtin "getset_descriptor.__get__"))
  tk : PySem.W.takesIn K (.builtin "object.__class__") = some true
  ty : PySem.W.typeIn K (.ref fI) = some (.type "function")
theorem excG_ok {K : PySem.W.Frag} {base : Str} (h : excG K base = true) : ErrG K (He.ma K (He.ga K base) "__init__") := by
  unfold excG at h
  simp only [Bool.and_eq_true] at h
  exact ⟨of_decide_eq_true h.1, of_decide_eq_true h.2.1, of_decide_eq_true h.2.2⟩
/-- which of these classes is which: the classes that are raised against those that are asked for -/
def kitsAB (K : PySem.W.Frag) (up : Str) (as bs : List Str) : Bool := as.all fun a => bs.all fun b => eqOB (PySem.W.kitOne K (.ref (He.ga K a)) (.ref (He.ga K b))) (a == b || b == up)
theorem kitsAB_ok {K : PySem.W.Frag} {up : Str} {as bs : List Str} (h : kitsAB K up as bs = true) {a b : Str} (ha : a ∈ as) (hb : b ∈ bs) : PySem.W.kitOne K (.ref (He.ga K a)) (.ref (He.ga K b)) = some (a == b || b == up) :=
  of_decide_eq_true (List.all_eq_true.mp (List.all_eq_true.mp h a ha) b hb)
def exmsB (K : PySem.W.Frag) (as bs : List Str) (up : Str) : Bool := as.all fun a => bs.all fun b => eqOB (PySem.W.exmOne K (.ref (He.ga K a)) (.ref (He.ga K b))) (a == b || b == up)
theorem exmsB_ok {K : PySem.W.Frag} {up : Str} {as bs : List Str} (h : exmsB K as bs up = true) {a b : Str} (ha : a ∈ as) (hb : b ∈ bs) : PySem.W.exmOne K (.ref (He.ga K a)) (.ref (He.ga K b)) = some (a == b || b == up) :=
  of_decide_eq_true (List.all_eq_true.mp (List.all_eq_true.mp h a ha) b hb)
/-- the body of a class -/
def clsBody (s : Stmt) : List Stmt := match s with
  | .ClassDef _ _ _ b _ _ _ _ _ _ _ => b
  | _ => []
abbrev FnP (K : PySem.W.Frag) (x : Str) (st : Stmt) (f : Addr) (fd : FuncData) : Prop := FunD K x x (defArgs st) (defBody st) (defScope st) [] [] f fd
end DL
set_option maxHeartbeats 2000000
/-! DL, part 10: errors: raise, the caught error, its class, its at. -/
namespace DL
open PySem PySem.Spec PyProof.Rows L2

section
variable {X : Cx} {W : Wd} {ρ : Rho} {Φ : D → Rho → Prop} {Ψ : List D → Rho → Prop} {pos p1 p2 : Pos} {i k : Nat} {x y : Str} {e : Expr} {es : List Expr} {ps : List Str} {S : Spec} {N : List Str} {sc : Scope}
theorem blt_of {u : Value} (C : Cxt X k N sc) (m : X.mg x = none) (hv : bootBuiltins x = some u) (h : glbB sc x = true) : BltOk X x u := ⟨globs_of C (G := [x]) (by simp [h]) 0 x rfl, m, hv⟩
theorem glb_of (C : Cxt X k N sc) (h : glbB sc x = true) : GlbOk X x := globs_of C (G := [x]) (by simp [h]) 0 x rfl
/-! ### a call that hands back a new list -/
def GotN (Ψ : List D → Rho → Prop) (xp : Addr → D → Rho → Prop) (ρ : Rho) : Ro → Prop
  | .retl l none => Ψ l ρ | .exc C d none => xp C d ρ | _ => False
def GotSN (Ψ : List D → Rho → Prop) (xp : Addr → D → Rho → Prop) (ρ : Rho) (i : Nat) (s : Sl) : Ro → Prop
  | .retl l (some es) => Ψ l (ρ.set i (s.put es)) | .exc C d (some es) => xp C d (ρ.set i (s.put es)) | _ => False
theorem nx_callX {xp : Addr → D → Rho → Prop} (T : Thr X W xp) (G : GlbOk X x) (Fn : FnAt X k x ps S) (hr : Room k X.A) (h : AX X W (e :: es) ρ fun as ρ1 => S none as (GotN Ψ xp ρ1))
    (he : starEach (e :: es) X.env = (false, eval e X.env) :: starEach es X.env := by rfl) (hpl : (backTo pos (starEach es X.env)).any (·.1) = false := by rfl) : NX X W (.Call (.Name x p1) (e :: es) [] pos) ρ Ψ := fun F H σ Q E q => by
  obtain ⟨fa, fd, hm, hk, hb, F1⟩ := Fn
  obtain ⟨Wx, tk, hW⟩ := T
  intro pins s I
  refine wpAny_Call_Name_kw (ld_glob I G.g hm ?_ G.d)
  refine PySem.W.callWith_K (h₀ := X.base) I.ok.mod.kin hk (thn (h F H σ (fun vs H1 => spD X.K S vs H1 Q fun cls d H' => Wx cls d σ H') E (fun vs as F1 H1 ρ1 E1 s1 dl hS => ?_) pos pins s I) fun us s1 ⟨vs, H1, I1, r, q1⟩ => ⟨I1.kIn, ?_⟩) he hpl
  · refine ⟨F1, none, as, _, E1.sub, dl, hS, fun v d o' F' H' po dn hk => ?_, fun p us l o' F' H' po h1 h2 h3 dl' hk => ?_, fun C dd v d o' F' H' po hx hx1 hx2 dn hk => ?_⟩
    · cases o' <;> exact hk.elim
    · cases o' with
      | none => exact q p us l F' H' ρ1 (E1.step po.stp) (s1.trans po.stp.tr) h1 (h0_none E1 h2) (s1.free h2) h3 dl' (off_of E1 h2) hk
      | some l => exact hk.elim
    · cases o' with
      | none => exact hW F' H' σ ρ1 C dd v d (E1.step po.stp) hx hx1 (h0_none E1 hx2) dn hk
      | some l => exact hk.elim
  · have hl : (us ++ []).length = ps.length := by rw [List.append_nil, ← r.length]; exact F1.len _ _ _ _ q1
    refine wpAny_call (codeAny_mono (F1.run X.A X.stack s1 H1 ⟨us, []⟩ us vs Q _ hr I1.env0 (by have hbb := hb s1 us I1.kIn hl; rw [List.append_nil] at hbb; exact hbb) r q1) fun r' s' hq => ?_)
    cases r' with
    | error er => exact L2N.passAt tk σ pins H1 s1 er s' I1 hq
    | ok fl =>
      cases fl with
      | ret u => exact I1.after hq
      | _ => exact hq.elim
theorem nx_call (G : GlbOk X x) (Fn : FnAt X k x ps S) (hr : Room k X.A) (h : AX X W (e :: es) ρ fun as ρ1 => S none as (GotN Ψ noX ρ1))
    (he : starEach (e :: es) X.env = (false, eval e X.env) :: starEach es X.env := by rfl) (hpl : (backTo pos (starEach es X.env)).any (·.1) = false := by rfl) : NX X W (.Call (.Name x p1) (e :: es) [] pos) ρ Ψ := nx_callX thr0 G Fn hr h he hpl
theorem nx_callSX {xp : Addr → D → Rho → Prop} (T : Thr X W xp) (G : GlbOk X x) (Fn : FnAt X k x ps S) (hr : Room k X.A) (hv : VarOk X i y) (hρ : ∃ s ds, ρ[i]? = some s ∧ Sl.items s = some ds)
    (h : AX X W es ρ fun as ρ1 => ∃ s ds, ρ1[i]? = some s ∧ Sl.items s = some ds ∧ S (some ds) as (GotSN Ψ xp ρ1 i s))
    (he : starEach (.Name y p2 :: es) X.env = (false, eval (.Name y p2) X.env) :: starEach es X.env := by rfl) (hpl : (backTo pos (starEach es X.env)).any (·.1) = false := by rfl) : NX X W (.Call (.Name x p1) (.Name y p2 :: es) [] pos) ρ Ψ := fun F H σ Q E q => by
  obtain ⟨fa, fd, hm, hk, hb, F1⟩ := Fn
  obtain ⟨Wx, tk, hW⟩ := T
  obtain ⟨s0, ds0, e0, i0⟩ := hρ
  obtain ⟨p, vs0, hp, _⟩ := E.at_slot e0 i0
  intro pins s I
  refine wpAny_Call_Name_kw (ld_glob I G.g hm ?_ G.d)
  have rd : RunA X (.Name y p2 :: es) σ H fun vs H1 => spD X.K S vs H1 Q fun cls d H' => Wx cls d σ H' := run_a (pa_cons (pe_var hv.n hv.v hv.d hv.c) (paR es) he) ⟨.ref p, hp, h F H σ _ E fun vs as F1 H1 ρ1 E1 s1 dl ⟨s, ds, hi, hs, hS⟩ => by
    obtain ⟨p', ws, hp', hF, hH, dw⟩ := E1.at_slot hi hs
    rw [hp] at hp'
    injection hp' with hp'; injection hp' with hp'; injection hp' with hp'
    subst hp'
    refine ⟨F1, some (p, ds), as, _, E1.sub, ⟨vs, ws, rfl, hF, hH, dw, dl⟩, hS, fun v d o' F' H' po dn hk => ?_, fun r us l o' F' H' po h1 h2 h3 dl' hk => ?_, fun C dd v d o' F' H' po hx hx1 hx2 dn hk => ?_⟩
    · cases o' <;> exact hk.elim
    · cases o' with
      | none => exact hk.elim
      | some es' =>
        obtain ⟨E2, t2⟩ := E1.called hi hs hp po
        have off2 := (off_of E1 h2)
        refine q r us l F' H' _ E2 (s1.trans t2) h1 (h0_none E1 h2) (s1.free h2) h3 dl' (fun j t hj ht e => ?_) hk
        by_cases hij : i = j
        · subst hij
          have hm : s.mut := by cases s <;> first | trivial | cases hs
          exact off2 i s hi hm e
        · rw [List.getElem?_set_ne hij] at hj
          exact off2 j t hj ht e
    · cases o' with
      | none => exact hk.elim
      | some es' =>
        obtain ⟨E2, t2⟩ := E1.called hi hs hp po
        exact hW F' H' σ _ C dd v d E2 hx hx1 (h0_none E1 hx2) dn hk⟩
  refine PySem.W.callWith_K (h₀ := X.base) I.ok.mod.kin hk (thn (rd pos pins s I) fun us s1 ⟨vs, H1, I1, r, q1⟩ => ⟨I1.kIn, ?_⟩) he hpl
  have hl : (us ++ []).length = ps.length := by rw [List.append_nil, ← r.length]; exact F1.len _ _ _ _ q1
  refine wpAny_call (codeAny_mono (F1.run X.A X.stack s1 H1 ⟨us, []⟩ us vs Q _ hr I1.env0 (by have hbb := hb s1 us I1.kIn hl; rw [List.append_nil] at hbb; exact hbb) r q1) fun r' s' hq => ?_)
  cases r' with
  | error er => exact L2N.passAt tk σ pins H1 s1 er s' I1 hq
  | ok fl =>
    cases fl with
    | ret u => exact I1.after hq
    | _ => exact hq.elim
end

/-! ### an own error class: its __init__ keeps one field -/
/-- self.at = at -/
def spInit (K : PySem.W.Frag) : Sp := fun vs H Q _ => ∃ (a C : Addr) (v : V), vs = [.ref a, v] ∧ OexC K C ∧ PySem.W.findIn K (.ref C) "at" = some none ∧ H a = some (exo a C none) ∧
  ∀ dx, H dx = none → dx ≠ a → Q .non (upd (upd H dx (exd dx [(xAt, v)])) a (exo a C (some dx)))
/-- raising is understood -/
structure RaisesAt (X : Cx) (fI : Addr) (fd : FuncData) (k : Nat) : Prop where
  ok : FnOk X.prog X.w X.K X.mg X.base (L2N.CX X.prog X.w) k fI fd ["self", "at"] (spInit X.K)
  b : Binds X.K fd ["self", "at"] []
  ty : PySem.W.typeIn X.K (.ref fI) = some (.type "function")
theorem pmkN {X : Cx} {e : Expr} {ta : TA} {x : Str} {p pos : Pos} {C fI : Addr} {k : Nat} {fd : FuncData} (T : ErrC X.K C fI) (R : RaisesAt X fI fd k) (hr : Room (k + 1) X.A) (G : GlbOk X x) (hm : X.mg x = some (.ref C)) (ha : PA X [e] ta)
    (he : starEach [e] X.env = (false, eval e X.env) :: starEach [] X.env := by rfl) (hpl : (backTo pos (starEach [] X.env)).any (·.1) = false := by rfl) : L2N.PMk X (.Call (.Name x p) [e] [] pos) (tMkO C (spInit X.K) [] ta) := by
  intro pins s σ H Q I h
  have F1 := R.ok
  obtain ⟨nm, q, N, bs, bm, sn, sub, ab, col, dd, k0, k1, k2, k3, k5, hC, hbm⟩ := T.oex.cls
  refine wpAny_Call_Name_kw (ld_glob I G.g hm ?_ G.d)
  refine PySem.W.callWith_K (h₀ := X.base) I.ok.mod.kin T.oex.kC (thn (ha.run pos pins s σ H _ I h) fun us s1 ⟨vs, H1, I1, r1, hz, q1⟩ => ⟨I1.kIn, ?_⟩) he hpl
  show wpAny _ _ (call (.ref C) us) _ _ _
  obtain ⟨hp, g, dr, tk, os⟩ := s1
  have sz1 : hp.objs.size ≤ hp.objs.size + 1 := Nat.le_succ _
  have hn : H1 (hp.objs.size + 1) = none := I1.hok.fresh sz1
  have hq := q1 _ hn
  have kk : ∀ b o, hp.get? b = some o → ((hp.push (PySem.W.kdv_tup us)).push (PySem.HandSPX.excO C hp.objs.size)).get? b = some o := fun b o z => Heap.get?_push_of_some _ (Heap.get?_push_of_some _ z)
  have he1 : ((hp.push (PySem.W.kdv_tup us)).push (PySem.HandSPX.excO C hp.objs.size)).get? (hp.objs.size + 1) = some (PySem.HandSPX.excO C hp.objs.size) := by heap_get
  have I2 := I1.laid (t' := tk) (a := hp.objs.size + 1) (o := exo (hp.objs.size + 1) C none) (h' := (hp.push (PySem.W.kdv_tup us)).push (PySem.HandSPX.excO C hp.objs.size)) kk sz1 (exo_ok he1)
  have r2 : Vals (V.ref (hp.objs.size + 1) :: (vs ++ [])) (Value.ref (hp.objs.size + 1) :: (us ++ [])) := .cons rfl (r1.append .nil)
  have hl : (Value.ref (hp.objs.size + 1) :: us ++ []).length = ["self", "at"].length := (r2.length.symm.trans (F1.len _ _ _ _ hq))
  have hus : us.length ≤ sizeLine := Nat.le_trans (Nat.le_of_eq (Paired.length r1).symm) (Nat.le_trans hz (by rw [sizeLine_eq]; omega))
  refine wpAny_call (PySem.HandSPX.call_own F.excBase_ValueError (fun Y => PySem.HandSPX.refsVE_contains Y bm hbm) (I1.kIn _ _ hC) (PySem.W.looks_findIn I1.kIn T.ini) (fun self => PySem.W.bind_fn I1.kIn self R.ty) hus
    (codeAny_mono (F1.run _ X.stack _ _ ⟨Value.ref (hp.objs.size + 1) :: us, []⟩ (Value.ref (hp.objs.size + 1) :: (us ++ [])) _ _ (fun _ _ _ => False) (hr.make C us []) (I2.env0.make C us []) (by have z := R.b _ (Value.ref (hp.objs.size + 1) :: us) I2.kIn hl; rw [List.cons_append] at z; exact z) r2 hq) fun r s' hq' => ?_))
  · cases r with
    | error er =>
      obtain ⟨_, _, _, _, _, _, _, _, _, _, _, _, z⟩ := hq'
      exact z.elim
    | ok fl =>
      cases fl with
      | ret u =>
        obtain ⟨v, H2, os2, bare2, un2, hok2, rv, ev, d, fs, ea, ed, hd1, q2⟩ := hq'
        subst ev
        obtain ⟨h2, g2, d2, t2, os'⟩ := s'
        refine ⟨rv, ?_⟩
        obtain ⟨t0, Gh, J, kG, ge, hoe, na⟩ := mk_end0 (d2 := d2) (t2 := t2) I1 sz1 kk un2 hok2 os2 bare2 ea ed hd1
        exact ⟨hp.objs.size + 1, _, _, ⟨Gh, g2, d2, t2, os'⟩, _, .ref C, some d, rfl, J, kG, ge, hoe, ⟨rfl, rfl, fun vs e => by cases e; rfl⟩, rfl, rfl, na, rfl, bare2, raises_own T.oex.exC T.oex.tyC, q2⟩
      | _ => exact hq'.elim
theorem upd_comm {H : Hp} {a b : Addr} {o u : HO} (h : a ≠ b) : upd (upd H a o) b u = upd (upd H b u) a o := by
  funext c
  by_cases h1 : c = a
  · subst h1
    rw [upd_same, upd_ne h, upd_same]
  · by_cases h2 : c = b
    · subst h2
      rw [upd_same, upd_ne h1, upd_same]
    · rw [upd_ne h2, upd_ne h1, upd_ne h1, upd_ne h2]
/-- raise C(e) -/
theorem s_raise {X : Cx} {W : Wd} {ρ : Rho} {Φ : Out → Prop} {k : Nat} {N : List Str} {sc : Scope} {xp : Addr → D → Rho → Prop} {C fI : Addr} {fd : FuncData} {kI : Nat} {x : Str} {e : Expr} {p1 p2 pos : Pos} (Cx0 : Cxt X k N sc) (Th : Thr X W xp) (T : ErrC X.K C fI) (R : RaisesAt X fI fd kI)
    (hr : kI + 1 ≤ k) (G : GlbOk X x) (hm : X.mg x = some (.ref C)) (h : EX X W e ρ fun d ρ1 => xp C d ρ1) (he : starEach [e] X.env = (false, eval e X.env) :: starEach [] X.env := by rfl) (hpl : (backTo p2 (starEach [] X.env)).any (·.1) = false := by rfl) :
    S1 X W (.Raise (some (.Call (.Name x p1) [e] [] p2)) none pos) ρ Φ := fun F H σ D E q => by
  obtain ⟨Wx, tk, hW⟩ := Th
  refine run_s (L2N.ps_raise Cx0.calm tk (pmkN T R (Cx0.room.mono hr) G hm (pa_cons (peR e) pa_nil he) he hpl)) ?_
  refine h F H σ _ E fun v d F1 H1 ρ1 E1 s1 dn k1 => ⟨by show 1 ≤ 1000; omega, fun a ha => ?_⟩
  refine ⟨a, C, v, rfl, T.oex, T.at_, upd_same, fun dx hdx hne => ⟨rfl, dx, [(xAt, v)], upd_same, ?_, ?_, ?_⟩⟩
  · rw [upd_ne hne, upd_same]
  · rw [upd_ne hne] at hdx; exact hdx
  · have hd1 : H1 dx = none := by rw [upd_ne hne] at hdx; exact hdx
    have e1 : upd (del (upd (upd (upd H1 a (exo a C none)) dx (exd dx [(xAt, v)])) a (exo a C (some dx))) a) dx (.xd [(xAt, v)]) = upd H1 dx (.xd [(xAt, v)]) := by
      funext c
      by_cases hc : c = dx
      · subst hc; rw [upd_same, upd_same]
      · rw [upd_ne hc, upd_ne hc]
        by_cases hca : c = a
        · subst hca; rw [del_same]; exact ha.symm
        · rw [del_ne hca, upd_ne hca, upd_ne hc, upd_ne hca]
    rw [e1]
    exact hW F1 _ σ ρ1 C dx v d (E1.step (Stp.newO E1.sub hd1)) upd_same (E1.none_f hd1) (h0_none E1 hd1) dn k1
end DL
set_option maxHeartbeats 2000000
/-! DL, part 11: a class's __init__, the caught error's field and class, try. -/
namespace DL
open PySem PySem.Spec PySem.Calls PyProof.Rows L2

/-! ### __init__ -/
theorem init_ok {P : Program} {w : World} {K : PySem.W.Frag} {mg : Str → Option Value} {base : Heap} {f : Addr} {fd : FuncData} {qual : Str} {params : Arguments} {scope : Scope} {p1 p2 p3 pos : Pos} (F : FunD K "__init__" qual params [.Assign [.Attribute (.Name "self" p1) "at" p2] (.Name "at" p3) pos] scope [] [] f fd)
    (Sc : FnScope ["self", "at"] ["self", "at"] scope) : FnOk P w K mg base (L2N.CX P w) 1 f fd ["self", "at"] (spInit K) := by
  refine F.ok (CX := L2N.CX P w) Sc (fun vs H Q E ⟨a, C, v, e, _⟩ => by rw [e]; rfl) fun cdv A outer s H vs Q E hr ⟨a, C, v, e, T, hno, ha, hq⟩ => ?_
  subst e
  have vis : ∀ x, x ∈ (["self", "at"] : List Str) → Vis scope x := fun x hx => by
    rcases Sc.par x hx with h | h
    · exact .inl h
    · exact .inr (.inl h)
  refine ⟨_, pss_one (ps_ost (pe_var (i := 0) rfl (vis _ (by simp)) (by decide) (by decide)) (pe_var (i := 1) rfl (vis _ (by simp)) (by decide) (by decide))), ?_⟩
  exact ⟨v, rfl, .ref a, rfl, a, C, rfl, T, hno, .inl ⟨ha, fun dx h1 h2 => hq dx h1 h2⟩⟩

/-! ### the caught error -/
structure XObj (X : Cx) (W : Wd) (a C : Addr) (d : D) : Prop where
  ex : ∃ (oe : Obj) (dd : Addr) (v : V), (a, oe) ∈ X.pn ∧ L2N.Zn (.ref C) (some dd) oe ∧ (∃ vs, oe.data = .fields vs) ∧ W.H0 dd = some (.xd [(xAt, v)]) ∧ ¬ W.M dd ∧ Den X.K W.F0 v d
  hh : X.A.handled = some (.ref a)
section
variable {X : Cx} {W : Wd} {ρ : Rho} {Φ : D → Rho → Prop} {pos p1 p2 : Pos} {x f : Str} {e b : Expr} {es : List Expr} {a C fI : Addr} {d : D}
/-- e.at -/
theorem ex_at (hx : XObj X W a C d) (T : ErrC X.K C fI) (h : EX X W e ρ fun d0 ρ1 => d0 = .ref a ∧ Φ d ρ1) (hb : attributeBase e "at" X.env (eval e X.env) = eval e X.env := by rfl) : EX X W (.Attribute e "at" pos) ρ Φ := fun F H σ Q E q => by
  obtain ⟨oe, dd, v, hp, hz, ⟨fs, hf⟩, h0, hM, hd⟩ := hx.ex
  intro pins s I
  have key : RunE X e σ H fun x H1 => x = .ref a ∧ H1 dd = some (.xd [(xAt, v)]) ∧ Q v H1 := h F H σ _ E fun v0 d0 F1 H1 ρ1 E1 s1 dn ⟨e0, k1⟩ => by
    subst e0
    cases dn
    exact ⟨rfl, E1.keep dd _ h0 hM, q v d F1 H1 ρ1 E1 s1 (hd.mono E1.f0) k1⟩
  refine attr_of hb (thn (key pins s I) fun u s1 ⟨x, H1, I1, rx, ex, ea, q1⟩ => ?_)
  subst ex
  cases (show u = Value.ref a from rx)
  have hh := (I1.pin (a, oe) (List.mem_append_left _ hp)).1
  have hxo : ObjOk X.prog X.w H1 s1.heap dd (.xd [(xAt, v)]) := I1.hok dd _ ea
  obtain ⟨mA, hns, hr⟩ := hxo
  obtain ⟨od, ho, hl⟩ := lookIn_ns hns
  obtain ⟨u, hu, ru⟩ := RelO.some_of (v := v) (o := mA "at") (hr "at")
  have J : PySem.W.InstAt s1.heap a oe C (some od) := ⟨hh, hz.1, by unfold PySem.W.notCls; rw [hf] <;> rfl, by rw [hz.2.1]; exact ho⟩
  exact HandSPX.exc_get I1.kIn J T.xf.ga T.xf.gg T.xf.exC (PySem.W.findObj_own T.xf.hdC T.at_ rfl (by rw [hl, hu])) (handed_of ru) ⟨v, H1, I1.tok _, ru, q1⟩
end

/-! ### isinstance of the caught error -/
section
variable {prog : Program} {w : World} {A : Around} {E : Value → Shared → Prop} {s : Shared} {K : PySem.W.Frag} {x C fI : Addr} {ox : Obj}
theorem err_class {od : Option Obj} {Q : Option Value → Shared → Prop} (T : ErrC K C fI) (G : ErrG K fI) (X : K.In s.heap) (I : PySem.W.InstAt s.heap x ox C od) (h : Q (some (.ref C)) { s with toks := s.toks + 1 }) : wpAny (model prog w) A (getAttr? (.ref x) "__class__") Q E s := by
  have hf : PySem.W.findObj K C od "__class__" = some (.bind (.builtin "getset_descriptor.__get__") (.builtin "object.__class__")) := by
    obtain ⟨cd, hc, _⟩ := PySem.W.any_some T.xf.hdC
    unfold PySem.W.findObj
    rw [hc, Option.bind_some, T.ca, Option.bind_some]
    simp [G.get, G.tk]
  obtain ⟨hp, g, d, t, os⟩ := s
  have L0 := I.type (M := model prog w)
  have Lg := PySem.W.looks_findIn (M := model prog w) X T.xf.ga
  have Lh := PySem.W.looks_findIn (M := model prog w) X T.xf.gg
  have Lf := PySem.W.looks_find (M := model prog w) X I hf
  have su : PySem.W.Looks (model prog w) hp (isInstance (.ref x) (.type "BaseException")) true := L0.andThen (PySem.W.looks_subIn X T.xf.exC)
  have nob : (Value.builtin "BaseException.__getattribute__" == Value.builtin "object.__getattribute__") = false := by decide +kernel
  unfold getAttr? getAttrBy? getAttrBy
  refine wpAny_bind (wpAny_mkText (wpAny_bind (wpAny_attempt (wpAny_holding (wpAny_bind (L0.at (wpAny_bind (Lg.at ?_))))))))
  show wpAny _ _ (if (onTheHeap (Value.ref C) && Value.builtin "BaseException.__getattribute__" == Value.builtin "object.__getattribute__") = true then _ else _) _ _ _
  rw [show (onTheHeap (Value.ref C) && Value.builtin "BaseException.__getattribute__" == Value.builtin "object.__getattribute__") = false from by rw [nob]; rfl, if_neg Bool.false_ne_true]
  unfold getAttrByItsOwn hookBefore
  refine wpAny_bind ?_
  rw [if_pos (show onTheHeap (Value.ref C) = true from rfl)]
  refine Lh.at (wpAny_bind (wpAny_attempt (wpAny_holding ?_)))
  unfold callGetattribute
  rw [show (false && onTheHeap (Value.builtin "BaseException.__getattribute__")) = false from rfl, if_neg Bool.false_ne_true]
  unfold boundAndCalled
  rw [PySem.F.excAttr_ValueError.ga.bind (.ref x)]
  refine wpAny_bind (wpAny_pure ?_)
  show wpAny _ _ (call (.builtin "BaseException.__getattribute__") [.ref x, .str "__class__" t]) _ _ _
  refine wpAny_call (codeAny_call_builtin PySem.F.excAttr_ValueError.ga.plain PySem.F.entry_bexc_ga (@PySem.W.check_slot (model prog w) _ _ ⟨hp, g, d, t + 1, os⟩ "BaseException.__getattribute__" "BaseException" "__getattribute__" (.ref x) [.str "__class__" t] [] _
    (by decide +kernel) (by decide +kernel) su (PySem.F.args_bexc_ga (.ref x) (.str "__class__" t)) ?_))
  unfold Builtin.«object.__getattribute__»
  refine wpAny_bind (wpAny_of_eq (a := ((Value.ref x : Value), [Value.str "__class__" t])) (by first | rfl | (simp only [slotArgs]; rfl)) ?_)
  refine wpAny_bind (wpAny_pure (wpAny_bind (L0.at (wpAny_bind (Lf.at ?_)))))
  show wpAny _ _ (holding [Value.builtin "object.__class__"] (call (.builtin "getset_descriptor.__get__") [.builtin "object.__class__", .ref x, .ref C]) >>= ret) _ _ _
  refine wpAny_bind (wpAny_holding (wpAny_call (PySem.W.class_get (s := ⟨hp, g, d, t + 1, os⟩) (ox := ox) (od := od) X I T.mo ?_)))
  refine wpAny_pure ?_
  show wpAny _ _ (handedOut (.ref C)) _ _ _
  rw [PySem.W.handedOut_of (v := .ref C) rfl]
  first
    | exact wpAny_pure (wpAny_pure h)
    | exact wpAny_pure h
    | exact wpAny_pure (wpAny_bind (wpAny_pure (wpAny_pure h)))
theorem err_kit (T : ErrC K C fI) (G : ErrG K fI) : PySem.W.KitX K (.ref x) (.ref C) (fun h => ∃ od, PySem.W.InstAt h x ox C od) where
  ty := fun _ _ _ ⟨_, I⟩ => I.type
  it := fun _ _ X _ => by
    obtain ⟨cd, hc, _⟩ := PySem.W.any_some T.xf.hdC
    unfold PySem.W.clsIn at hc
    split at hc
    · rename_i ho
      intro A' Q' E' s' kp q
      unfold isType loadHead
      exact wpAny_bind (wpAny_loadPart (kp _ _ (X _ _ ho)) (wpAny_pure q))
    · cases hc
  ne := fun h tp dd its n sl X htp => by
    obtain ⟨cd, hc, _⟩ := PySem.W.any_some T.xf.hdC
    refine Bool.eq_false_iff.mpr fun q => ?_
    have e : C = tp := Value.ref.inj (beq_iff_eq.mp q)
    subst e
    unfold PySem.W.clsIn at hc
    split at hc
    · rename_i ho
      cases (X _ _ ho).symm.trans htp
    · cases hc
  ca := fun X ⟨_, I⟩ q => err_class T G X I q
end
/-- a class, as a datum and as a value -/
inductive ClsD : D → Value → Prop where
  | ty (n : String) : ClsD (.ty n) (.type n)
  | own (C : Addr) : ClsD (.ref C) (.ref C)
theorem ClsD.v {K : PySem.W.Frag} {F : Hp} {v : V} {d : D} {u : Value} (c : ClsD d u) (h : Den K F v d) : ClsV v u := by
  cases c with
  | ty n => cases h; exact .ty n
  | own C =>
    cases h
    exact .own C
inductive ClsDs : List D → List Value → Prop where
  | nil : ClsDs [] []
  | cons {d : D} {u : Value} {ds : List D} {us : List Value} : ClsD d u → ClsDs ds us → ClsDs (d :: ds) (u :: us)
theorem ClsDs.v {K : PySem.W.Frag} {F : Hp} : ∀ {vs : List V} {ds : List D} {us : List Value}, ClsDs ds us → DenL K F vs ds → Paired ClsV vs us
  | _, _, _, .nil, .nil => .nil
  | _, _, _, .cons c r, .cons h1 h2 => .cons (c.v h1) (ClsDs.v r h2)
section
variable {X : Cx} {W : Wd} {ρ : Rho} {Φ : D → Rho → Prop} {pos p1 p2 : Pos} {x f : Str} {e b : Expr} {es : List Expr} {a C fI : Addr} {d : D}
theorem inst_of {pins : List (Addr × Obj)} {σ : L2.St} {H : Hp} {s : Shared} {oe : Obj} {dd : Addr} {fs : List (Str × V)} (I : Inv X pins σ H s) (hp : (a, oe) ∈ X.pn) (hz : L2N.Zn (.ref C) (some dd) oe) (hf : ∃ vs, oe.data = .fields vs) (hd : H dd = some (.xd fs)) :
    ∃ od, PySem.W.InstAt s.heap a oe C od := by
  obtain ⟨vs, hf⟩ := hf
  have hxo : ObjOk X.prog X.w H s.heap dd (.xd fs) := I.hok dd _ hd
  obtain ⟨mA, hns, hr⟩ := hxo
  obtain ⟨od, ho, hl⟩ := lookIn_ns hns
  exact ⟨some od, (I.pin (a, oe) (List.mem_append_left _ hp)).1, hz.1, by unfold PySem.W.notCls; rw [hf] <;> rfl, by rw [hz.2.1]; exact ho⟩
/-- isinstance(e, C) -/
theorem ex_isx (B : BltOk X f (.builtin "isinstance")) (hx : XObj X W a C d) (T : ErrC X.K C fI) (G : ErrG X.K fI) (h : EX X W e ρ fun d0 ρ1 => d0 = .ref a ∧ EX X W b ρ1 fun dc ρ2 => ∃ cv r, ClsD dc cv ∧ PySem.W.kitOne X.K (.ref C) cv = some r ∧ Φ (.bl r) ρ2)
    (he : starEach [e, b] X.env = (false, eval e X.env) :: starEach [b] X.env := by rfl) (he2 : starEach [b] X.env = [(false, eval b X.env)] := by rfl) (hpl : (backTo pos (starEach [b] X.env)).any (·.1) = false := by rfl) : EX X W (.Call (.Name f p1) [e, b] [] pos) ρ Φ := by
  obtain ⟨oe, dd, v, hp, hz, hf, h0, hM, hd⟩ := hx.ex
  have cr : CallR X (.builtin "isinstance") fun xs H Q => ∃ c cv r, xs = [.ref a, c] ∧ ClsV c cv ∧ PySem.W.kitOne X.K (.ref C) cv = some r ∧ H dd = some (.xd [(xAt, v)]) ∧ Q (.bl r) H := by
    intro pins s σ H xs us Q I r hh
    obtain ⟨c, cv, rr, rfl, k, e1, ed, q⟩ := hh
    obtain ⟨u1, u2, rfl, r1, r2⟩ := vals2 r
    have e2 := k.eq r2
    subst e2
    cases (show u1 = Value.ref a from r1)
    obtain ⟨od, J⟩ := inst_of I hp hz hf ed
    exact PySem.W.kia_one (err_kit T G) I.kIn ⟨od, J⟩ e1 (fun z => nomatch z) fun tk => ⟨.bl rr, H, I.tok tk, rfl, q⟩
  exact ex_cb B cr (fun F H σ Q E q => run_a (pa_cons (peR e) (pa_cons (peR b) pa_nil he2) he) (h F H σ _ E fun v1 d1 F1 H1 ρ1 E1 s1 dn1 ⟨e1, k1⟩ => k1 F1 H1 σ _ E1 fun v2 d2 F2 H2 ρ2 E2 s2 dn2 ⟨cv, r, c, hk, k⟩ => by
    subst e1
    cases dn1
    exact ⟨v2, cv, r, rfl, c.v dn2, hk, E2.keep dd _ h0 hM, q _ _ F2 H2 ρ2 E2 (s1.trans s2) (.bl r) k⟩)) he hpl
/-- isinstance(e, (C, ..)) -/
theorem ex_isxT {x1 : Nat} (B : BltOk X f (.builtin "isinstance")) (hx : XObj X W a C d) (T : ErrC X.K C fI) (G : ErrG X.K fI) (h : EX X W e ρ fun d0 ρ1 => d0 = .ref a ∧ AX X W es ρ1 fun dcs ρ2 => ∃ cvs r, ClsDs dcs cvs ∧ dcs.length ≤ sizeLine ∧ PySem.W.kitAny X.K (.ref C) cvs = some r ∧ Φ (.bl r) ρ2)
    (he : starEach [e, .Tuple es x1 p2] X.env = (false, eval e X.env) :: starEach [.Tuple es x1 p2] X.env := by rfl) (he2 : starEach [.Tuple es x1 p2] X.env = [(false, eval (.Tuple es x1 p2) X.env)] := by rfl) (hpl : (backTo pos (starEach [.Tuple es x1 p2] X.env)).any (·.1) = false := by rfl) :
    EX X W (.Call (.Name f p1) [e, .Tuple es x1 p2] [] pos) ρ Φ := by
  obtain ⟨oe, dd, v, hp, hz, hf, h0, hM, hd⟩ := hx.ex
  have cr : CallR X (.builtin "isinstance") fun xs H Q => ∃ tp cs cvs r, xs = [.ref a, .ref tp] ∧ H tp = some (.tup cs) ∧ Paired ClsV cs cvs ∧ PySem.W.kitAny X.K (.ref C) cvs = some r ∧ H dd = some (.xd [(xAt, v)]) ∧ Q (.bl r) H := by
    intro pins s σ H xs us Q I r hh
    obtain ⟨tp, cs, cvs, rr, rfl, ht, k, e1, ed, q⟩ := hh
    obtain ⟨u1, u2, rfl, r1, r2⟩ := vals2 r
    cases (show u1 = Value.ref a from r1)
    cases (show u2 = Value.ref tp from r2)
    obtain ⟨od, J⟩ := inst_of I hp hz hf ed
    obtain ⟨_, its, rv, o, h1, h2, n, h3⟩ := (show ObjOk X.prog X.w H s.heap tp (.tup cs) from I.hok tp _ ht)
    have e3 := ClsV.all k rv
    subst e3
    obtain ⟨oc, od2, dt, sl⟩ := o
    simp only at h2 h3
    subst h2 h3
    exact PySem.W.kia_tup (err_kit T G) I.kIn ⟨od, J⟩ h1 e1 (fun z => nomatch z) fun tk => ⟨.bl rr, H, I.tok tk, rfl, q⟩
  exact ex_cb B cr (fun F H σ Q E q => run_a (pa_cons (peR e) (pa_cons (pe_tup (paR es)) pa_nil he2) he) (h F H σ _ E fun v1 d1 F1 H1 ρ1 E1 s1 dn1 ⟨e1, k1⟩ => k1 F1 H1 σ _ E1 fun vs ds F2 H2 ρ2 E2 s2 dn2 ⟨cvs, r, c, hl, hk, k⟩ => ⟨by rw [dn2.length]; exact hl, fun p hpn => by
    subst e1
    cases dn1
    have t := Stp.newF (o := .tup vs) E2.sub hpn
    have E3 := E2.step t
    exact ⟨p, vs, cvs, r, rfl, upd_same, c.v dn2, hk, E3.keep dd _ h0 hM, q _ _ _ _ ρ2 E3 ((s1.trans s2).trans t.tr) (.bl r) k⟩⟩)) he hpl
end
end DL
set_option maxHeartbeats 2000000
/-! DL, part 12: try .. except X as e, defs that are called there. -/
namespace DL
open PySem PySem.Spec PySem.Calls PyProof.Rows L2 L2H

/-- the program that a context belongs to -/
structure AtP (X : Cx) (P : Program) (w : World) (K : PySem.W.Frag) (mg : Str → Option Value) (base : Heap) : Prop where
  p : X.prog = P
  w : X.w = w
  k : X.K = K
  g : X.mg = mg
  b : X.base = base
section
variable {X X' : Cx} {P : Program} {w : World} {K : PySem.W.Frag} {mg : Str → Option Value} {base : Heap} {k j : Nat} {x : Str} {ps : List Str} {S : Spec}
theorem AtP.fn (A : AtP X P w K mg base) (h : FnD P w K mg base k x ps S) : FnAt X k x ps S := by
  obtain ⟨rfl, rfl, rfl, rfl, rfl⟩ := A
  exact h
theorem AtP.gl (A : AtP X P w K mg base) {u : Option Value} (h : mg x = u) : X.mg x = u := by rw [A.g]; exact h
theorem AtP.blk {scope : Scope} (A : AtP X P w K mg base) (b : IsBlk X X' scope) : AtP X' P w K mg base := by
  obtain ⟨s, H, c, cl, fp, rfl⟩ := b
  exact ⟨A.p, A.w, A.k, A.g, A.b⟩
end
/-- the frame's own facts, whatever is handled -/
structure Cx0 (X : Cx) (N : List Str) (sc : Scope) : Prop where
  n : X.N = N
  s : X.env.scope = sc
  nd : X.N.Nodup
structure CxtH (X : Cx) (k : Nat) (N : List Str) (sc : Scope) : Prop extends Cx0 X N sc where
  hot : HotC X
  room : RoomH k X.A
section
variable {X : Cx} {k : Nat} {N : List Str} {sc : Scope} {W : Wd} {ρ : Rho} {Φ : Out → Prop} {i : Nat} {x : Str} {e : Expr} {p1 pos : Pos}
theorem Cxt.c0 (C : Cxt X k N sc) : Cx0 X N sc := ⟨C.n, C.s, C.nd⟩
theorem vars0 (C : Cx0 X N sc) (h : N.all (visB sc) = true) (i : Nat) (x : Str) (hx : N[i]? = some x) : VarOk X i x := by
  have hm := List.all_eq_true.mp h x (List.mem_of_getElem? hx)
  unfold visB at hm
  simp only [Bool.and_eq_true, Bool.not_eq_true'] at hm
  obtain ⟨⟨h1, h2⟩, h3⟩ := hm
  have l : Loc X.env.scope x := by
    rw [C.s]
    split at h1
    · rename_i e; exact .inl e
    · rename_i e; exact .inr e
    · cases h1
  exact ⟨by rw [C.n]; exact hx, l.elim .inl fun z => .inr (.inl z), h2, h3⟩
theorem locs0 (C : Cx0 X N sc) (hf : ∀ x, X.fn x = true) (h : N.all (visB sc) = true) (i : Nat) (x : Str) (hx : N[i]? = some x) : LocOk X i x := by
  have v := vars0 C h i x hx
  have hm := List.all_eq_true.mp h x (List.mem_of_getElem? hx)
  unfold visB at hm
  simp only [Bool.and_eq_true, Bool.not_eq_true'] at hm
  refine ⟨v.n, ?_, .inl (hf x)⟩
  rw [C.s]
  have h1 := hm.1.1
  split at h1
  · rename_i e; exact .inl e
  · rename_i e; exact .inr e
  · cases h1
theorem glb0 (C : Cx0 X N sc) (h : glbB sc x = true) : GlbOk X x := by
  unfold glbB at h
  simp only [Bool.and_eq_true, Bool.not_eq_true', decide_eq_true_eq] at h
  obtain ⟨⟨h1, h2⟩, h3⟩ := h
  exact ⟨by show X.env.scope.names.lookup x = _; rw [C.s]; exact h1, h2, fun e => by rw [e] at h3; simp at h3⟩
theorem blt0 {u : Value} (C : Cx0 X N sc) (m : X.mg x = none) (hv : bootBuiltins x = some u) (h : glbB sc x = true) : BltOk X x u := ⟨glb0 C h, m, hv⟩
theorem s_asg0 (C : Cx0 X N sc) (hv : LocOk X i x) (h : EX X W e ρ fun d ρ1 => Φ (.nx (ρ1.set i (.val d)))) (hs : swapsWith e (some (.Name x p1)) pos.line X.env = pure false := by rfl) : S1 X W (.Assign [.Name x p1] e pos) ρ Φ := fun F H σ E D q =>
  run_s (ps_set C.nd hv.n hv.l (peR e) hs hv.f) (h F H σ _ D fun v d F' H' ρ' E' s dn kk => q.nx _ _ _ _ (E'.set dn) (s.trans tr_set) kk)
theorem s_asgN0 (C : Cx0 X N sc) (hv : LocOk X i x) (h : NX X W e ρ fun ds ρ1 => Φ (.nx (ρ1.set i (.own ds)))) (hs : swapsWith e (some (.Name x p1)) pos.line X.env = pure false := by rfl) : S1 X W (.Assign [.Name x p1] e pos) ρ Φ := fun F H σ E D q =>
  run_s (ps_set C.nd hv.n hv.l (peR e) hs hv.f) (h F H σ _ D fun p vs ds F' H' ρ' E' s h1 h2 h3 h4 dl ho kk => q.nx _ _ _ _ (E'.setOwn h1 h2 h4 dl fun j t _ hj hm => ho j t hj hm) (tr_own h3 s) kk)
end

/-! ### the ground is laid anew -/
def NoMut (ρ : Rho) : Prop := ∀ s ∈ ρ, ¬ s.mut
section
variable {K : PySem.W.Frag} {W : Wd} {F H F' H' : Hp} {σ σ' : L2.St} {ρ ρ' : Rho}
theorem NoMut.at {i : Nat} {s : Sl} (h : NoMut ρ) (hi : ρ[i]? = some s) : ¬ s.mut := h s (List.mem_of_getElem? hi)
theorem EnvD.rebase (E : EnvD K W F H σ ρ) (nm : NoMut ρ) : EnvD K ⟨H, F, fun _ => False⟩ F H σ ρ where
  sub := E.sub
  f0 := Same.refl _
  new := fun a h _ => h
  keep := fun a o h _ => h
  live := fun a h => h
  len := E.len
  sl := fun i s hi => by
    have h := E.sl i s hi
    cases s with
    | no => trivial
    | val d => exact h
    | own ds => exact absurd trivial (nm.at hi)
    | ino p ds => exact absurd trivial (nm.at hi)
  dis := E.dis
theorem EnvD.back (E : EnvD K W F H σ ρ) (E1 : EnvD K ⟨H, F, fun _ => False⟩ F' H' σ' ρ') : EnvD K W F' H' σ' ρ' where
  sub := E1.sub
  f0 := E.f0.trans E1.f0
  new := fun a h1 h2 => E1.new a (E.new a h1 h2) (E.live a h2)
  keep := fun a o h m => E1.keep a o (E.keep a o h m) id
  live := fun a h => E1.live a (E.live a h)
  len := E1.len
  sl := fun i s hi => by
    have h := E1.sl i s hi
    cases s with
    | no => trivial
    | val d => exact h
    | own ds =>
      obtain ⟨p, vs, e, h1, h2, h3, h4⟩ := h
      exact ⟨p, vs, e, h1, h0_none E h2, h3, h4⟩
    | ino p ds =>
      obtain ⟨vs, e, h1, h2, _⟩ := h
      exact h2.elim
  dis := E1.dis
theorem EnvD.trOf (E1 : EnvD K ⟨H, F, fun _ => False⟩ F' H' σ' ρ') : Tr F H σ ρ F' H' σ' ρ' where
  fs := E1.f0
  kp := fun a o h _ => ⟨E1.keep a o h id, fun j s hj hm e => by
    have hs := E1.sl j s hj
    cases s with
    | no => exact hm
    | val d => exact hm
    | own ds =>
      obtain ⟨p, vs, e1, _, h2, _⟩ := hs
      rw [e] at e1
      injection e1 with e1; injection e1 with e1; injection e1 with e1
      have h2' : H p = none := h2
      rw [← e1, h] at h2'
      cases h2'
    | ino p ds =>
      obtain ⟨_, _, _, h2, _⟩ := hs
      exact h2⟩
  lv := fun a h => E1.live a h
  nf := fun a h1 h2 _ => E1.new a h2 h1
end

/-! ### try -/
/-- X' is the context of a try's body in X -/
def IsTry (X X' : Cx) : Prop := ∃ (pn : List (Addr × Obj)) (xe : Value → Shared → Prop), X' = X.tr pn xe
/-- X' is the context of an except suite in X -/
def IsSui (X X' : Cx) : Prop := ∃ (a : Addr) (pn : List (Addr × Obj)), X' = X.suite a pn
section
variable {X X' : Cx} {k : Nat} {N : List Str} {sc : Scope} {P : Program} {w : World} {K : PySem.W.Frag} {mg : Str → Option Value} {base : Heap}
theorem IsTry.at (b : IsTry X X') (A : AtP X P w K mg base) : AtP X' P w K mg base := by
  obtain ⟨pn, xe, rfl⟩ := b
  exact ⟨A.p, A.w, A.k, A.g, A.b⟩
theorem IsSui.at (b : IsSui X X') (A : AtP X P w K mg base) : AtP X' P w K mg base := by
  obtain ⟨a, pn, rfl⟩ := b
  exact ⟨A.p, A.w, A.k, A.g, A.b⟩
theorem IsSui.c0 (b : IsSui X X') (C : Cxt X k N sc) : Cx0 X' N sc := by
  obtain ⟨a, pn, rfl⟩ := b
  exact ⟨C.n, C.s, C.nd⟩
theorem IsTry.fn (b : IsTry X X') (h : ∀ x, X.fn x = true) (x : Str) : X'.fn x = true := by
  obtain ⟨pn, xe, rfl⟩ := b
  exact h x
theorem IsSui.fn (b : IsSui X X') (h : ∀ x, X.fn x = true) (x : Str) : X'.fn x = true := by
  obtain ⟨a, pn, rfl⟩ := b
  exact h x
end
/-- what stands behind the suite: the name is gone -/
def Sui (i : Nat) (Φ : Out → Prop) : Out → Prop
  | .nx ρ => Φ (.nx (ρ.set i .no)) | .bk ρ => Φ (.bk (ρ.set i .no)) | .ct ρ => Φ (.ct (ρ.set i .no)) | o => Φ o
/-- what an error of the body is to reach: the suite -/
def Caught (X : Cx) (k : Nat) (N : List Str) (sc : Scope) (B : Addr) (i : Nat) (suite : List Stmt) (Φ : Out → Prop) (C : Addr) (d : D) (ρ : Rho) : Prop :=
  NoMut ρ ∧ PySem.W.exmOne X.K (.ref C) (.ref B) = some true ∧ ∀ (X' : Cx) (W' : Wd) (a : Addr), IsSui X X' → CxtH X' k N sc → XObj X' W' a C d → SX X' W' suite (ρ.set i (.val (.ref a))) (Sui i Φ)
section
variable {X : Cx} {W : Wd} {ρ : Rho} {Φ : Out → Prop} {k : Nat} {N : List Str} {sc : Scope} {B : Addr} {i : Nat} {x n : Str} {body suite : List Stmt} {b₀ : Stmt} {np pos' pos : Pos}
theorem s_try (C : Cxt X k N sc) (hst : X.stack = X.env :: X.outer) (hfr : X.env.frame = some X.env.locals) (nm : NoMut ρ) (G : GlbOk X x) (hm : X.mg x = some (.ref B)) (hn : N[i]? = some n) (hl : sc.names.lookup n = some .local)
    (h : ∀ (X' : Cx) (W' : Wd), IsTry X X' → Cxt X' k N sc → Thr X' W' (Caught X k N sc B i (b₀ :: suite) Φ) → SX X' W' body ρ Φ) :
    S1 X W (.Try body [.ExceptHandler (some (.Name x np)) (some n) (b₀ :: suite) pos'] [] [] pos) ρ Φ := fun F H σ E D q => by
  have hi : X.N[i]? = some n := by rw [C.n]; exact hn
  have hln : X.env.kindOf n = some .local := by show X.env.scope.names.lookup n = _; rw [C.s]; exact hl
  have ends : ∀ {X' : Cx} {Φ1 : Out → Prop} {F1 H1 : Hp} {σ1 : L2.St} {ρ1 : Rho}, X'.K = X.K → EnvD X.K W F1 H1 σ1 ρ1 → Tr F H σ ρ F1 H1 σ1 ρ1 → (∀ o, Φ1 o → Φ o) → EndsOk X' ⟨H1, F1, fun _ => False⟩ F1 H1 σ1 ρ1 Φ1 E := fun {X' Φ1 F1 H1 σ1 ρ1} eK E1 t1 m =>
    ⟨fun F' H' σ' ρ' g s kk => q.nx F' H' σ' ρ' (E1.back (by rw [eK] at g; exact g)) (t1.trans s) (m _ kk), fun F' H' σ' ρ' v d g s dn kk => q.rt F' H' σ' ρ' v d (E1.back (by rw [eK] at g; exact g)) (t1.trans s) (by rw [eK] at dn; exact dn) (m _ kk),
      fun F' H' σ' ρ' p vs ds g s a b c dn o kk => q.rl F' H' σ' ρ' p vs ds (E1.back (by rw [eK] at g; exact g)) (t1.trans s) a (h0_none E1 b) c (by rw [eK] at dn; exact dn) o (m _ kk),
      fun F' H' σ' ρ' g s kk => q.bk F' H' σ' ρ' (E1.back (by rw [eK] at g; exact g)) (t1.trans s) (m _ kk), fun F' H' σ' ρ' g s kk => q.ct F' H' σ' ρ' (E1.back (by rw [eK] at g; exact g)) (t1.trans s) (m _ kk)⟩
  refine run_s (L2N.ps_try_as (Wout := fun _ _ _ _ => False) (tb := fun Wx D σ H => ∀ pn xe, L2N.Takes (X.tr pn xe) Wx → PassesOwn (model X.prog X.w) X.A X.env xe → RunSs (X.tr pn xe) body D σ H)
    (ts := fun a cls d D σ H => ∀ oe pn, L2N.Zn cls d oe → (∃ vs, oe.data = .fields vs) → RunSs (X.suite a ((a, oe) :: pn)) (b₀ :: suite) D σ H)
    hst hfr C.nd hi hln ⟨G.g, G.d, .inl hm⟩ takesN (fun Wx pn xe tk ps => ⟨fun pins s σ H D I z => z pn xe tk ps pins s I⟩) (fun a oe cls d pn hz hf => ⟨fun pins s σ H D I z => z oe pn hz hf pins s I⟩)) ?_
  intro pn xe tk ps
  have E0 := D.rebase nm
  refine h (X.tr pn xe) ⟨H, F, fun _ => False⟩ ⟨pn, xe, rfl⟩ ⟨C.n, C.s, C.nd, C.calm, ps, C.room⟩ ⟨_, tk, fun F1 H1 σ1 ρ1 C1 dd v d E1 hx hF1 h01 dn ⟨nm1, hex, hsu⟩ => ⟨true, hex, fun _ a ha oe pn2 hz hf => ?_, fun z => by cases z⟩⟩ F H σ E E0 (ends rfl D Tr.refl fun _ z => z)
  have E1' : EnvD X.K W F1 H1 σ1 ρ1 := D.back E1
  have t1 : Tr F H σ ρ F1 H1 σ1 ρ1 := EnvD.trOf E1
  have E2 := E1'.set (i := i) (.ref a)
  have nm2 : NoMut (ρ1.set i (.val (.ref a))) := fun s hs => by
    rcases List.mem_or_eq_of_mem_set hs with z | z
    · exact nm1 s z
    · rw [z]; exact id
  have E3 := E2.rebase nm2
  have hot : HotC (X.suite a ((a, oe) :: pn2)) := by
    obtain ⟨vs, hv⟩ := hf
    exact ⟨(a, oe), ⟨rfl, vs, hv, hz.2.2 vs hv⟩, List.mem_cons_self⟩
  have rm := roomH_of C.room
  refine hsu (X.suite a ((a, oe) :: pn2)) ⟨H1, F1, fun _ => False⟩ a ⟨a, _, rfl⟩ ⟨⟨C.n, C.s, C.nd⟩, hot, ⟨rm.dp, rm.un⟩⟩ ⟨⟨oe, dd, v, List.mem_cons_self, hz, hf, hx, id, dn⟩, rfl⟩ F1 H1 _ _ E3 ?_
  have t2 : Tr F H σ ρ F1 H1 (σ1.set i (some (.ref a))) (ρ1.set i (.val (.ref a))) := t1.trans tr_set
  exact ⟨fun F' H' σ' ρ' g s kk => q.nx F' H' _ _ ((E2.back g).forget i) ((t2.trans s).trans (tr_forget i)) kk, fun F' H' σ' ρ' v d g s dn kk => q.rt F' H' σ' ρ' v d (E2.back g) (t2.trans s) dn kk,
    fun F' H' σ' ρ' p vs ds g s a b c dn o kk => q.rl F' H' σ' ρ' p vs ds (E2.back g) (t2.trans s) a (h0_none E2 b) c dn o kk,
    fun F' H' σ' ρ' g s kk => q.bk F' H' _ _ ((E2.back g).forget i) ((t2.trans s).trans (tr_forget i)) kk, fun F' H' σ' ρ' g s kk => q.ct F' H' _ _ ((E2.back g).forget i) ((t2.trans s).trans (tr_forget i)) kk⟩
end
end DL
set_option maxHeartbeats 4000000
/-! DL, part 13: defs called where an error is handled; comprehensions there. -/
namespace DL
open PySem PySem.Spec PySem.Calls PyProof.Rows L2 L2H

/-! ### the promise of a def that is handed the caught error -/
abbrev SpecH := Addr → D → Addr → List D → (D → Prop) → Prop
def spH (K : PySem.W.Frag) (S : SpecH) (p : Addr × Obj) : Sp := fun vs H Q _ => ∃ (F : Hp) (as : List D) (Φ : D → Prop) (C dd : Addr) (v : V) (d : D), Same F H ∧ DenL K F vs as ∧ L2N.Zn (.ref C) (some dd) p.2 ∧ (∃ fs, p.2.data = .fields fs) ∧
  H dd = some (.xd [(xAt, v)]) ∧ Den K F v d ∧ S C d p.1 as Φ ∧ ∀ (v : V) (d : D) (F' H' : Hp), Post K F H none none F' H' → Den K F' v d → Φ d → Q v H'
structure FnHot (P : Program) (w : World) (K : PySem.W.Frag) (mg : Str → Option Value) (base : Heap) (k : Nat) (f : Addr) (fd : FuncData) (ps : List Str) (sp : Addr × Obj → Sp) : Prop where
  len : ∀ p vs H Q E, sp p vs H Q E → vs.length = ps.length
  run : ∀ (A : Around) (outer : List Env) (s : Shared) (H : Hp) (args : Args) (us : List Value) (vs : List V) (Q : VK) (E : XK) (p : Addr × Obj), RoomH k A → Hot1 A p → PinOk outer H s p → Env0 P w K mg base A outer s H → BindsTo s fd args (ps.zip us) → Vals vs us → sp p vs H Q E →
    codeAny (model P w) A (.call (.ref f) args) (CR (L2N.CX P w) outer P w H s Q E) s
def FnDH (P : Program) (w : World) (K : PySem.W.Frag) (mg : Str → Option Value) (base : Heap) (k : Nat) (x : Str) (ps : List Str) (S : SpecH) : Prop :=
  ∃ (fa : Addr) (fd : FuncData), mg x = some (.ref fa) ∧ PySem.W.keepIn K (.ref fa) = true ∧ Binds K fd ps [] ∧ FnHot P w K mg base k fa fd ps (spH K S)
/-- its body -/
structure BodyH (X : Cx) (W : Wd) (k : Nat) (N : List Str) (sc : Scope) (a C : Addr) (d : D) : Prop where
  c : CxtH X k N sc
  fn : ∀ x, X.fn x = true
  x : XObj X W a C d
/-- the ends of such a body -/
def FinH (Φ : D → Prop) : Out → Prop
  | .nx _ => Φ .non | .rt d _ => Φ d | _ => False
section
variable {P : Program} {w : World} {K : PySem.W.Frag} {mg : Str → Option Value} {base : Heap}
theorem fnH_of {x qual : Str} {st : Stmt} {f : Addr} {fd : FuncData} {N ps : List Str} {k : Nat} {S : SpecH} (hm : mg x = some (.ref f)) (Fu : FunD K x qual (defArgs st) (defBody st) (defScope st) [] [] f fd) (b : Binds K fd ps []) (Sc : FnScope N ps (defScope st))
    (len : ∀ C d a as Φ, S C d a as Φ → as.length = ps.length)
    (body : ∀ (X : Cx), AtP X P w K mg base → ∀ (W : Wd) (a C : Addr) (d : D) (as : List D) (Φ : D → Prop), S C d a as Φ → BodyH X W k N (defScope st) a C d → SX X W (defBody st) (as.map Sl.val ++ List.replicate (N.length - ps.length) Sl.no) (FinH Φ)) :
    FnDH P w K mg base (k + 1) x ps S := by
  have lenv : ∀ p vs H Q E, spH K S p vs H Q E → vs.length = ps.length := fun p vs H Q E ⟨F, as, Φ, C, dd, v, d, _, dl, _, _, _, _, hS, _⟩ => by
    rw [dl.length]
    exact len _ _ _ _ _ hS
  have kp := Fu.kp
  obtain ⟨oc, od, dV, kV, doc, pm, an, cdv, ct, osl, rfl, lk, hcd, _, _⟩ := Fu.ex
  refine ⟨f, _, hm, kp, b, ⟨lenv, fun A outer s H args us vs Q E p hr hot hpin e0 hbt r hsp => ?_⟩⟩
  have hl := lenv _ _ _ _ _ hsp
  have KX : K.In s.heap := e0.mod.kin.keeps fun b o e => (e0.bs b o e).1
  have hkind : ∀ y ∈ ps.zip us, (defScope st).names.lookup y.1 = some .local ∨ ((defScope st).names.lookup y.1 = some .cell ∧ ((cellsFrom (s.heap.objs.size + 1) (defScope st).names []).lookup y.1).isSome = true) := fun ⟨n, v⟩ hy =>
    (Sc.par n (List.of_mem_zip hy).1).elim .inl fun q => .inr ⟨q, PySem.W.cellsFrom_some _ _ _ (.inl q)⟩
  refine codeAny_call_function hr.depth (KX _ _ lk) rfl Sc.co Sc.gen rfl (PySem.W.codeRec_of KX hcd) (hbt _ _ _ _ (wpAny_newFunctionEnv_cells Sc.kind hkind fun env he s1 xc => ?_))
  subst he
  refine ⟨(e0.mod.nolimit.keeps fun b o e => (e0.bs b o e).1).keeps xc.toInCall.keep, codeAny_func ?_⟩
  have I := inv_startH (CX := L2N.CX P w) (qual := qual) (f := f) (cd := cdv) (E := E) Sc hpin e0 hl r xc
  obtain ⟨F, as, Φ, C, dd, v, d, hs, dl, hz, hf, hd, dn, hS, hQ⟩ := hsp
  have rm : RoomH k (A.deeper (envOfC qual (defScope st) s.heap.objs.size f cdv)) := hr.deeper _
  generalize hX : cxH (L2N.CX P w) P w K mg base N qual (defScope st) f cdv A outer s H E p = X at I
  have aP : AtP X P w K mg base := by rw [← hX]; exact ⟨rfl, rfl, rfl, rfl, rfl⟩
  have B : BodyH X ⟨H, F, fun _ => False⟩ k N (defScope st) p.1 C d := by
    rw [← hX]
    exact ⟨⟨⟨rfl, rfl, Sc.nd⟩, ⟨p, hot, List.mem_cons_self⟩, rm⟩, fun _ => rfl, ⟨⟨p.2, dd, v, List.mem_cons_self, hz, hf, hd, id, dn⟩, hot.1⟩⟩
  have hb := body X aP _ p.1 C d as Φ hS B
  have hN : ps.length ≤ N.length := by have h := congrArg List.length Sc.pre; rw [List.length_take] at h; omega
  have Ev : EnvD X.K ⟨H, F, fun _ => False⟩ F H (L2.start N vs) (as.map Sl.val ++ List.replicate (N.length - ps.length) Sl.no) := by
    rw [aP.k]
    have z := ent_env (K := K) (o := none) hs dl (N := N) (by rw [hl]; exact hN)
    have eW : (fun a => ∃ ds, (none : Option (Addr × List D)) = some (a, ds)) = fun _ : Addr => False := by
      funext a
      exact propext ⟨fun ⟨_, e⟩ => (by cases e), fun e => False.elim e⟩
    rw [eW] at z
    unfold ent at z
    rw [hl, List.nil_append] at z
    exact z
  have post : ∀ {F' H' : Hp} {σ' : L2.St} {ρ' : Rho}, EnvD X.K ⟨H, F, fun _ => False⟩ F' H' σ' ρ' → Post K F H none none F' H' := fun {F' H' σ' ρ'} g =>
    ⟨g.f0, g.sub, fun a h1 h2 => g.new a h2 h1, fun a u e _ => g.keep a u e id, fun a h => g.live a h, trivial⟩
  have done := hb F H (L2.start N vs) { nx := fun _ H' => Q .non H', rt := Q } Ev
    ⟨fun F' H' σ' ρ' g _ kk => hQ _ _ F' H' (post g) .non kk, fun F' H' σ' ρ' v d g _ dn kk => hQ v d F' H' (post g) (by rw [aP.k] at dn; exact dn) kk, fun _ _ _ _ _ _ _ _ _ _ _ _ _ _ z => z.elim, fun _ _ _ _ _ _ z => z.elim, fun _ _ _ _ _ _ z => z.elim⟩ [] s1 I
  rw [← hX] at done
  refine wpAny_mono done (fun fl s' hsp' => ?_) fun e s' h => h
  have fin : ∀ {σ' : L2.St} {H' : Hp} {v : V} {u : Value}, Inv (cxH (L2N.CX P w) P w K mg base N qual (defScope st) f cdv A outer s H E p) [] σ' H' s' → RelV v u → Q v H' → CE outer P w H s Q u s' :=
    fun {σ' H' v u} J rv q => ⟨v, H', J.os, J.bare, J.base, J.hok, rv, q⟩
  cases fl with
  | next =>
    obtain ⟨σ', H', J, q⟩ := hsp'
    exact fin (v := V.non) J rfl q
  | ret u =>
    obtain ⟨v, σ', H', J, rv, q⟩ := hsp'
    exact fin J rv q
  | _ =>
    obtain ⟨_, _, _, q⟩ := hsp'
    exact q.elim
end
section
variable {X : Cx} {P : Program} {w : World} {K : PySem.W.Frag} {mg : Str → Option Value} {base : Heap} {W : Wd} {ρ : Rho} {Φ : D → Rho → Prop} {pos p1 p2 : Pos} {i k : Nat} {x : Str} {e : Expr} {es : List Expr} {ps : List Str} {S : SpecH} {a C : Addr} {d : D} {N : List Str} {sc : Scope} {j : Nat}
/-- f(.., the error, ..) where the error is handled -/
theorem ex_callH (A : AtP X P w K mg base) (Cc : CxtH X j N sc) (hx : XObj X W a C d) (G : GlbOk X x) (Fn : FnDH P w K mg base k x ps S) (hr : k ≤ j) (h : AX X W (e :: es) ρ fun as ρ1 => S C d a as fun d' => Φ d' ρ1)
    (he : starEach (e :: es) X.env = (false, eval e X.env) :: starEach es X.env := by rfl) (hpl : (backTo pos (starEach es X.env)).any (·.1) = false := by rfl) : EX X W (.Call (.Name x p1) (e :: es) [] pos) ρ Φ := by
  obtain ⟨rfl, rfl, rfl, rfl, rfl⟩ := A
  obtain ⟨fa, fd, hm, hk, hb, F1⟩ := Fn
  obtain ⟨oe, dd, v, hp, hz, hf, h0, hM, hd⟩ := hx.ex
  intro F H σ Q E q pins s I
  refine wpAny_Call_Name_kw (ld_glob I G.g hm ?_ G.d)
  refine PySem.W.callWith_K (h₀ := X.base) I.ok.mod.kin hk (thn (h F H σ (fun vs H1 => spH X.K S (a, oe) vs H1 Q fun _ _ _ => False) E (fun vs as F1 H1 ρ1 E1 s1 dl hS => ?_) pos pins s I) fun us s1 ⟨vs, H1, I1, r, q1⟩ => ⟨I1.kIn, ?_⟩) he hpl
  · exact ⟨F1, as, _, C, dd, v, d, E1.sub, dl, hz, hf, E1.keep dd _ h0 hM, hd.mono E1.f0, hS, fun v d F' H' po dn hk => q v d F' H' ρ1 (E1.step po.stp) (s1.trans po.stp.tr) dn hk⟩
  · have hl : (us ++ []).length = ps.length := by rw [List.append_nil, ← r.length]; exact F1.len _ _ _ _ _ q1
    have P1 := I1.pin (a, oe) (List.mem_append_left _ hp)
    have hpin : PinOk X.stack H1 s1 (a, oe) := ⟨P1.1, P1.2.1, fun hm => (List.mem_cons.mp (I1.stkSub a hm)).elim P1.2.2.1 P1.2.2.2.1, P1.2.2.2.2⟩
    have hot : Hot1 X.A (a, oe) := by
      obtain ⟨fs, hv⟩ := hf
      exact ⟨hx.hh, fs, hv, hz.2.2 fs hv⟩
    refine wpAny_call (codeAny_mono (F1.run X.A X.stack s1 H1 ⟨us, []⟩ us vs Q _ (a, oe) (Cc.room.mono hr) hot hpin I1.env0 (by have hbb := hb s1 us I1.kIn hl; rw [List.append_nil] at hbb; exact hbb) r q1) fun r' s' hq => ?_)
    cases r' with
    | error er =>
      obtain ⟨_, _, _, _, _, _, _, _, _, _, _, _, z⟩ := hq
      exact z.elim
    | ok fl =>
      cases fl with
      | ret u => exact I1.after hq
      | _ => exact hq.elim
end
end DL
set_option maxHeartbeats 4000000
/-! DL, part 14: comprehensions over a range, where an error is handled. -/
namespace DL
open PySem PySem.Spec PySem.Calls PyProof.Rows L2 L2H

def RunIH (X : Cx) (tg iter : Expr) : TI := fun σ H R => ∀ (pins : List (Addr × Obj)) (s : Shared), Inv X pins σ H s →
  wpAny (model X.prog X.w) X.A (eval iter X.env) (fun v s1 => wpAny (model X.prog X.w) X.A (pyIter v) (PIEH X pins σ tg R) X.xe s1) X.xe s
theorem piRH {X : Cx} (tg iter : Expr) : PIH X tg iter (RunIH X tg iter) := ⟨fun pins s _ _ _ I h => h pins s I⟩
/-- a block's context there -/
def IsBlkH (X X' : Cx) (scope : Scope) : Prop := ∃ (s : Shared) (H : Hp) (C : Addr) (cl : List (Str × Addr)) (fp : List Addr), X' = { X.blk s H scope (compEnvC scope cl C X.env) fp with pn := X.pn }
theorem IsBlkH.K {X X' : Cx} {scope : Scope} (b : IsBlkH X X' scope) : X'.K = X.K := by
  obtain ⟨_, _, _, _, _, rfl⟩ := b
  rfl
theorem IsBlkH.cxt {X X' : Cx} {scope : Scope} {k : Nat} {N : List Str} {sc : Scope} (b : IsBlkH X X' scope) (C : CxtH X k N sc) : CxtH X' k N (blkScope scope sc) := by
  obtain ⟨s, H, c, cl, fp, rfl⟩ := b
  refine ⟨⟨C.n, ?_, C.nd⟩, C.hot, C.room⟩
  rw [← C.s]
  rfl
theorem IsBlkH.loc {X X' : Cx} {scope : Scope} {k : Nat} {N : List Str} {sc : Scope} (b : IsBlkH X X' scope) (C : CxtH X k N sc) {i : Nat} {x : Str} (hx : N[i]? = some x) (hl : (blkScope scope sc).names.lookup x = some .local) : LocOk X' i x := by
  have C' := b.cxt C
  exact ⟨by rw [C'.n]; exact hx, .inl (by rw [C'.s]; exact hl), .inr (by rw [C'.s]; exact hl)⟩
def tTsH (X : Cx) (scope : Scope) (ifs : List Expr) : TT := match ifs with
  | [] => tYes
  | [c] => fun σ H Q => ∀ X', IsBlkH X X' scope → RunT X' c σ H Q
  | _ => fun _ _ _ => False
theorem yes_ofH {X : Cx} {scope : Scope} {σ : L2.St} {H : Hp} {Q : Bool → Hp → Prop} (h : Q true H) : tTsH X scope [] σ H Q := h
theorem pts_RH {X X' : Cx} {scope : Scope} (b : IsBlkH X X' scope) (ifs : List Expr) : PTs X' ifs (tTsH X scope ifs) := by
  match ifs with
  | [] => exact pts_nil
  | [c] => exact pts_one ⟨fun pins s _ _ _ I h => h X' b pins s I⟩
  | _ :: _ :: _ => exact ⟨fun _ _ _ _ _ _ h => h.elim⟩
def IXH (X : Cx) (W : Wd) (tg iter : Expr) (ρ : Rho) (Φ : List D → Rho → Prop) : Prop := ∀ (F H : Hp) (σ : L2.St) (R : It → Hp → Prop), EnvD X.K W F H σ ρ →
  (∀ (J : It) (ds : List D) (F' H' : Hp) (ρ' : Rho), EnvD X.K W F' H' σ ρ' → Tr F H σ ρ F' H' σ ρ' → WalkD X.K J F' ds → Φ ds ρ' → R J H') → RunIH X tg iter σ H R
theorem ixH_range1 {X : Cx} {W : Wd} {ρ : Rho} {tg a : Expr} {p1 pos : Pos} {Ψ : List D → Rho → Prop} (B : BltOk X "range" (.type "range")) (h : EX X W a ρ fun d ρ1 => ∃ j, d = .int j ∧ -(2 ^ 62) ≤ j ∧ j < 2 ^ 62 ∧ Ψ (steps 0 1 j.toNat) ρ1) (hs : starEach [a] X.env = [(false, eval a X.env)] := by rfl) :
    IXH X W tg (.Call (.Name "range" p1) [a] [] pos) ρ Ψ := fun F H σ R D q pins s I =>
  (pi_range1H (tg := tg) B.g.g B.m (paR [a]) hs).run pins s σ H R I (runA1 (h F H σ _ D fun v d F' H' ρ' E' s dn ⟨j, ed, h1, h2, k⟩ => by
    subst ed
    cases dn
    exact ⟨j, rfl, h1, h2, q _ _ F' H' ρ' E' s walk_r k⟩) hs)
section
variable {X : Cx} {W : Wd} {ρ : Rho} {Ψ : List D → Rho → Prop} {pos : Pos} {i j k : Nat} {x : Str} {tg iter elt c : Expr} {ifs : List Expr} {N : List Str} {sc scope : Scope} {own : List (Str × Nat)}
theorem lc_readH (ok : BlkOk X.N X.env.scope scope own) (hnd : (own.map (·.2)).Nodup)
    (h : IXH X W tg iter ρ fun ds ρ1 => (∀ v ∈ own.map (·.2), ¬ (ρ1.getD v .no).mut) ∧ ∃ Jv : Nat → List D → Rho → Prop, Jv 0 [] (wipeR ρ1 (own.map (·.2))) ∧
      (∀ (i : Nat) d acc ρ', ds[i]? = some d → Jv i acc ρ' → ∀ X1, IsBlkH X X1 scope → GC X1 W (own.map (·.2)) tg d ρ' fun ρ2 => ∀ X2, IsBlkH X X2 scope → TsX X2 W ifs ρ2 fun t ρ3 =>
        (t = true → ∀ X3, IsBlkH X X3 scope → EX X3 W elt ρ3 fun e ρ4 => acc.length < sizeLine ∧ Jv (i + 1) (acc ++ [e]) (wipeR ρ4 (own.map (·.2)))) ∧ (t = false → Jv (i + 1) acc (wipeR ρ3 (own.map (·.2))))) ∧
      (∀ acc ρ', Jv ds.length acc ρ' → Ψ acc (unwipe ρ1 ρ' (own.map (·.2))))) {F H : Hp} {σ : L2.St} {Q : VK} (D0 : EnvD X.K W F H σ ρ)
    (q : ∀ (p : Addr) (vs : List V) (ds : List D) (F' H' : Hp) (ρ' : Rho), EnvD X.K W F' H' σ ρ' → Tr F H σ ρ F' H' σ ρ' → F' p = none → W.H0 p = none → H p = none → H' p = some (.lst vs) → DenL X.K F' vs ds → Off σ ρ' p → Ψ ds ρ' → Q (.ref p) H') :
    tLc (RunIH X tg iter) (fun v σ H Q => ∀ X', IsBlkH X X' scope → RunG X' tg v σ H Q) (tTsH X scope ifs) (fun σ H Q => ∀ X', IsBlkH X X' scope → RunE X' elt σ H Q) (own.map (·.2)) σ H Q := by
  generalize hw : own.map (·.2) = ws at *
  refine h F H σ _ D0 fun J ds F1 H1 ρ1 E1 s1 wk ⟨hm, Jv, h0, ht, hd⟩ L hL => ?_
  have Ew := E1.wipe ws
  have L0 : W.H0 L = none := h0_none E1 hL
  refine ⟨fun i m H' => m = ds.length - i ∧ i ≤ ds.length ∧ ∃ F' ρ' us acc, EnvD X.K W F' H' (L2.wipe σ ws) ρ' ∧ Tr F1 H1 (L2.wipe σ ws) (wipeR ρ1 ws) F' H' (L2.wipe σ ws) ρ' ∧ F' L = none ∧ Off (L2.wipe σ ws) ρ' L ∧ H' L = some (.lst us) ∧ DenL X.K F' us acc ∧ Jv i acc ρ',
    ⟨ds.length, by simp, Nat.zero_le _, F1, wipeR ρ1 ws, [], [], Ew.step (Stp.newO Ew.sub hL), (Stp.newO Ew.sub hL).tr, E1.none_f hL, off_of Ew hL, upd_same, .nil, h0⟩, ?_⟩
  rintro i m H' ⟨rfl, hi, F', ρ', us, acc, E', t', hF, ho, hL', dl, hv⟩
  by_cases hlt : i < ds.length
  · refine .inr ⟨wk.go i H' (t'.fs.trans E'.sub) hlt, fun H2 => i + 1 ≤ ds.length ∧ ∃ F' ρ' us acc, EnvD X.K W F' H2 (L2.wipe σ ws) ρ' ∧ Tr F1 H1 (L2.wipe σ ws) (wipeR ρ1 ws) F' H2 (L2.wipe σ ws) ρ' ∧ F' L = none ∧ Off (L2.wipe σ ws) ρ' L ∧ H2 L = some (.lst us) ∧ DenL X.K F' us acc ∧ Jv (i + 1) acc ρ',
      fun H2 z => ⟨_, by omega, rfl, z⟩, fun xv H2 y => ?_⟩
    obtain ⟨F2, d, st, hd2, dn⟩ := wk.turn E' t'.fs hlt y
    intro X1 b1
    have K1 : X1.K = X.K := by exact b1.K
    have g := ht i d acc ρ' hd2 hv X1 b1 F2 H2 (L2.wipe σ ws) xv
    rw [K1] at g
    refine g _ (E'.step st) dn fun F3 H3 σ3 ρ3 E3 s3 hw3 k3 => ⟨hw3.trans ?_, ?_⟩
    · exact wipe_idem
    · have kL : ∀ {F4 H4 : Hp} {τ : L2.St} {ρ4 : Rho}, Tr F' H' (L2.wipe σ ws) ρ' F4 H4 τ ρ4 → H4 L = some (.lst us) ∧ Off τ ρ4 L := fun t => t.kp L _ hL' ho
      have nF : ∀ {F4 H4 : Hp} {τ : L2.St} {ρ4 : Rho}, Tr F' H' (L2.wipe σ ws) ρ' F4 H4 τ ρ4 → F4 L = none := fun t => t.nf L (by rw [hL']; simp) hF ho
      have t3 := st.tr.trans s3
      have back : ∀ {F4 H4 : Hp} {ρ4 : Rho}, EnvD X.K W F4 H4 σ3 ρ4 → EnvD X.K W F4 H4 (L2.wipe σ ws) (wipeR ρ4 ws) := fun E4 => by
        have E5 := E4.wipe ws
        rw [hw3, wipe_idem] at E5
        exact E5
      have tback : ∀ {F4 H4 : Hp} {ρ4 : Rho}, Tr F1 H1 (L2.wipe σ ws) (wipeR ρ1 ws) F4 H4 σ3 ρ4 → Tr F1 H1 (L2.wipe σ ws) (wipeR ρ1 ws) F4 H4 (L2.wipe σ ws) (wipeR ρ4 ws) := fun t => by
        have t5 := t.trans (tr_wipe ws)
        rw [hw3, wipe_idem] at t5
        exact t5
      have fin0 : ∀ {F4 H4 : Hp} {ρ4 : Rho}, EnvD X.K W F4 H4 σ3 ρ4 → Tr F' H' (L2.wipe σ ws) ρ' F4 H4 σ3 ρ4 → Jv (i + 1) acc (wipeR ρ4 ws) → i + 1 ≤ ds.length ∧ ∃ F' ρ' us acc, EnvD X.K W F' H4 (L2.wipe σ ws) ρ' ∧ Tr F1 H1 (L2.wipe σ ws) (wipeR ρ1 ws) F' H4 (L2.wipe σ ws) ρ' ∧ F' L = none ∧ Off (L2.wipe σ ws) ρ' L ∧ H4 L = some (.lst us) ∧ DenL X.K F' us acc ∧ Jv (i + 1) acc ρ' := fun {F4 H4 ρ4} E4 t4 j4 => by
        have tt := t4.trans (tr_wipe ws)
        rw [hw3, wipe_idem] at tt
        exact ⟨hlt, F4, _, us, acc, back E4, tback (t'.trans t4), nF t4, (kL tt).2, (kL t4).1, dl.mono t4.fs, j4⟩
      have fin1 : ∀ {F4 H4 : Hp} {ρ4 : Rho} {y : V} {e : D}, EnvD X.K W F4 H4 σ3 ρ4 → Tr F' H' (L2.wipe σ ws) ρ' F4 H4 σ3 ρ4 → Den X.K F4 y e → acc.length < sizeLine → Jv (i + 1) (acc ++ [e]) (wipeR ρ4 ws) →
          ∃ acc', H4 L = some (.lst acc') ∧ acc'.length < sizeLine ∧ (i + 1 ≤ ds.length ∧ ∃ F' ρ' us acc, EnvD X.K W F' (upd H4 L (.lst (acc' ++ [y]))) (L2.wipe σ ws) ρ' ∧ Tr F1 H1 (L2.wipe σ ws) (wipeR ρ1 ws) F' (upd H4 L (.lst (acc' ++ [y]))) (L2.wipe σ ws) ρ' ∧ F' L = none ∧ Off (L2.wipe σ ws) ρ' L ∧
            (upd H4 L (.lst (acc' ++ [y]))) L = some (.lst us) ∧ DenL X.K F' us acc ∧ Jv (i + 1) acc ρ') := fun {F4 H4 ρ4 y e} E4 t4 dn hz j4 => by
        have tt := t4.trans (tr_wipe ws)
        rw [hw3, wipe_idem] at tt
        exact ⟨us, (kL t4).1, by rw [dl.length]; exact hz, hlt, F4, _, us ++ [y], acc ++ [e], (back E4).updOff (nF t4) L0 (kL tt).2, (tback (t'.trans t4)).updNew hL, nF t4, (kL tt).2, upd_same, (dl.mono t4.fs).snoc dn, j4⟩
      have elts : ∀ {F4 H4 : Hp} {ρ4 : Rho}, EnvD X.K W F4 H4 σ3 ρ4 → Tr F' H' (L2.wipe σ ws) ρ' F4 H4 σ3 ρ4 → (∀ X3, IsBlkH X X3 scope → EX X3 W elt ρ4 fun e ρ4 => acc.length < sizeLine ∧ Jv (i + 1) (acc ++ [e]) (wipeR ρ4 ws)) →
          ∀ X', IsBlkH X X' scope → RunE X' elt σ3 H4 fun y H4 => ∃ acc', H4 L = some (.lst acc') ∧ acc'.length < sizeLine ∧ (i + 1 ≤ ds.length ∧ ∃ F' ρ' us acc, EnvD X.K W F' (upd H4 L (.lst (acc' ++ [y]))) (L2.wipe σ ws) ρ' ∧ Tr F1 H1 (L2.wipe σ ws) (wipeR ρ1 ws) F' (upd H4 L (.lst (acc' ++ [y]))) (L2.wipe σ ws) ρ' ∧ F' L = none ∧ Off (L2.wipe σ ws) ρ' L ∧
            (upd H4 L (.lst (acc' ++ [y]))) L = some (.lst us) ∧ DenL X.K F' us acc ∧ Jv (i + 1) acc ρ') := fun {F4 H4 ρ4} E4 t4 k4 X3 b3 => by
        have K3 : X3.K = X.K := by exact b3.K
        have g3 := k4 X3 b3 F4 H4 σ3
        rw [K3] at g3
        exact g3 _ E4 fun y e F5 H5 ρ5 E5 s5 dn5 k5 => fin1 (y := y) (e := e) E5 (t4.trans s5) dn5 k5.1 k5.2
      match ifs, k3 with
      | [], k3 =>
        have k4 := k3 X1 b1
        refine yes_ofH ?_
        rw [if_pos rfl]
        exact elts E3 t3 (k4.1 rfl)
      | [c], k3 =>
        intro X2 b2
        have K2 : X2.K = X.K := by exact b2.K
        have g2 : TX X2 W c ρ3 _ := k3 X2 b2
        have g2' := g2 F3 H3 σ3
        rw [K2] at g2'
        refine g2' _ E3 fun t F4 H4 ρ4 E4 s4 k4 => ?_
        cases t with
        | false => rw [if_neg Bool.false_ne_true]; exact fin0 E4 (t3.trans s4) (k4.2 rfl)
        | true => rw [if_pos rfl]; exact elts E4 (t3.trans s4) (k4.1 rfl)
      | _ :: _ :: _, k3 => exact (k3 X1 b1).elim
  · have e : i = ds.length := by omega
    subst e
    refine .inl ⟨wk.stop H' (t'.fs.trans E'.sub), ?_⟩
    have E5 := EnvD.unwipe E1 t'.fs ws hnd hm E'
    have tw : Tr F1 H1 σ ρ1 F' H' (L2.wipe σ ws) ρ' := (tr_wipe ws).trans t'
    have tr5 : Tr F1 H1 σ ρ1 F' H' σ (unwipe ρ1 ρ' ws) := ⟨tw.fs, fun a o h k => let ⟨h1, k1⟩ := tw.kp a o h k; ⟨h1, off_unwipe hm k1⟩, tw.lv, tw.nf⟩
    exact q L us acc F' H' _ E5 (s1.trans tr5) hF L0 (s1.free hL) hL' dl (off_unwipe hm ho) (hd acc ρ' hv)

/-- the comprehension itself -/
theorem lc_hot {wi : TI} {g : TG} {tt : TT} {te : TE} {pos' : Pos} {σ : L2.St} {H : Hp} {Q : VK} {pins : List (Addr × Obj)} {s : Shared} {Qf : Value → Shared → Prop} (hot : HotC X) (hN : X.N.Nodup) (I : Inv X pins σ H s) (hi : PIH X tg iter wi) (ok : BlkOk X.N X.env.scope scope own)
    (hg : ∀ X', IsBlkH X X' scope → PG X' tg g) (ht : ∀ X', IsBlkH X X' scope → PTs X' ifs tt) (he : ∀ X', IsBlkH X X' scope → PE X' elt te) (hs : ∀ x, foldedSetIterable iter X.env x = pure x) (h : tLc wi g tt te (own.map (·.2)) σ H Q)
    (hRR : ∀ D C s' m H', Inv X pins σ H' s' → Q (.ref D) H' → s'.heap.Ns C m → FpOk X pins H' C → compPost (model X.prog X.w) X.A X.xe none Qf (.ref D) C (.ok .next) s') :
    wpAny (model X.prog X.w) X.A (comprehension (.ListComp elt [⟨tg, iter, ifs, 0⟩] scope pos) scope X.env pos' (newList []) false (eval iter X.env) none) Qf X.xe s := by
  have free1 : ∀ y ∈ scope.names, y.2 = .free → ∃ c, X.env.cells.lookup y.1 = some c := fun y hy e => (ok.free y hy e).elim (fun z => I.ok.has _ (.inl z)) fun z => I.ok.has _ (.inr z)
  refine wpAny_comprehension_free (use := none) rfl hs (closure_ok free1) ok.kind (fun y hy e => by rw [ok.uniq y hy, e]) (thn (hi.run pins s σ H _ I h) fun xv s1 hx => thn hx fun itv s2 h2 => ?_)
  obtain ⟨it, fp, tn, J, H2, e, I2, T, st2, f2, q⟩ := h2
  subst e
  refine wpAny_newObj_type (newEnv_comp ?_) (by show 0 ≤ sizeLine; decide)
  generalize hL : s2.heap.objs.size = L
  have Ln : H2 L = none := I2.hok.fresh (Nat.le_of_eq hL)
  obtain ⟨Wm, ⟨m0, w0⟩, turn⟩ := q L Ln
  generalize hs3 : ({ s2 with heap := s2.heap.push { cls := .type "list", data := .seq ([] : List Value).toArray } } : Shared) = s3
  have h3 : s3.heap = s2.heap.push { cls := .type "list", data := .seq ([] : List Value).toArray } := by rw [← hs3]
  have I3 : Inv X pins σ (upd H2 L (.lst [])) s3 := by
    rw [← hs3]
    refine I2.laid (t' := s2.toks) (fun b o e => Heap.get?_push_of_some _ e) (Nat.le_of_eq hL) ⟨Nat.zero_le _, [], 0, .nil, ?_⟩
    rw [← hL]
    exact Heap.get?_push_size _ rfl
  have f3 : ∀ b ∈ fp, FpOk X pins (upd H2 L (.lst [])) b ∧ b < s3.heap.objs.size := fun b hb => by
    obtain ⟨o, eo, _⟩ := T.obj _ _ st2 b hb
    have lt := Heap.lt_size eo
    exact ⟨⟨by rw [upd_ne (by rw [← hL]; exact Nat.ne_of_lt lt)]; exact (f2 b hb).1, (f2 b hb).2⟩, by rw [h3, Heap.size_push]; exact Nat.lt_succ_of_lt lt⟩
  have st3 : tn 0 s3.heap := T.keep _ _ _ st2 fun b _ o e => by rw [h3]; exact Heap.get?_push_of_some _ e
  have I4 := block_start I3 ok hN f3
  generalize hcl : cellsFrom (s3.heap.objs.size + 1) scope.names (cloFrom X.env.cells scope.names []) = cl at I4
  generalize hH3 : upd H2 L (.lst []) = H3 at I3 I4 w0 f3
  have st4 : tn 0 (pushCells (s3.heap.push { cls := .type "dict", data := .dict #[] }) scope.names) := T.keep _ _ _ st3 fun b _ o e => pushCells_keeps _ _ _ _ (Heap.get?_push_of_some _ e)
  have kp4 : ∀ b o, s3.heap.get? b = some o → (pushCells (s3.heap.push { cls := .type "dict", data := .dict #[] }) scope.names).get? b = some o := fun b o e => pushCells_keeps _ _ _ _ (Heap.get?_push_of_some _ e)
  -- the block's context bears the frame's pins
  let Y : Cx := { X.blk s3 H3 scope (compEnvC scope cl s3.heap.objs.size X.env) fp with pn := X.pn }
  have bY : IsBlkH X Y scope := ⟨s3, H3, s3.heap.objs.size, cl, fp, rfl⟩
  have hotY : HotC Y := hot
  have IY : Inv Y [] (L2.wipe σ (own.map (·.2))) H3 { s3 with heap := pushCells (s3.heap.push { cls := .type "dict", data := .dict #[] }) scope.names } :=
    ⟨⟨I4.ok.mod, I4.ok.kind, I4.ok.glob, I4.ok.blt, I4.ok.above, I4.ok.inj, I4.ok.has, I4.ok.cab, I4.ok.hd, I4.ok.frames, I4.ok.stk, I4.ok.exf, I4.ok.bs, I4.ok.bsz, I4.ok.noex, I4.ok.exfs, I4.ok.funs, I4.ok.frf⟩, I4.os, I4.bare, I4.base, I4.loc, I4.cell, I4.free, I4.freeC, fun p hp => by
      have hp' : p ∈ X.pn := by
        have z : p ∈ X.pn ++ ([] : List (Addr × Obj)) := hp
        rw [List.append_nil] at z
        exact z
      obtain ⟨a1, a2, a3, a4, a5⟩ := I3.pin p (List.mem_append_left _ hp')
      refine ⟨kp4 _ _ a1, a2, Nat.ne_of_lt (Heap.lt_size a1), fun hm => ?_, a5⟩
      exact (List.mem_cons.mp (I3.stkSub p.1 hm)).elim a3 a4, I4.hok, I4.len⟩
  have pg := hg Y bY
  have pt := ht Y bY
  have pe := he Y bY
  have nfp : ∀ b ∈ fp, H3 b = none := fun b hb => (f3 b hb).1.1
  have stat : ∀ {σ' : L2.St} {H' : Hp} {s' : Shared}, Inv Y [] σ' H' s' → (∀ b ∈ fp, H' b = none) → ∀ b ∈ fp, FpOk Y [] H' b := fun {σ' H' s'} I' hn b hb =>
    ⟨hn b hb, (I'.ok.exf b hb).1, I'.ok.exfs b hb, .inl hb, fun x c e => (I'.ok.exf b hb).2 x c e, fun p hp => (f3 b hb).1.2.2.2.2.2 p (by
      have z : p ∈ X.pn ++ ([] : List (Addr × Obj)) := hp
      rw [List.append_nil] at z
      exact List.mem_append_left _ z)⟩
  have loop : codeAny (model X.prog X.w) X.A (.compLoop (.ListComp elt [⟨tg, iter, ifs, 0⟩] scope pos) 0 (.ref it) (.ref L) (compEnvC scope cl s3.heap.objs.size X.env)) (compPost (model X.prog X.w) X.A X.xe none Qf (.ref L) s3.heap.objs.size)
      { s3 with heap := pushCells (s3.heap.push { cls := .type "dict", data := .dict #[] }) scope.names } := by
    refine compLoop_any (fun n s' => ∃ i H', Inv Y [] (L2.wipe σ (own.map (·.2))) H' s' ∧ tn i s'.heap ∧ (∀ b ∈ fp, H' b = none) ∧ Wm i n H') ?_ m0 ⟨0, H3, IY, st4, nfp, w0⟩
    rintro n s5 ⟨i, H5, I5, st5, n5, w5⟩
    rcases turn i n H5 w5 with ⟨stop, qq⟩ | ⟨go, Nx, hNx, step⟩
    · refine thnF (T.done Y rfl rfl rfl hotY i [] s5 _ H5 (fun _ _ => False) I5 (stat I5 n5) st5 stop) fun r s6 ⟨hr, I6⟩ => ?_
      subst hr
      have I7 : Inv X pins σ H5 s6 := I3.call' (ch := fp) I6.os I6.base I6.hok I6.bare fun b hb => ⟨(f3 b hb).1.2.2.2.1, (f3 b hb).1.2.1, (f3 b hb).1.2.2.2.2.1, (f3 b hb).1.2.2.2.2.2⟩
      have nC : H5 s3.heap.objs.size = none := I6.free
      obtain ⟨m, hn, _⟩ := I6.loc
      exact hRR L s3.heap.objs.size s6 m H5 I7 qq hn (I3.fpOk (Nat.le_refl _) nC)
    · refine thnF (T.item Y rfl rfl rfl hotY i [] s5 _ H5 (fun _ _ => False) I5 (stat I5 n5) st5 go) fun r s6 ⟨u, hr, h6⟩ => ?_
      subst hr
      refine thnF h6 fun _ s7 ⟨xv, H7, I7, r7, y7, st7, n7⟩ => ?_
      have I7' := I7.pinned (stat I7 n7) (T.obj _ _ st7)
      refine thnF (pg.run _ s7 _ H7 xv u _ I7' r7 (step xv H7 y7)) fun _ s8 ⟨σ8, H8, I8, hw8, q8⟩ => ?_
      refine thnF (pt.run _ s8 σ8 H8 _ I8 q8) fun b s9 ⟨H9, I9, q9⟩ => ?_
      have fin : ∀ {s' : Shared} {H' : Hp}, Inv Y ([] ++ pinsAt fp s7.heap) σ8 H' s' → Nx H' → ∃ m, m < n ∧ ∃ i H', Inv Y [] (L2.wipe σ (own.map (·.2))) H' s' ∧ tn i s'.heap ∧ (∀ b ∈ fp, H' b = none) ∧ Wm i m H' := fun {s' H'} I' nx => by
        obtain ⟨m', hm, w'⟩ := hNx H' nx
        have pin1 : ∀ b ∈ fp, ∀ o, s7.heap.get? b = some o → s'.heap.get? b = some o ∧ H' b = none := fun b hb o e =>
          let z := I'.pin (b, o) (List.mem_append_right _ (List.mem_append_right _ (mem_pinsAt hb e)))
          ⟨z.1, z.2.1⟩
        refine ⟨m', hm, i + 1, H', (I'.unpinned (pins := [])).weak (by rw [← hw8, wipe_length]) (fun j v e => ?_), T.keep _ _ _ st7 fun b hb o e => (pin1 b hb o e).1, fun b hb => ?_, w'⟩
        · rw [← hw8] at e
          exact (wipe_some e).1
        · obtain ⟨o, e, _⟩ := T.obj _ _ st7 b hb
          exact (pin1 b hb o e).2
      cases b with
      | false =>
        simp only [Bool.false_eq_true, if_false] at q9 ⊢
        exact fin I9 q9
      | true =>
        simp only [if_true] at q9 ⊢
        refine thnF (pe.run _ s9 σ8 H9 _ I9 q9) fun z s10 ⟨yv, H10, I10, r10, acc, hD10, hz10, nx⟩ => ?_
        exact app_ok (X := Y) I10 hD10 hz10 r10 fun s11 I11 => fin I11 nx
  subst hcl
  exact codeAny_compStart_list loop (T.self X.A 0 _ _ _ st4 loop)
theorem nx_lcH (Cc : CxtH X k N sc) (ok : BlkOk X.N X.env.scope scope own) (hnd : (own.map (·.2)).Nodup)
    (h : IXH X W tg iter ρ fun ds ρ1 => (∀ v ∈ own.map (·.2), ¬ (ρ1.getD v .no).mut) ∧ ∃ Jv : Nat → List D → Rho → Prop, Jv 0 [] (wipeR ρ1 (own.map (·.2))) ∧
      (∀ (i : Nat) d acc ρ', ds[i]? = some d → Jv i acc ρ' → ∀ X1, IsBlkH X X1 scope → GC X1 W (own.map (·.2)) tg d ρ' fun ρ2 => ∀ X2, IsBlkH X X2 scope → TsX X2 W ifs ρ2 fun t ρ3 =>
        (t = true → ∀ X3, IsBlkH X X3 scope → EX X3 W elt ρ3 fun e ρ4 => acc.length < sizeLine ∧ Jv (i + 1) (acc ++ [e]) (wipeR ρ4 (own.map (·.2)))) ∧ (t = false → Jv (i + 1) acc (wipeR ρ3 (own.map (·.2))))) ∧
      (∀ acc ρ', Jv ds.length acc ρ' → Ψ acc (unwipe ρ1 ρ' (own.map (·.2)))))
    (hs : ∀ x, foldedSetIterable iter X.env x = pure x := by intro _; rfl) : NX X W (.ListComp elt [⟨tg, iter, ifs, 0⟩] scope pos) ρ Ψ := fun F H σ Q D0 q pins s I => by
  rw [eval_ListComp]
  refine lc_hot Cc.hot Cc.nd I (piRH tg iter) ok (fun X' b => ⟨fun pins s' σ' H' v u Q' I r hh => hh _ b pins s' u I r⟩) (fun X' b => pts_RH b ifs) (fun X' b => ⟨fun pins s' σ' H' Q' I hh => hh _ b pins s' I⟩) hs (lc_readH ok hnd h D0 q) fun D C s' m H' I' q hn f => ⟨m, hn, fun h'' sb => ?_⟩
  obtain ⟨f0, f1, f2, f3, f4, f5⟩ := f
  exact ⟨.ref D, H', I'.turned (t' := s'.toks) (fun b o hb e => (sb.2 b hb).trans e) f0 f1 f3 f4 f5, rfl, q⟩
end
end DL
set_option maxHeartbeats 4000000
/-! DL, part 15: enumerate from a start, list(range), reversed copies, an own list's truth. -/
namespace DL
open PySem PySem.Spec PySem.Calls PyProof.Rows L2

/-- t[::-1] -/
theorem getItem_tuple_rev {prog : Program} {w : World} {A : Around} {E : Value → Shared → Prop} {s : Shared} {t sl : Addr} {items : Array Value} {vl vu vst : Value} {Q : Value → Shared → Prop} (ht : IsTup s.heap t items) (hs : s.heap.IsSliceOf sl vl vu vst) (pl : IsPart vl none) (pu : IsPart vu none) (ps : IsPart vst (some (-1)))
    (hsz : items.size ≤ sizeLine) (h : Q (.ref s.heap.objs.size) { s with heap := s.heap.push { cls := .type "tuple", data := .seq items.toList.reverse.toArray } }) : wpAny (model prog w) A (getItem (.ref t) (.ref sl)) Q E s := by
  obtain ⟨os, hos, hcs, hds⟩ := id hs
  have hTs : s.TypeIs (.ref sl) "slice" := ⟨os, hos, hcs⟩
  have hok : sizeOk (.seq items.toList.reverse.toArray) := by show items.toList.reverse.toArray.size ≤ sizeLine; simpa using hsz
  have pk : ((List.range items.size).filterMap fun (k : Nat) => items[(((items.size : Int) - 1) + (k : Int) * (-1)).toNat]?).toArray = items.toList.reverse.toArray := by
    have e0 : ((List.range items.size).filterMap fun (k : Nat) => items[(((items.size : Int) - 1) + (k : Int) * (-1)).toNat]?) = ((List.range items.size).map fun (k : Nat) => (((items.size : Int) - 1) + (k : Int) * (-1)).toNat).filterMap (items[·]?) := by rw [List.filterMap_map]; rfl
    have e1 : ((List.range items.size).map fun (k : Nat) => (((items.size : Int) - 1) + (k : Int) * (-1)).toNat) = (List.range items.size).map fun k => items.size - 1 - k := List.map_congr_left fun k hk => by
      have := List.mem_range.mp hk
      omega
    rw [e0, e1, PySem.W.krv_range, List.filterMap_reverse, PySem.W.krv_all]
  have adj : Builtin.Slice.sliceAdjust none none (-1) (items.size : Int) = ((items.size : Int) - 1, -1) := rfl
  have plc : Builtin.Slice.slicePlaces ((items.size : Int) - 1) (-1) (-1) = items.size := by
    unfold Builtin.Slice.slicePlaces
    rw [if_neg (by decide)]
    split
    · rw [show (-(-1) : Int) = 1 from rfl, Int.ediv_one]; omega
    · omega
  unfold getItem
  try with_reducible refine wpAny_holding ?_
  first | refine wpAny_bind (wpAny_pure ?_) | skip
  refine wpAny_bind (wpAny_sequenceKey ht.typeIs (by decide) (wpAny_bind (wpAny_callSpecial?_slot (name := Str.ofString "__getitem__") ht.typeIs PyProof.Rows.slot_tuple_getitem (wpAny_call_entry PyProof.Rows.slot_tuple_getitem ht.typeIs PyProof.Rows.entry_tuple_getitem ?_ (PyProof.Rows.args_tuple_getitem _ _)))))
  show wpAny _ _ (Builtin.Tuple.tupleItemsOf (.ref t) >>= _) _ _ s
  refine wpAny_bind (tupleItemsOf_ ht (wpAny_bind (wpAny_typeOf hTs ?_)))
  rw [if_pos (by decide)]
  refine wpAny_bind ?_
  unfold Builtin.Slice.sliceApplied Builtin.Slice.sliceFields
  refine wpAny_bind (wpAny_bind (wpAny_field hos hds (x := vl) rfl (wpAny_bind (wpAny_field hos hds (x := vu) rfl (wpAny_bind (wpAny_field hos hds (x := vst) rfl (wpAny_pure ?_)))))))
  refine wpAny_bind (HT.slicePart_ ps ?_)
  show wpAny _ _ (if ((-1 : Int) == 0) = true then _ else _) _ _ s
  rw [if_neg (by decide)]
  refine wpAny_bind (HT.slicePart_ pl (wpAny_bind (HT.slicePart_ pu (wpAny_bind (wpAny_pure ?_)))))
  show wpAny _ _ (match Builtin.Slice.sliceAdjust none none (-1) (items.size : Int) with | (lo, hi) => pure (lo, (-1 : Int), Builtin.Slice.slicePlaces lo hi (-1))) _ _ s
  rw [adj]
  show wpAny _ _ (pure (((items.size : Int) - 1), (-1 : Int), Builtin.Slice.slicePlaces ((items.size : Int) - 1) (-1) (-1))) _ _ s
  rw [plc]
  refine wpAny_pure ?_
  show wpAny _ _ (if ((((items.size : Int) - 1) == 0 && (-1 : Int) == 1 && items.size == items.size) = true) then _ else _) _ _ s
  rw [if_neg (by rw [Bool.and_eq_true, Bool.and_eq_true]; rintro ⟨⟨_, q⟩, _⟩; exact absurd q (by decide)), pk]
  first
    | exact wpAny_bind (m := Builtin.Tuple.tupleExact _) (wpAny_newObj_type (wpAny_pure ⟨_, rfl, wpAny_pure h⟩) hok)
    | exact wpAny_bind (m := Builtin.Tuple.tupleExact _) (wpAny_newObj_type (wpAny_bind (wpAny_pure (wpAny_pure ⟨_, rfl, wpAny_pure h⟩))) hok)
    | exact wpAny_bind (wpAny_bind (m := Builtin.Tuple.tupleExact _) (wpAny_newObj_type (wpAny_pure (wpAny_pure ⟨_, rfl, wpAny_pure h⟩)) hok))
    | exact wpAny_bind (wpAny_bind (m := Builtin.Tuple.tupleExact _) (wpAny_newObj_type (wpAny_pure ⟨_, rfl, wpAny_pure h⟩) hok))

section
variable {X : Cx} {W : Wd} {ρ : Rho} {Φ : D → Rho → Prop} {Θ : Bool → Rho → Prop} {Ψ : List D → Rho → Prop} {pos p1 p2 p3 p4 : Pos} {i k : Nat} {x f : Str} {d : D} {a b c e : Expr} {es : List Expr}
/-- an own list as a test -/
theorem tx_truthS {s : Sl} {ds : List D} (hv : VarOk X i x) (hi : ρ[i]? = some s) (hs : s.items = some ds) (kk : Θ (!ds.isEmpty) ρ) : TX X W (.Name x p1) ρ Θ := fun F H σ Q E q => by
  obtain ⟨p, vs, hp, hF, hH, dl⟩ := E.at_slot hi hs
  exact run_t (pt_truth (pe_var hv.n hv.v hv.d hv.c) (by intro _; rfl)) ⟨.ref p, hp, !ds.isEmpty, .inl ⟨_, SqL.of hH, by rw [denL_empty dl]⟩, q _ F H ρ E Tr.refl kk⟩
/-- xs[::-1] of a list -/
theorem nx_revL {kk : Nat} (h : EX X W e ρ fun d ρ1 => ∃ ds, (d = .lst ds ∨ d = .frz ds) ∧ Ψ ds.reverse ρ1) : NX X W (.Subscript e (.Slice none none (some (.UnaryOp .USub (.Constant (.int 1) kk p1) p2)) p3) pos) ρ Ψ := fun F H σ Q E q =>
  run_e (pe_revL (peR e)) (h F H σ _ E fun v d F1 H1 ρ1 E1 s1 dn ⟨ds, ed, k1⟩ => by
    have key : ∃ p vs, v = .ref p ∧ SqL X.K F1 p vs ∧ DenL X.K F1 vs ds := by
      rcases ed with ed | ed
      · subst ed
        cases dn with
        | lst hv dl => exact ⟨_, _, rfl, SqL.of hv, dl⟩
      · subst ed
        cases dn with
        | frz hv dl => exact ⟨_, _, rfl, hv, dl⟩
    obtain ⟨p, vs, rfl, hv, dl⟩ := key
    exact ⟨p, vs, rfl, sqL_mono E1.sub hv, fun r hr => nx_fin q E1 s1 hr dl.reverse k1⟩)
/-- t[::-1] of a tuple -/
theorem ex_revT {kk : Nat} (h : EX X W e ρ fun d ρ1 => ∃ ds, d = .tup ds ∧ Φ (.tup ds.reverse) ρ1) : EX X W (.Subscript e (.Slice none none (some (.UnaryOp .USub (.Constant (.int 1) kk p1) p2)) p3) pos) ρ Φ := fun F H σ Q E q => by
  intro pins s I
  refine Subscript_ (thn (h F H σ (fun v H1 => ∃ p vs, v = .ref p ∧ SqT X.K H1 p vs ∧ ∀ r, H1 r = none → Q (.ref r) (upd H1 r (.tup vs.reverse))) E (fun v d F1 H1 ρ1 E1 s1 dn ⟨ds, ed, k1⟩ => by
    subst ed
    cases dn with
    | tup hv dl => exact ⟨_, _, rfl, sqT_mono E1.sub hv, fun r hr => q _ _ _ _ ρ1 (E1.step (Stp.newF E1.sub hr)) (s1.trans (Stp.newF E1.sub hr).tr) (.tup (SqT.of upd_same) (dl.reverse.mono (Stp.newF E1.sub hr).fs)) k1⟩) pins s I) fun v s1 ⟨x, H1, I1, r1, p, vs, ex, hx, q1⟩ => ?_)
  subst ex
  cases r1
  have hst : PO X (some (.UnaryOp .USub (.Constant (.int 1) kk p1) p2)) (tPart (tUn (rU fun i => .int (-i)) (tC (.int 1)))) := po_some (pe_un un_neg pe_int)
  refine wpAny_Slice (thn (po_none.run pins s1 σ H1 (fun o H2 => o = none ∧ H2 = H1) I1 ⟨rfl, rfl⟩) fun vl s2 ⟨l, H2, I2, pl, el, e2⟩ => ?_)
  subst el e2
  refine thn (po_none.run pins s2 σ H2 (fun o H3 => o = none ∧ H3 = H2) I2 ⟨rfl, rfl⟩) fun vu s3 ⟨u, H3, I3, pu, eu, e3⟩ => ?_
  subst eu e3
  refine thn (hst.run pins s3 σ H3 (fun o H4 => o = some (-1) ∧ H4 = H3) I3 ⟨1, rfl, -1, rfl, rfl, rfl⟩) fun vst s4 ⟨o, H4, I4, ps, eo, e4⟩ => ?_
  subst eo e4
  have I5 : Inv X pins σ H4 { s4 with heap := s4.heap.push { cls := .type "slice", data := .fields #[vl, vu, vst] } } := I4.kept (t' := s4.toks) fun b ob q => Heap.get?_push_of_some _ q
  obtain ⟨its, r, ht, hz⟩ := I5.tuple hx
  have hlen := r.length
  show wpAny (model X.prog X.w) X.A (subscriptTail e (.Slice none none (some (.UnaryOp .USub (.Constant (.int 1) kk p1) p2)) p3) (.ref p) (.ref s4.heap.objs.size)) (EP X pins σ Q) X.xe { s4 with heap := s4.heap.push { cls := .type "slice", data := .fields #[vl, vu, vst] } }
  refine tail_any (ops := [.ref p, .ref s4.heap.objs.size]) ht.typeIs (PyProof.Rows.slot_tuple_getitem.lookup) ?_ (by with_unfolding_all rfl)
  refine getItem_tuple_rev ht (Heap.IsSliceOf.new _ vl vu vst) pl pu ps (by rw [List.size_toArray]; omega) ?_
  refine ⟨.ref _, _, I5.laid (t' := s4.toks) (o := .tup vs.reverse) (fun b ob q => Heap.get?_push_of_some _ q) (Nat.le_refl _) ?_, rfl, q1 _ (I5.hok.fresh (Nat.le_refl _))⟩
  exact ⟨by rw [List.length_reverse]; exact hz, _, r.reverse, _, Heap.get?_push_size _ rfl, rfl, 0, by simp⟩
/-- list(range(a, b)) -/
theorem nx_listRg {te : L2.St → Hp → (Int → Int → Hp → Prop) → Prop} (hc : X.calm = true) (B : BltOk X "list" (.type "list")) (he : PRg X e te) (h : ∀ F H σ (Q : Int → Int → Hp → Prop), EnvD X.K W F H σ ρ → (∀ (l u : Int) (F' H' : Hp) (ρ' : Rho), EnvD X.K W F' H' σ ρ' → Tr F H σ ρ F' H' σ ρ' → RgOk l u ∧ Ψ (steps l 1 (u - l).toNat) ρ' → Q l u H') → te σ H Q)
    (na : starEach [e] X.env = (false, eval e X.env) :: starEach [] X.env := by rfl) : NX X W (.Call (.Name "list" p1) [e] [] pos) ρ Ψ := fun F H σ Q E q =>
  run_e (pe_listRg hc B.g.g B.m he na) (h F H σ _ E fun l u F' H' ρ' E' s ⟨hr, k⟩ => by
    refine ⟨hr, fun p hp => ?_⟩
    refine nx_fin q E' s hp ?_ k
    have e1 : rgV l u = ((List.range (u - l).toNat).map fun (j : Nat) => l + (j : Int) * 1).map V.int := by
      unfold rgV
      rw [List.map_map]
      exact List.map_congr_left fun j _ => by show V.int (l + (j : Int)) = V.int (l + (j : Int) * 1); rw [Int.mul_one]
    have e2 : steps l 1 (u - l).toNat = ((List.range (u - l).toNat).map fun (j : Nat) => l + (j : Int) * 1).map D.int := by unfold steps; rw [List.map_map]; rfl
    rw [e1, e2]
    exact ints_denL _)
end
end DL
set_option maxHeartbeats 4000000
/-! DL, part 16: enumerate(x, start=k) over lists and tuples. -/
namespace DL
open PySem PySem.Spec PySem.Calls PyProof.Rows L2

/-- the list (b) or tuple at a, its items xs in new pairs, counted from k0 -/
def IteS (K : PySem.W.Frag) (b : Bool) (k0 : Int) (a : Addr) (xs : List V) : It :=
  ⟨fun i H => SqOk K H b a xs ∧ i < xs.length, fun i H v H' => ∃ T x, v = .ref T ∧ H T = none ∧ H' = upd H T (.tup [.int (k0 + (i : Nat)), x]) ∧ xs[i]? = some x, fun i H => SqOk K H b a xs ∧ i = xs.length⟩
/-- the iterator at it over the list or tuple at a, at place i -/
def ItAt (b : Bool) (h : Heap) (it a : Addr) (i : Nat) : Prop := if b = true then h.IsListIter it a i else h.IsTupleIter it a i
theorem ItAt.obj {b : Bool} {h : Heap} {it a : Addr} {i : Nat} (x : ItAt b h it a i) : ∃ o, h.get? it = some o ∧ ∀ v, o.data ≠ .cell v := by
  cases b with
  | true =>
    obtain ⟨o, ho, _, hd⟩ := (show h.IsListIter it a i from x)
    exact ⟨o, ho, fun v q => by rw [hd] at q; cases q⟩
  | false =>
    obtain ⟨o, ho, _, hd⟩ := (show h.IsTupleIter it a i from x)
    exact ⟨o, ho, fun v q => by rw [hd] at q; cases q⟩
theorem ItAt.keep {b : Bool} {h h' : Heap} {it a : Addr} {i : Nat} (x : ItAt b h it a i) (k : ∀ o, h.get? it = some o → h'.get? it = some o) : ItAt b h' it a i := by
  cases b with
  | true => exact (show h.IsListIter it a i from x).at k
  | false => exact (show h.IsTupleIter it a i from x).at k
theorem draws_of {X : Cx} {pins : List (Addr × Obj)} {s : Shared} {σ : L2.St} {H : Hp} {b : Bool} {a it : Addr} {xs : List V} {i : Nat} (hc : X.calm = true) (I : Inv X pins σ H s) (hq : SqOk X.K H b a xs) (hit : ItAt b s.heap it a i) (hai : a ≠ it) :
    ∃ (its : List Value) (St : Nat → Heap → Prop), Vals xs its ∧ Draws X.prog X.w X.A.in1 it [it, a] its.toArray.size (fun j v => its.toArray[j]? = some v) St ∧ St i s.heap ∧ ∀ j h', St j h' → ItAt b h' it a j := by
  cases b with
  | true =>
    obtain ⟨its, rv, p, hz⟩ := I.list (show SqL X.K H a xs from hq)
    exact ⟨its, _, rv, Draws.list (prog := X.prog) (w := X.w) (A := X.A.in1) (I.ok.hd hc) it a hai its.toArray, ⟨hit, p.isList⟩, fun j h' z => z.1⟩
  | false =>
    obtain ⟨its, rv, p, hz⟩ := I.tuple (show SqT X.K H a xs from hq)
    exact ⟨its, _, rv, Draws.tuple (prog := X.prog) (w := X.w) (A := X.A.in1) (I.ok.hd hc) it a hai its.toArray, ⟨hit, p⟩, fun j h' z => z.1⟩
theorem turn_enumS {P : Program} {w : World} {K : PySem.W.Frag} {elts : List Expr} {kk : Nat} {tpos : Pos} (b : Bool) (k0 : Int) (a e it : Addr) (xs : List V) :
    Turn P w K (.Tuple elts kk tpos) (IteS K b k0 a xs) [e, it] e (fun i h => (∃ old, IsEnum h e it (k0 + ((i : Nat) : Int)) old) ∧ ItAt b h it a i ∧ e ≠ it ∧ a ≠ it ∧ a ≠ e) where
  mem := by simp
  obj := fun i h st c hc => by
    obtain ⟨⟨old, he⟩, hi, _⟩ := st
    rcases (show c = e ∨ c = it by simpa using hc) with z | z
    · rw [z]; exact ⟨_, he, fun v q => nomatch q⟩
    · rw [z]; exact hi.obj
  keep := fun i h h' ⟨⟨old, he⟩, hi, r⟩ k => ⟨⟨old, k e (by simp) _ he⟩, hi.keep fun o q => k it (by simp) o q, r⟩
  item := by
    intro X hP hw hK hc i pins s σ H E I hf st hg
    subst hP hw hK
    obtain ⟨⟨old, he⟩, hit, hne, hai, hae⟩ := st
    obtain ⟨hq, hlt⟩ := hg
    have hel : e < s.heap.objs.size := Heap.lt_size he
    have hil : it < s.heap.objs.size := by obtain ⟨_, q, _⟩ := hit.obj; exact Heap.lt_size q
    obtain ⟨its, St, rv, Dr, st0, back⟩ := draws_of hc I hq hit hai
    have hlen := rv.length
    refine wpAny_pyNext_enum_itemC Dr he st0 (by rw [List.size_toArray, ← hlen]; exact hlt) hne (by simp [hne, Ne.symm hae]) fun x h' tk hx ho hst' hT hsz hk => ?_
    have hx' : its[i]? = some x := by simpa using hx
    obtain ⟨v, hv, rx⟩ : ∃ v, xs[i]? = some v ∧ RelV v x := by
      obtain ⟨u, hu, ru⟩ := rv.get (List.getElem?_eq_getElem hlt)
      rw [hu] at hx'
      cases hx'
      exact ⟨_, List.getElem?_eq_getElem hlt, ru⟩
    refine ⟨_, rfl, wpAny_letOwnedTupleGo_enum (s := { s with heap := h', toks := tk + 1 }) ho fun h'' he' sb => ?_⟩
    have hT2 : h''.get? s.heap.objs.size = some { cls := .type "tuple", data := .seq #[.int (k0 + (i : Int)) tk, x] } := (sb.2 _ (Nat.ne_of_gt hel)).trans hT
    have new : ObjOk X.prog X.w (upd H s.heap.objs.size (.tup [.int (k0 + (i : Nat)), v])) h'' s.heap.objs.size (.tup [.int (k0 + (i : Nat)), v]) :=
      ⟨by show 2 ≤ sizeLine; decide, [.int (k0 + (i : Int)) tk, x], .cons ⟨_, rfl⟩ (.cons rx .nil), ⟨_, hT2, rfl, _, rfl⟩⟩
    have I1 : Inv X pins σ (upd H s.heap.objs.size (.tup [.int (k0 + (i : Nat)), v])) { s with heap := h'', toks := tk + 1 } :=
      I.turnedNew (ch := [e, it]) (fun b ob hb q => (sb.2 b (fun z => hb (by simp [z]))).trans (hk b ob (fun z => hb (by simp [z])) (fun z => hb (by simp [z])) q)) hf (Nat.le_refl _) new
    refine ⟨.ref s.heap.objs.size, _, I1, rfl, ⟨_, v, rfl, I.hok.fresh (Nat.le_refl _), rfl, hv⟩, ⟨⟨x, ?_⟩, (back _ _ hst').keep fun o q => (sb.2 it (Ne.symm hne)).trans q, hne, hai, hae⟩, fun b hb => ?_⟩
    · have e1 : k0 + ((i + 1 : Nat) : Int) = k0 + (i : Int) + 1 := by omega
      rw [e1]; exact he'
    · have hb' : b < s.heap.objs.size := by
        rcases (show b = e ∨ b = it by simpa using hb) with z | z
        · rw [z]; exact hel
        · rw [z]; exact hil
      rw [upd_ne (Nat.ne_of_lt hb')]
      exact (hf b hb).1
  done := by
    intro X hP hw hK hc i pins s σ H E I hf st hg
    subst hP hw hK
    obtain ⟨⟨old, he⟩, hit, hne, hai, hae⟩ := st
    obtain ⟨hq, hx⟩ := hg
    obtain ⟨f0, f1, f2, f3, f4, f5⟩ := hf it (by simp)
    obtain ⟨its, St, rv, Dr, st0, back⟩ := draws_of hc I hq hit hai
    have hl := rv.length
    refine wpAny_pyNext_enum_endD Dr he ?_ fun h' eb => ⟨rfl, I.turned (t' := s.toks) (fun b o hb q => eb b o hb q) f0 f1 f3 f4 f5⟩
    rw [List.size_toArray, ← hl, ← hx]
    exact st0
  self := fun A i s Q E st h => let ⟨⟨_, he⟩, _⟩ := st; wpAny_pyIter_enum he h
/-- a built-in class, called with keywords -/
theorem callWith_tyKw {M : Model} {A : Around} {E : Value → Shared → Prop} {s : Shared} {env : Env} {pos : Pos} {T : String} {e : Expr} {rest : List Expr} {kws : List Keyword} {Q : Value → Shared → Prop}
    (h : wpAny M A (spliced (backTo pos (starEach (e :: rest) env))) (fun vs s₁ => wpAny M A (evalAll ((backToKw pos (keywordEach kws env)).map (·.2))) (fun kvs s₂ => wpAny M A (call (.type T) vs (((backToKw pos (keywordEach kws env)).filterMap (·.1)).zip kvs)) Q E s₂) E s₁) E s)
    (he : starEach (e :: rest) env = (false, eval e env) :: starEach rest env) (hpl : ((backTo pos (starEach (e :: rest) env)).any (·.1) || (backToKw pos (keywordEach kws env)).any (·.1.isNone)) = false) (hall : (backToKw pos (keywordEach kws env)).all (·.1.isSome) = true) :
    wpAny M A (callWith pos (.type T) [] (backTo pos (starEach (e :: rest) env)) (backToKw pos (keywordEach kws env))) Q E s := by
  unfold callWith
  have ev : wpAny M A (evalArgs (.type T) true (backTo pos (starEach (e :: rest) env)) (backToKw pos (keywordEach kws env))) (fun a s₁ => wpAny M A (call (.type T) ([] ++ a.pos) a.kw) Q E s₁) E s := by
    rw [he] at h ⊢
    exact PyProof.Rows.evalArgs_kwB (f := .type T) hall h
  refine wpAny_bind (wpAny_holding (wpAny_mono ev (fun a s₁ h₁ => wpAny_bind (wpAny_standAt ?_)) fun _ _ x => x))
  simp only [hpl]
  refine wpAny_bind (wpAny_pure ?_)
  exact wpAny_bind (wpAny_mono h₁ (fun r s₂ hr => wpAny_bind (wpAny_holding (wpAny_point (wpAny_pure hr)))) fun _ _ x => x)
section
variable {X : Cx} {W : Wd} {ρ : Rho} {Ψ : List D → Rho → Prop} {pos p1 p2 p3 p4 : Pos} {a : Expr} {es : List Expr} {kk kc : Nat}
def pairsFrom (k0 : Int) (ds : List D) : List D := ds.zipIdx.map fun p => D.tup [.int (k0 + (p.2 : Int)), p.1]
theorem walk_enumS {K : PySem.W.Frag} {F : Hp} {b : Bool} {k0 : Int} {p : Addr} {vs : List V} {ds : List D} (h : SqOk K F b p vs) (dl : DenL K F vs ds) : WalkD K (IteS K b k0 p vs) F (pairsFrom k0 ds) where
  go := fun i H s hi => by
    refine ⟨?_, by rw [pairsFrom, List.length_map, List.length_zipIdx, ← dl.length] at hi; exact hi⟩
    cases b with
    | true => exact sqL_mono s h
    | false => exact sqT_mono s h
  stop := fun H s => by
    refine ⟨?_, by rw [pairsFrom, List.length_map, List.length_zipIdx, ← dl.length]⟩
    cases b with
    | true => exact sqL_mono s h
    | false => exact sqT_mono s h
  yld := fun i H x H' s hi ⟨T, y, e1, e2, e3, e4⟩ => by
    obtain ⟨d, hd, dn⟩ := dl.getV e4
    exact .inr ⟨T, _, [.int (k0 + (i : Int)), d], e1, e2, e3, by rw [pairsFrom, List.getElem?_map, List.getElem?_zipIdx, hd]; simp, .cons (.int _) (.cons dn .nil)⟩
/-- enumerate(x, start=k) -/
theorem ix_enumS {k0 : Int} {st : Str} (B : BltOk X "enumerate" (.type "enumerate")) (h0 : -(2 ^ 63) ≤ k0) (h1 : k0 < 2 ^ 63) (h : EX X W a ρ fun d ρ1 => ∃ ds, d.seq? = some ds ∧ Ψ (pairsFrom k0 ds) ρ1) (hst : st = Str.ofString "start")
    (hs : starEach [a] X.env = (false, eval a X.env) :: starEach [] X.env := by rfl)
    (hpl : ((backTo pos (starEach [a] X.env)).any (·.1) || (backToKw pos (keywordEach [⟨some st, .Constant (.int k0) kc p3, p4⟩] X.env)).any (·.1.isNone)) = false := by rfl) :
    IX X W (.Tuple es kk p2) (.Call (.Name "enumerate" p1) [a] [⟨some st, .Constant (.int k0) kc p3, p4⟩] pos) ρ Ψ := fun F H σ R D q => by
  subst hst
  intro pins s I
  refine wpAny_Call_Name_kw (ld_blt I B.g.g B.m B.v ?_ B.g.nm B.g.d)
  refine callWith_tyKw ?_ hs hpl (by rfl)
  refine args_cons (thn (h F H σ (fun v H1 => ∃ b p vs, v = .ref p ∧ SqOk X.K H1 b p vs ∧ R (IteS X.K b k0 p vs) H1) D (fun v d F' H' ρ' E' s dn ⟨ds, ed, k⟩ => ?_) pins s I) fun u s1 ⟨v, H1, I1, r1, b, p, vs, ev, hq, hR⟩ => args_nil ?_) hs
  · obtain ⟨p, vs, rfl, hv, dl⟩ := dn.sq ed
    rcases hv with hv | hv
    · exact ⟨true, p, vs, rfl, sqL_mono E'.sub hv, q _ _ F' H' ρ' E' s (walk_enumS (b := true) hv dl) k⟩
    · exact ⟨false, p, vs, rfl, sqT_mono E'.sub hv, q _ _ F' H' ρ' E' s (walk_enumS (b := false) hv dl) k⟩
  · subst ev
    cases (show u = Value.ref p from r1)
    refine PyProof.Rows.kws_cons (thn ((pe_int (X := X)).run pins s1 σ H1 (fun x H2 => x = .int k0 ∧ H2 = H1) I1 ⟨rfl, rfl⟩) fun ku s2 ⟨x, H2, I2, r2, ex, e2⟩ => PyProof.Rows.kws_nil ?_)
    subst ex e2
    obtain ⟨t, rfl⟩ := (show ∃ t, ku = Value.int k0 t from r2)
    have fin : ∀ {o : Obj} {Hp1 : Heap → Prop}, Begins (.ref p) o Hp1 → Hp1 s2.heap → (∀ h' : Heap, h'.get? s2.heap.objs.size = some o → ItAt b h' s2.heap.objs.size p 0) → p < s2.heap.objs.size →
        wpAny (model X.prog X.w) X.A (call (.type "enumerate") [.ref p] [(Str.ofString "start", .int k0 t)]) (fun v s1 => wpAny (model X.prog X.w) X.A (pyIter v) (PIE X pins σ (.Tuple es kk p2) R) X.xe s1) X.xe s2 := fun {o Hp1} Bg hh hi lt => by
      refine enum_begins_start Bg hh h0 h1 fun h' he ho hsz hkp => wpAny_pyIter_enum he ?_
      have I3 : Inv X pins σ H2 { s2 with heap := h' } := I2.kept (t' := s2.toks) hkp
      refine ⟨s2.heap.objs.size + 1, [s2.heap.objs.size + 1, s2.heap.objs.size], _, _, H2, rfl, I3, turn_enumS b k0 p (s2.heap.objs.size + 1) s2.heap.objs.size vs, ⟨⟨.none, by simpa using he⟩, hi h' ho, Nat.succ_ne_self _, Nat.ne_of_lt lt, Nat.ne_of_lt (Nat.lt_succ_of_lt lt)⟩, fun c hc => ?_, hR⟩
      have hle : s2.heap.objs.size ≤ c := by
        rcases (show c = s2.heap.objs.size + 1 ∨ c = s2.heap.objs.size by simpa using hc) with z | z
        · rw [z]; exact Nat.le_add_right _ _
        · rw [z]; exact Nat.le_refl _
      exact I2.fpOk hle (I2.hok.fresh hle)
    cases b with
    | true =>
      obtain ⟨its, rv, pl, hz⟩ := I2.list (show SqL X.K H2 p vs from hq)
      exact fin (begins_list p its.toArray) pl.isList (fun h' ho => ⟨_, ho, rfl, rfl⟩) (by obtain ⟨o, ho, _⟩ := pl.isList; exact Heap.lt_size ho)
    | false =>
      obtain ⟨its, rv, pl, hz⟩ := I2.tuple (show SqT X.K H2 p vs from hq)
      exact fin (begins_tuple p its.toArray) pl (fun h' ho => ⟨_, ho, rfl, rfl⟩) pl.lt
end
end DL
set_option maxHeartbeats 4000000
/-! DL, part 17: list(zip(a, b)). -/
namespace DL
open PySem PySem.Spec PySem.Calls PyProof.Rows L2

/-- a zip whose last pair lives on -/
abbrev ZipM (h : Heap) (z TI TO T : Addr) (fl : Bool) : Prop := h.get? z = some { cls := .type "zip", dict := none, data := .fields #[rawInt T, .bool fl, .bool false, .ref TI, .ref TO], slots := #[] }
section
variable {prog : Program} {w : World} {A : Around} {E : Value → Shared → Prop} {s : Shared}
theorem alive_ {M : Model} {a : Addr} {Q : Option Obj → Shared → Prop} (h : Q (s.heap.get? a) s) : wpAny M A (loadIfAlive a) Q E s := fun _ _ _ => h
theorem free_alive {z TI TO T : Addr} {fl : Bool} {oT : Obj} {Q : Bool → Shared → Prop} (hz : ZipM s.heap z TI TO T fl) (hT : s.heap.get? T = some oT) (hQ : ∀ h', ZipM h' z TI TO T true → Heap.SameBut z s.heap h' → Q false { s with heap := h' }) :
    wpAny (model prog w) A (Builtin.SmallTypes.ownedTupleIsFree (.ref z)) Q E s := by
  unfold Builtin.SmallTypes.ownedTupleIsFree
  refine wpAny_bind (wpAny_field hz rfl (x := rawInt T) rfl ?_)
  show wpAny _ _ (loadIfAlive ((T : Int)).toNat >>= _) _ _ s
  refine wpAny_bind (alive_ ?_)
  rw [Int.toNat_natCast, hT]
  simp only [Option.isNone_some, Bool.false_eq_true, if_false]
  cases fl with
  | true =>
    refine wpAny_bind (wpAny_field hz rfl (x := .bool true) rfl ?_)
    rw [if_neg (by decide)]
    exact wpAny_pure (hQ s.heap hz ⟨rfl, fun _ _ => rfl⟩)
  | false =>
    refine wpAny_bind (wpAny_field hz rfl (x := .bool false) rfl ?_)
    rw [if_pos (by decide)]
    exact wpAny_bind (wpAny_setField_rec hz (by simp) fun h' hz' hs' => wpAny_pure (hQ h' hz' hs'))
variable {z TI TO T i1 i2 : Addr} {fp1 fp2 : List Addr} {n1 n2 i : Nat} {P1 P2 : Nat → Value → Prop} {St1 St2 : Nat → Heap → Prop} {fl : Bool} {oT : Obj}
theorem zip_item_alive {Q : Value → Shared → Prop} (S : ZipSep2 z TI TO i1 i2 fp1 fp2) (D1 : Draws prog w A i1 fp1 n1 P1 St1) (D2 : Draws prog w A i2 fp2 n2 P2 St2) (hz : ZipM s.heap z TI TO T fl) (hT : s.heap.get? T = some oT)
    (hTI : IsTupOf2 s.heap TI (.ref i1) (.ref i2)) (st1 : St1 i s.heap) (st2 : St2 i s.heap) (l1 : i < n1) (l2 : i < n2) (hi1 : i1 < s.heap.objs.size) (hi2 : i2 < s.heap.objs.size)
    (hQ : ∀ x1 x2 h' tk, P1 i x1 → P2 i x2 → ZipM h' z TI TO T true → St1 (i + 1) h' → St2 (i + 1) h' → IsTupOf2 h' s.heap.objs.size x1 x2 → h'.objs.size = s.heap.objs.size + 1 → (∀ c o, c ≠ z → c ≠ i1 → c ≠ i2 → s.heap.get? c = some o → h'.get? c = some o) → Q (.ref s.heap.objs.size) { s with heap := h', toks := tk }) :
    wpAny (model prog w) A (Builtin.«zip.__next__» ⟨[.ref z], []⟩) (fun fin s' => ∃ v, fin = .done (.ret v) ∧ Q v s') E s := by
  obtain ⟨hp, g, d, tk0, os⟩ := s
  show wpAny _ _ (field (.ref z) 2 >>= _) _ _ _
  refine wpAny_bind (wpAny_field hz rfl (x := .bool false) rfl ?_)
  show wpAny _ _ (field (.ref z) 3 >>= _) _ _ _
  refine wpAny_bind (wpAny_field hz rfl (x := .ref TI) rfl (wpAny_bind (wpAny_seqItems hTI rfl ?_)))
  show wpAny _ _ (Builtin.SmallTypes.ownedTupleIsFree (.ref z) >>= _) _ _ _
  refine wpAny_bind (free_alive hz hT fun h₁ hz₁ hs₁ => ?_)
  simp only [Bool.false_eq_true, if_false]
  refine wpAny_bind ?_
  simp only [← Array.forIn_toList, List.forIn_cons, List.forIn_nil]
  refine wpAny_bind (wpAny_bind (wpAny_holding ?_))
  show wpAny _ _ (Builtin.SmallTypes.nextOf (.ref i1) >>= _) _ _ _
  refine wpAny_bind (D1.item i ⟨h₁, g, d, tk0, os⟩ _ _ l1 (D1.over st1 hs₁ S.zf1) fun x1 h₂ tk2 p1 st1' hs₂ => wpAny_pure ?_)
  refine wpAny_pure ?_
  show wpAny _ _ (_ >>= _) _ _ _
  refine wpAny_bind (wpAny_bind (wpAny_holding ?_))
  show wpAny _ _ (Builtin.SmallTypes.nextOf (.ref i2) >>= _) _ _ _
  refine wpAny_bind (D2.item i ⟨h₂, g, d, tk2, os⟩ _ _ l2 (D2.over (D2.over st2 hs₁ S.zf2) hs₂ S.sep1_2) fun x2 h₃ tk3 p2 st2' hs₃ => wpAny_pure ?_)
  refine wpAny_pure (wpAny_pure ?_)
  show wpAny _ _ (newTuple [x1, x2] >>= _) _ _ ⟨h₃, g, d, tk3, os⟩
  refine wpAny_bind (wpAny_newTuple ?_)
  have hsz : h₃.objs.size = hp.objs.size := by rw [hs₃.1, hs₂.1, hs₁.1]
  have zn1 : z ≠ i1 := S.zi1
  have zn2 : z ≠ i2 := S.zi2
  refine wpAny_pure ⟨_, rfl, ?_⟩
  rw [hsz]
  refine hQ x1 x2 (h₃.push { cls := .type "tuple", data := .seq #[x1, x2] }) tk3 p1 p2 (Heap.get?_push_of_some _ ((hs₃.2 z zn2).trans ((hs₂.2 z zn1).trans hz₁))) ?_ ?_ ?_ (by rw [Heap.size_push, hsz]) fun c o c1 c2 c3 e => Heap.get?_push_of_some _ (hs₃.extBut _ _ c3 (hs₂.extBut _ _ c2 (hs₁.extBut _ _ c1 e)))
  · exact D1.frame _ _ _ (D1.over st1' hs₃ S.sep2_1) fun b _ o e => Heap.get?_push_of_some _ e
  · exact D2.frame _ _ _ st2' fun b _ o e => Heap.get?_push_of_some _ e
  · show (h₃.push _).get? hp.objs.size = _
    rw [← hsz]
    exact Heap.get?_push_size _ rfl
theorem zip_end_alive {Q : PySem.Fin → Shared → Prop} (S : ZipSep2 z TI TO i1 i2 fp1 fp2) (D1 : Draws prog w A i1 fp1 n1 P1 St1) (D2 : Draws prog w A i2 fp2 n2 P2 St2) (hz : ZipM s.heap z TI TO T fl) (hT : s.heap.get? T = some oT)
    (hTI : IsTupOf2 s.heap TI (.ref i1) (.ref i2)) (st1 : St1 i s.heap) (h1 : i = n1)
    (hE : ∀ h' tk e, (∀ c o, c ≠ z → c ≠ i1 → s.heap.get? c = some o → h'.get? c = some o) → (∃ o, h'.get? e = some o ∧ o.cls = .type "StopIteration") → E (.ref e) { s with heap := h', toks := tk }) :
    wpAny (model prog w) A (Builtin.«zip.__next__» ⟨[.ref z], []⟩) Q E s := by
  obtain ⟨hp, g, d, tk0, os⟩ := s
  show wpAny _ _ (field (.ref z) 2 >>= _) _ _ _
  refine wpAny_bind (wpAny_field hz rfl (x := .bool false) rfl ?_)
  show wpAny _ _ (field (.ref z) 3 >>= _) _ _ _
  refine wpAny_bind (wpAny_field hz rfl (x := .ref TI) rfl (wpAny_bind (wpAny_seqItems hTI rfl ?_)))
  show wpAny _ _ (Builtin.SmallTypes.ownedTupleIsFree (.ref z) >>= _) _ _ _
  refine wpAny_bind (free_alive hz hT fun h₁ hz₁ hs₁ => ?_)
  simp only [Bool.false_eq_true, if_false]
  refine wpAny_bind ?_
  simp only [← Array.forIn_toList, List.forIn_cons, List.forIn_nil]
  refine wpAny_bind (wpAny_bind (wpAny_holding ?_))
  show wpAny _ _ (Builtin.SmallTypes.nextOf (.ref i1) >>= _) _ _ _
  have st1' := D1.over st1 hs₁ S.zf1
  rw [h1] at st1'
  exact wpAny_bind (D1.done ⟨h₁, g, d, tk0, os⟩ _ _ st1' fun h₂ e hs₂ he => hE h₂ tk0 e (fun c o c1 c2 x => hs₂ c o c2 (hs₁.extBut _ _ c1 x)) he)
theorem next_alive {Q : Option Value → Shared → Prop} (S : ZipSep2 z TI TO i1 i2 fp1 fp2) (D1 : Draws prog w A.in1 i1 fp1 n1 P1 St1) (D2 : Draws prog w A.in1 i2 fp2 n2 P2 St2) (hz : ZipM s.heap z TI TO T fl) (hT : s.heap.get? T = some oT)
    (hTI : IsTupOf2 s.heap TI (.ref i1) (.ref i2)) (st1 : St1 i s.heap) (st2 : St2 i s.heap) (l1 : i < n1) (l2 : i < n2) (hi1 : i1 < s.heap.objs.size) (hi2 : i2 < s.heap.objs.size)
    (hQ : ∀ x1 x2 h' tk, P1 i x1 → P2 i x2 → ZipM h' z TI TO T true → St1 (i + 1) h' → St2 (i + 1) h' → IsTupOf2 h' s.heap.objs.size x1 x2 → h'.objs.size = s.heap.objs.size + 1 → (∀ c o, c ≠ z → c ≠ i1 → c ≠ i2 → s.heap.get? c = some o → h'.get? c = some o) → Q (some (.ref s.heap.objs.size)) { s with heap := h', toks := tk }) :
    wpAny (model prog w) A (pyNext (.ref z)) Q E s := by
  have hTy : s.TypeIs (.ref z) "zip" := ⟨_, hz, rfl⟩
  unfold pyNext
  exact wpAny_bind (wpAny_attempt (wpAny_callSpecial?_slot (name := Str.ofString "__next__") hTy PySem.F.slot_zip_next (wpAny_call_entry PySem.F.slot_zip_next hTy PySem.F.entry_zip_next
    (zip_item_alive S D1 D2 hz hT hTI st1 st2 l1 l2 hi1 hi2 fun x1 x2 h' tk a1 a2 a3 a4 a5 a6 a7 a8 => wpAny_pure (hQ x1 x2 h' tk a1 a2 a3 a4 a5 a6 a7 a8)) (PySem.F.args_zip_next_1 _))))
theorem end_alive {Q : Option Value → Shared → Prop} (S : ZipSep2 z TI TO i1 i2 fp1 fp2) (D1 : Draws prog w A.in1 i1 fp1 n1 P1 St1) (D2 : Draws prog w A.in1 i2 fp2 n2 P2 St2) (hz : ZipM s.heap z TI TO T fl) (hT : s.heap.get? T = some oT)
    (hTI : IsTupOf2 s.heap TI (.ref i1) (.ref i2)) (st1 : St1 i s.heap) (h1 : i = n1) (hQ : ∀ h' tk, (∀ c o, c ≠ z → c ≠ i1 → s.heap.get? c = some o → h'.get? c = some o) → Q none { s with heap := h', toks := tk }) : wpAny (model prog w) A (pyNext (.ref z)) Q E s := by
  have hTy : s.TypeIs (.ref z) "zip" := ⟨_, hz, rfl⟩
  unfold pyNext
  refine wpAny_bind (wpAny_attempt (wpAny_callSpecial?_slot (name := Str.ofString "__next__") hTy PySem.F.slot_zip_next (wpAny_call_entry PySem.F.slot_zip_next hTy PySem.F.entry_zip_next
    (zip_end_alive S D1 D2 hz hT hTI st1 h1 fun h' tk e hk he => ?_) (PySem.F.args_zip_next_1 _))))
  obtain ⟨o, ho, hc⟩ := he
  exact wpAny_bind (wpAny_isInstance (T := "StopIteration") (b := true) ⟨o, ho, hc⟩ isSubtype_stop (wpAny_pure (hQ _ _ hk)))
/-- the pairs that stand in the new list -/
def PairsIn (z TO i1 i2 L : Addr) (P1 P2 : Nat → Value → Prop) (h : Heap) (acc : Array Value) (i : Nat) : Prop :=
  acc.size = i ∧ (∀ (j k : Nat) (T : Addr), acc[j]? = some (Value.ref T) → acc[k]? = some (Value.ref T) → j = k) ∧ ∀ j v, acc[j]? = some v → ∃ T x y, v = .ref T ∧ P1 j x ∧ P2 j y ∧ IsTupOf2 h T x y ∧ T ≠ z ∧ T ≠ TO ∧ T ≠ i1 ∧ T ≠ i2 ∧ L < T
theorem PairsIn.keep {TO L : Addr} {h h' : Heap} {acc : Array Value} {z i1 i2 : Addr} {P1 P2 : Nat → Value → Prop} {i : Nat} (p : PairsIn z TO i1 i2 L P1 P2 h acc i) (k : ∀ c o, c ≠ z → c ≠ TO → c ≠ i1 → c ≠ i2 → c ≠ L → h.get? c = some o → h'.get? c = some o) : PairsIn z TO i1 i2 L P1 P2 h' acc i :=
  ⟨p.1, p.2.1, fun j v e => let ⟨T, x, y, a1, a2, a3, a4, a5, a6, a7, a8, a9⟩ := p.2.2 j v e; ⟨T, x, y, a1, a2, a3, k _ _ a5 a6 a7 a8 (Nat.ne_of_gt a9) a4, a5, a6, a7, a8, a9⟩⟩
/-- where the zip stands -/
def ZipAt (z TI TO i1 i2 L : Addr) (h : Heap) : Prop := (IsZip h z TI TO .none ∧ ∃ a b, IsTupOf2 h TO a b) ∨ ∃ T fl o oO, ZipM h z TI TO T fl ∧ h.get? T = some o ∧ h.get? TO = some oO ∧ T ≠ z ∧ T ≠ TO ∧ T ≠ i1 ∧ T ≠ i2 ∧ T ≠ L
theorem loop_zip {n : Nat} {L : Addr} {R : Result → Shared → Prop} {res : Value} (S : ZipSep2 z TI TO i1 i2 fp1 fp2) (D1 : Draws prog w A.in1.in1 i1 fp1 n P1 St1) (D2 : Draws prog w A.in1.in1 i2 fp2 n P2 St2) (hn : n ≤ sizeLine) (hLz : L ≠ z) (hLTI : L ≠ TI) (hLTO : L ≠ TO) (hLi1 : L ≠ i1) (hLi2 : L ≠ i2) (hL1 : L ∉ fp1) (hL2 : L ∉ fp2) :
    ∀ (k i : Nat) (s : Shared) (acc : Array Value) (c : Nat), n - i = k → i ≤ n → ZipAt z TI TO i1 i2 L s.heap → IsTupOf2 s.heap TI (.ref i1) (.ref i2) → St1 i s.heap → St2 i s.heap → s.heap.get? L = some { cls := .type "list", dict := none, data := .seq acc c, slots := #[] } → PairsIn z TO i1 i2 L P1 P2 s.heap acc i →
    (∀ h' tk acc' c', (∀ b o, b ≠ L → b ≠ z → b ≠ TO → b ≠ i1 → b ≠ i2 → s.heap.get? b = some o → h'.get? b = some o) → h'.get? L = some { cls := .type "list", dict := none, data := .seq acc' c', slots := #[] } → PairsIn z TO i1 i2 L P1 P2 h' acc' n → R (.ok (.ret res)) { s with heap := h', toks := tk }) →
    codeAny (model prog w) A (.builtin "list.extend.loop" ⟨[.ref L, .ref z, res], []⟩) R s := by
  intro k
  induction k with
  | zero =>
    intro i s acc c hk hi hz hTI st1 st2 hL hacc hR
    have hin : i = n := by omega
    refine codeAny_builtin PySem.F.entry_extend_loop ?_
    rw [Around.under_plainId PySem.F.plain_extend_loop _]
    show wpAny _ A.in1 (pyNext (.ref z) >>= _) _ _ s
    rcases hz with ⟨hz, a, b, hTO⟩ | ⟨T, fl, o, oO, hz, hT, hO, t1, t2, t3, t4, t5⟩
    · refine wpAny_bind (wpAny_pyNext_zipD2_end S D1 D2 hz hTI hTO st1 st2 hi hi (.inl hin) fun h' tk hk' => wpAny_pure ?_)
      subst hin
      exact hR h' tk acc c (fun b o a1 a2 a3 a4 a5 e => hk' b o a2 a3 a4 a5 e) (hk' L _ hLz hLTO hLi1 hLi2 hL) (hacc.keep fun c o a1 a2 a3 a4 _ e => hk' c o a1 a2 a3 a4 e)
    · refine wpAny_bind (end_alive S D1 D2 hz hT hTI st1 hin fun h' tk hk' => wpAny_pure ?_)
      subst hin
      exact hR h' tk acc c (fun b o a1 a2 a3 a4 a5 e => hk' b o a2 a4 e) (hk' L _ hLz hLi1 hL) (hacc.keep fun c o a1 a2 a3 a4 _ e => hk' c o a1 a3 e)
  | succ k ih =>
    intro i s acc c hk hi hz hTI st1 st2 hL hacc hR
    have hlt : i < n := by omega
    have hzl : z < s.heap.objs.size := by
      rcases hz with ⟨hz, _⟩ | ⟨T, fl, o, oO, hz, _⟩ <;> exact Heap.lt_size hz
    have l1 : i1 < s.heap.objs.size := by obtain ⟨o, e⟩ := D1.live _ _ st1; exact Heap.lt_size e
    have l2 : i2 < s.heap.objs.size := by obtain ⟨o, e⟩ := D2.live _ _ st2; exact Heap.lt_size e
    have lL : L < s.heap.objs.size := Heap.lt_size hL
    refine codeAny_builtin PySem.F.entry_extend_loop ?_
    rw [Around.under_plainId PySem.F.plain_extend_loop _]
    show wpAny _ A.in1 (pyNext (.ref z) >>= _) _ _ s
    -- what the turn leaves
    have go : ∀ x1 x2 (h' : Heap) (tk : Nat), P1 i x1 → P2 i x2 → (ZipAt z TI TO i1 i2 L h') → St1 (i + 1) h' → St2 (i + 1) h' → IsTupOf2 h' s.heap.objs.size x1 x2 → TO ≠ s.heap.objs.size → (∀ c o, c ≠ z → c ≠ TO → c ≠ i1 → c ≠ i2 → s.heap.get? c = some o → h'.get? c = some o) →
        wpAny (model prog w) A.in1 (do updateSeq L (·.push (.ref s.heap.objs.size)); again (.builtin "list.extend.loop" ⟨[.ref L, .ref z, res], []⟩)) (fun fin s' => match fin with | .done f => R (.ok f) s' | .again c' => c'.quiet = true ∧ codeAny (model prog w) A c' R s') (fun e s' => R (.error e) s') { s with heap := h', toks := tk } := by
      intro x1 x2 h' tk p1 p2 hz' st1' st2' hT' hTOn kp
      have hL' := kp L _ hLz hLTO hLi1 hLi2 hL
      refine wpAny_bind (wpAny_updateSeq hL' rfl (wpAny_pure ⟨plainId_quiet PySem.F.plain_extend_loop _, ih (i + 1) _ (acc.push (.ref s.heap.objs.size)) _ (by omega) hlt ?_ ?_ ?_ ?_ (Heap.get?_update_self _ hL' rfl) ?_ fun h'' tk'' acc' c' hk'' hL'' hacc' => ?_⟩) (by rw [hacc.1]; omega) (by show (acc.push _).size ≤ sizeLine + 1; rw [Array.size_push, hacc.1]; omega))
      · rcases hz' with ⟨hz', a, b, hTO'⟩ | ⟨T, fl, o, oO, hz', hT2, hO, t1, t2, t3, t4, t5⟩
        · exact .inl ⟨(Heap.get?_update_other _ _ hLz).trans hz', a, b, (Heap.get?_update_other _ _ hLTO).trans hTO'⟩
        · exact .inr ⟨T, fl, o, oO, (Heap.get?_update_other _ _ hLz).trans hz', (Heap.get?_update_other _ _ (Ne.symm t5)).trans hT2, (Heap.get?_update_other _ _ hLTO).trans hO, t1, t2, t3, t4, t5⟩
      · exact (Heap.get?_update_other _ _ hLTI).trans (kp TI _ S.TIz S.TITO S.TIi1 S.TIi2 hTI)
      · exact D1.frame _ _ _ st1' fun b hb o e => (Heap.get?_update_other _ _ (fun q : L = b => hL1 (q ▸ hb))).trans e
      · exact D2.frame _ _ _ st2' fun b hb o e => (Heap.get?_update_other _ _ (fun q : L = b => hL2 (q ▸ hb))).trans e
      · have hacc' := hacc.keep (h' := h') fun c o a1 a2 a3 a4 _ e => kp c o a1 a2 a3 a4 e
        have old : ∀ (j : Nat) (T : Addr), acc[j]? = some (Value.ref T) → T < s.heap.objs.size := fun j T e => by
          obtain ⟨T', _, _, e1, _, _, e2, _⟩ := hacc.2.2 j _ e
          cases e1
          exact Heap.lt_size e2
        refine ⟨by rw [Array.size_push, hacc.1], fun j k T hj hk2 => ?_, fun j v hj => ?_⟩
        · rw [Array.getElem?_push] at hj hk2
          split at hj
          · split at hk2
            · omega
            · cases hj
              exact absurd (old k _ hk2) (Nat.lt_irrefl _)
          · split at hk2
            · cases hk2
              exact absurd (old j _ hj) (Nat.lt_irrefl _)
            · exact hacc.2.1 j k T hj hk2
        rw [Array.getElem?_push] at hj
        split at hj
        · rename_i ej
          rw [hacc.1] at ej
          cases hj
          subst ej
          exact ⟨s.heap.objs.size, x1, x2, rfl, p1, p2, (Heap.get?_update_other _ _ (Nat.ne_of_lt lL)).trans hT', Nat.ne_of_gt hzl, Ne.symm hTOn, Nat.ne_of_gt l1, Nat.ne_of_gt l2, lL⟩
        · obtain ⟨T, x, y, a1, a2, a3, a4, a5, a6, a7, a8, a9⟩ := hacc'.2.2 j v hj
          exact ⟨T, x, y, a1, a2, a3, (Heap.get?_update_other _ _ (Nat.ne_of_lt a9)).trans a4, a5, a6, a7, a8, a9⟩
      · exact hR h'' tk'' acc' c' (fun b o a1 a2 a3 a4 a5 e => hk'' b o a1 a2 a3 a4 a5 ((Heap.get?_update_other _ _ (Ne.symm a1)).trans (kp b o a2 a3 a4 a5 e))) hL'' hacc'
    rcases hz with ⟨hz, a, b, hTO⟩ | ⟨T, fl, o, oO, hz, hT, hO, t1, t2, t3, t4, t5⟩
    · have lTO : TO < s.heap.objs.size := Heap.lt_size hTO
      refine wpAny_bind (wpAny_pyNext_zipD2_item S D1 D2 hz hTI hTO st1 st2 hlt hlt fun x1 x2 h' tk p1 p2 hz' hTO' st1' st2' hT' hsz kp => ?_)
      exact go x1 x2 h' tk p1 p2 (.inr ⟨s.heap.objs.size, false, _, _, hz', hT', hTO', Nat.ne_of_gt hzl, Nat.ne_of_gt lTO, Nat.ne_of_gt l1, Nat.ne_of_gt l2, Nat.ne_of_gt lL⟩) st1' st2' hT' (Nat.ne_of_lt lTO) kp
    · have lTO : TO < s.heap.objs.size := Heap.lt_size hO
      refine wpAny_bind (next_alive S D1 D2 hz hT hTI st1 st2 hlt hlt l1 l2 fun x1 x2 h' tk p1 p2 hz' st1' st2' hT' hsz kp => ?_)
      exact go x1 x2 h' tk p1 p2 (.inr ⟨T, true, o, oO, hz', kp T o t1 t3 t4 hT, kp TO oO S.TOz S.Ti1 S.Ti2 hO, t1, t2, t3, t4, t5⟩) st1' st2' hT' (Nat.ne_of_lt lTO) fun c o a1 a2 a3 a4 e => kp c o a1 a3 a4 e
/-- list(z), z a zip that was just made -/
theorem zip_no_len : typeLookup (.type "zip") "__len__" = pure none := by rw [typeLookup_type, builtinLookup_eq_fast]; kernel_rfl
theorem zip_no_hint : typeLookup (.type "zip") "__length_hint__" = pure none := by rw [typeLookup_type, builtinLookup_eq_fast]; kernel_rfl
theorem extend_zip {n : Nat} {L : Addr} {c0 : Nat} {R : Result → Shared → Prop} {res : Value} (S : ZipSep2 z TI TO i1 i2 fp1 fp2) (D1 : Draws prog w A.in1.in1 i1 fp1 n P1 St1) (D2 : Draws prog w A.in1.in1 i2 fp2 n P2 St2) (hn : n ≤ sizeLine) (hLz : L ≠ z) (hLTI : L ≠ TI) (hLTO : L ≠ TO) (hLi1 : L ≠ i1) (hLi2 : L ≠ i2) (hL1 : L ∉ fp1) (hL2 : L ∉ fp2)
    (hz : IsZip s.heap z TI TO .none) (hTO : ∃ a b, IsTupOf2 s.heap TO a b) (hTI : IsTupOf2 s.heap TI (.ref i1) (.ref i2)) (st1 : St1 0 s.heap) (st2 : St2 0 s.heap) (hL : s.heap.get? L = some { cls := .type "list", data := .seq #[] c0 })
    (hR : ∀ h' tk acc' c', (∀ b o, b ≠ L → b ≠ z → b ≠ TO → b ≠ i1 → b ≠ i2 → s.heap.get? b = some o → h'.get? b = some o) → h'.get? L = some { cls := .type "list", dict := none, data := .seq acc' c', slots := #[] } → PairsIn z TO i1 i2 L P1 P2 h' acc' n → R (.ok (.ret res)) { s with heap := h', toks := tk }) :
    wpAny (model prog w) A.in1 (Builtin.List.listExtendWith (.ref L) (.ref z) res) (fun fin s' => match fin with | .done f => R (.ok f) s' | .again c' => c'.quiet = true ∧ codeAny (model prog w) A c' R s') (fun e s' => R (.error e) s') s := by
  have hTy : s.TypeIs (.ref z) "zip" := ⟨_, hz, rfl⟩
  unfold Builtin.List.listExtendWith
  refine wpAny_bind (wpAny_typeOf hTy ?_)
  have h1 : Builtin.List.listSameRef (.ref L) (.ref z) = false := by simp [Builtin.List.listSameRef, hLz]
  have h2 : (Value.type "zip" == Value.type "list") = false := by decide
  have h3 : (Value.type "zip" == Value.type "tuple") = false := by decide
  simp only [h1, h2, h3, Bool.or_false, Bool.false_eq_true, if_false]
  refine wpAny_bind (wpAny_pyIter_zip hz ?_)
  refine wpAny_bind (wpAny_holding ?_)
  unfold Builtin.List.listLengthHint
  refine wpAny_bind (wpAny_specialOf hTy zip_no_len ?_)
  show wpAny _ _ (specialOf (Value.ref z) (Str.ofString "__length_hint__") >>= _) _ _ _
  refine wpAny_bind (wpAny_specialOf hTy zip_no_hint (wpAny_pure ?_))
  show wpAny _ _ (rule "list.extend.makes-room" >>= fun _ => Builtin.List.listTouch (.ref L) >>= fun _ => again (.builtin "list.extend.loop" ⟨[.ref L, .ref z, res], []⟩)) _ _ _
  refine wpAny_bind (wpAny_rule (wpAny_bind ?_))
  show wpAny _ _ (updateSeq L (·.push .none) >>= fun _ => updateSeq L (·.pop)) _ _ _
  refine wpAny_bind (wpAny_updateSeq hL rfl ?_)
  have hL2' := Heap.get?_update_self (Obj.mapSeq (·.push Value.none)) hL rfl
  refine wpAny_updateSeq (hz := by seq_fits) hL2' rfl ?_
  have hL3 := Heap.get?_update_self (Obj.mapSeq (·.pop)) hL2' rfl
  have oth : ∀ b o, b ≠ L → s.heap.get? b = some o → ((s.heap.update L (Obj.mapSeq (·.push Value.none))).update L (Obj.mapSeq (·.pop))).get? b = some o :=
    fun b o hb e => (Heap.get?_update_other _ _ (Ne.symm hb)).trans ((Heap.get?_update_other _ _ (Ne.symm hb)).trans e)
  obtain ⟨a, b, hTO⟩ := hTO
  refine wpAny_pure ⟨plainId_quiet PySem.F.plain_extend_loop _, loop_zip S D1 D2 hn hLz hLTI hLTO hLi1 hLi2 hL1 hL2 n 0 _ #[] _ rfl (Nat.zero_le _) (.inl ⟨oth _ _ (Ne.symm hLz) hz, a, b, oth _ _ (Ne.symm hLTO) hTO⟩) (oth _ _ (Ne.symm hLTI) hTI)
    (D1.frame _ _ _ st1 fun b hb o e => oth b o (fun q => hL1 (q ▸ hb)) e) (D2.frame _ _ _ st2 fun b hb o e => oth b o (fun q => hL2 (q ▸ hb)) e) hL3 ⟨rfl, fun j k T e => by simp at e, fun j v e => by simp at e⟩ fun h' tk acc' c' hk hS hacc => ?_⟩
  exact hR h' tk acc' c' (fun b o a1 a2 a3 a4 a5 e => hk b o a1 a2 a3 a4 a5 (oth b o a1 e)) hS hacc
theorem call_list_zip {n : Nat} {Q : Value → Shared → Prop} (S : ZipSep2 z TI TO i1 i2 fp1 fp2) (D1 : Draws prog w A.in1.in1.in1 i1 fp1 n P1 St1) (D2 : Draws prog w A.in1.in1.in1 i2 fp2 n P2 St2) (hn : n ≤ sizeLine) (hf1 : ∀ b ∈ fp1, b < s.heap.objs.size) (hf2 : ∀ b ∈ fp2, b < s.heap.objs.size)
    (hz : IsZip s.heap z TI TO .none) (hTO : ∃ a b, IsTupOf2 s.heap TO a b) (hTI : IsTupOf2 s.heap TI (.ref i1) (.ref i2)) (st1 : St1 0 s.heap) (st2 : St2 0 s.heap)
    (hQ : ∀ h' tk acc' c', (∀ b o, b ≠ z → b ≠ TO → b ≠ i1 → b ≠ i2 → s.heap.get? b = some o → h'.get? b = some o) → h'.get? s.heap.objs.size = some { cls := .type "list", dict := none, data := .seq acc' c', slots := #[] } → PairsIn z TO i1 i2 s.heap.objs.size P1 P2 h' acc' n → Q (.ref s.heap.objs.size) { s with heap := h', toks := tk }) :
    wpAny (model prog w) A (call (.type "list") [.ref z]) Q E s := by
  have lz : z < s.heap.objs.size := Heap.lt_size hz
  have lTI : TI < s.heap.objs.size := Heap.lt_size hTI
  have lTO : TO < s.heap.objs.size := by obtain ⟨a, b, h⟩ := hTO; exact Heap.lt_size h
  have l1 : i1 < s.heap.objs.size := by obtain ⟨o, e⟩ := D1.live _ _ st1; exact Heap.lt_size e
  have l2 : i2 < s.heap.objs.size := by obtain ⟨o, e⟩ := D2.live _ _ st2; exact Heap.lt_size e
  refine callType_codes (Q₁ := fun obj s₁ => obj = .ref s.heap.objs.size ∧ s₁ = { s with heap := s.heap.push { cls := .type "list", data := .seq #[] } }) PySem.F.called_list (PySem.F.typeCall_list_1 _) PySem.F.entry_list_init (code_list_new _ ⟨rfl, rfl⟩) fun obj s₁ h₁ => ?_
  obtain ⟨rfl, rfl⟩ := h₁
  have hS : (s.heap.push { cls := .type "list", data := .seq #[] }).get? s.heap.objs.size = some { cls := .type "list", data := .seq #[] } := Heap.get?_push_size _ rfl
  refine ⟨⟨_, hS, rfl⟩, PySem.F.args_list_init_2 _ _, ?_⟩
  show wpAny _ _ (do let old ← Builtin.List.listItems (.ref s.heap.objs.size); Builtin.List.listUpdate (.ref s.heap.objs.size) (fun _ => #[]); letGo old.toList.reverse; Builtin.List.listExtendWith (.ref s.heap.objs.size) (.ref z) .none) _ _ _
  refine wpAny_bind ?_
  unfold Builtin.List.listItems
  refine wpAny_bind (wpAny_seqItems hS rfl (wpAny_pure ?_))
  show wpAny _ _ (updateSeq s.heap.objs.size (fun _ => #[]) >>= fun _ => letGo (#[] : Array Value).toList.reverse >>= fun _ => Builtin.List.listExtendWith (.ref s.heap.objs.size) (.ref z) .none) _ _ _
  refine wpAny_bind (wpAny_updateSeq hS rfl (wpAny_bind (wpAny_letGo ?_)))
  have hS2 := Heap.get?_update_self (Obj.mapSeq (fun _ => (#[] : Array Value))) hS rfl
  have oth : ∀ b o, s.heap.get? b = some o → ((s.heap.push { cls := .type "list", data := .seq #[] }).update s.heap.objs.size (Obj.mapSeq (fun _ => (#[] : Array Value)))).get? b = some o :=
    fun b o e => (Heap.get?_update_other _ _ (Nat.ne_of_gt (Heap.lt_size e))).trans (Heap.get?_push_of_some _ e)
  refine extend_zip (A := A.in1) S D1 D2 hn (Nat.ne_of_gt lz) (Nat.ne_of_gt lTI) (Nat.ne_of_gt lTO) (Nat.ne_of_gt l1) (Nat.ne_of_gt l2) (fun h => Nat.lt_irrefl _ (hf1 _ h)) (fun h => Nat.lt_irrefl _ (hf2 _ h)) (oth _ _ hz) (by obtain ⟨a, b, h⟩ := hTO; exact ⟨a, b, oth _ _ h⟩) (oth _ _ hTI)
    (D1.frame _ _ _ st1 fun b _ o e => oth b o e) (D2.frame _ _ _ st2 fun b _ o e => oth b o e) hS2 fun h' tk acc' c' hk hL hacc => ?_
  exact ⟨rfl, hQ h' tk acc' c' (fun b o a1 a2 a3 a4 e => hk b o (Nat.ne_of_lt (Heap.lt_size e)) a1 a2 a3 a4 (oth b o e)) hL hacc⟩
end
/-! ### many new objects -/
def layP (H : Hp) : List (Addr × HO) → Hp
  | [] => H
  | p :: r => upd (layP H r) p.1 p.2
theorem layP_off {H : Hp} {a : Addr} : ∀ {ts : List (Addr × HO)}, (∀ p ∈ ts, a ≠ p.1) → layP H ts a = H a
  | [], _ => rfl
  | p :: r, h => by
    show upd (layP H r) p.1 p.2 a = H a
    rw [upd_ne (h p List.mem_cons_self), layP_off fun q hq => h q (List.mem_cons_of_mem _ hq)]
theorem layP_at {H : Hp} : ∀ {ts : List (Addr × HO)}, (ts.map (·.1)).Nodup → ∀ p ∈ ts, layP H ts p.1 = some p.2
  | q :: r, nd, p, hp => by
    show upd (layP H r) q.1 q.2 p.1 = some p.2
    rw [List.map_cons, List.nodup_cons] at nd
    rcases List.mem_cons.mp hp with e | hp
    · rw [e, upd_same]
    · rw [upd_ne (fun z => nd.1 (by rw [← z]; exact List.mem_map_of_mem hp)), layP_at nd.2 p hp]
theorem layP_or {H : Hp} {a : Addr} {o : HO} {ts : List (Addr × HO)} (nd : (ts.map (·.1)).Nodup) (h : layP H ts a = some o) : (a, o) ∈ ts ∨ H a = some o := by
  by_cases hm : ∃ p ∈ ts, a = p.1
  · obtain ⟨p, hp, e⟩ := hm
    have z := layP_at (H := H) nd p hp
    rw [← e, h] at z
    cases z
    exact .inl (by rw [e]; exact hp)
  · have e := layP_off (H := H) (a := a) (ts := ts) fun p hp z => hm ⟨p, hp, z⟩
    rw [e] at h
    exact .inr h
theorem stp_layP {F H : Hp} (hs : Same F H) : ∀ (ts : List (Addr × HO)), (∀ p ∈ ts, H p.1 = none) → (ts.map (·.1)).Nodup → Stp F H (layP F ts) (layP H ts)
  | [], _, _ => Stp.refl hs
  | p :: r, h, nd => by
    rw [List.map_cons, List.nodup_cons] at nd
    have t := stp_layP hs r (fun q hq => h q (List.mem_cons_of_mem _ hq)) nd.2
    refine t.trans (Stp.newF t.sub ?_)
    rw [layP_off fun q hq z => nd.1 (by rw [z]; exact List.mem_map_of_mem hq)]
    exact h p List.mem_cons_self
theorem laidP {X : Cx} {pins : List (Addr × Obj)} {σ : L2.St} {H : Hp} {s : Shared} {h' : Heap} {tk : Nat} {ts : List (Addr × HO)} (I : Inv X pins σ H s) (kk : ∀ b o, s.heap.get? b = some o → h'.get? b = some o) (hn : ∀ p ∈ ts, s.heap.objs.size ≤ p.1) (nd : (ts.map (·.1)).Nodup)
    (hok : ∀ p ∈ ts, ObjOk X.prog X.w (layP H ts) h' p.1 p.2) : Inv X pins σ (layP H ts) { s with heap := h', toks := tk } := by
  have off : ∀ b o, s.heap.get? b = some o → layP H ts b = H b := fun b o e => layP_off fun p hp z => by
    have h1 := Heap.lt_size e
    have h2 := hn p hp
    rw [z] at h1
    exact absurd (Nat.lt_of_lt_of_le h1 h2) (Nat.lt_irrefl _)
  have offH : ∀ b u, H b = some u → layP H ts b = some u := fun b u e => by
    obtain ⟨o, ho⟩ := objOk_get (I.hok b u e)
    rw [off b o ho, e]
  refine I.un (t' := tk) { keep := fun b o e _ _ _ => kk b o e, slot := fun b o e _ _ _ => ⟨o.slots, kk b o e⟩, free := fun b o e n _ => by rw [off b o e]; exact n, there := fun b o e _ => ⟨o, kk b o e⟩, tups := fun b xs e => offH _ _ e, frzs := fun b o v e => offH _ _ e, tbls := fun b ps e => ⟨#[], by rw [offH _ _ e]; simp⟩ } fun b o q => ?_
  rcases layP_or nd q with hm | e
  · exact hok (b, o) hm
  · exact (I.hok b o e).stay (fun c v _ z => kk c _ z) (fun c hc => offH _ _ hc) (fun c xs hc => offH _ _ hc)
end DL
set_option maxHeartbeats 4000000
/-! DL, part 18: list(zip(a, b)) on data; x.extend(e); x[i:j] = e. -/
namespace DL
open PySem PySem.Spec PySem.Calls PyProof.Rows L2

def zipD (ds es : List D) : List D := List.zipWith (fun x y => D.tup [x, y]) ds es
theorem zipD_len {ds es : List D} (h : ds.length = es.length) : (zipD ds es).length = ds.length := by unfold zipD; rw [List.length_zipWith, ← h, Nat.min_self]
section
variable {X : Cx} {W : Wd} {ρ : Rho} {Ψ : List D → Rho → Prop} {pos p1 p2 pos2 : Pos} {a b : Expr}
/-- an iterator over a list or a tuple, as it is made -/
def itObj (b : Bool) (p : Addr) : Obj := if b = true then { cls := .type "list_iterator", data := .fields #[.ref p, .int 0 0] } else { cls := .type "tuple_iterator", data := .fields #[.ref p, .int 0 0] }
theorem begins_of {pins : List (Addr × Obj)} {s : Shared} {σ : L2.St} {H : Hp} {b : Bool} {p : Addr} {vs : List V} (I : Inv X pins σ H s) (hq : SqOk X.K H b p vs) : ∃ (its : List Value) (Hp1 : Heap → Prop), Vals vs its ∧ Begins (.ref p) (itObj b p) Hp1 ∧ Hp1 s.heap ∧ p < s.heap.objs.size ∧ vs.length ≤ sizeLine ∧
    ∀ (A : Around) (it : Addr), A.handled = none → p ≠ it → ∃ St, Draws X.prog X.w A it [it, p] its.length (fun j v => its[j]? = some v) St ∧ ∀ h' : Heap, (∀ b o, s.heap.get? b = some o → h'.get? b = some o) → h'.get? it = some (itObj b p) → St 0 h' := by
  cases b with
  | true =>
    obtain ⟨its, rv, pl, hz⟩ := I.list (show SqL X.K H p vs from hq)
    refine ⟨its, _, rv, begins_list p its.toArray, pl.isList, by obtain ⟨o, ho, _⟩ := pl.isList; exact Heap.lt_size ho, hz, fun A it hh hne => ⟨(fun i h => h.IsListIter it p i ∧ h.IsList p its.toArray), by simpa using Draws.list (prog := X.prog) (w := X.w) (A := A) hh it p hne its.toArray, fun h' kk hi => ⟨⟨_, hi, rfl, rfl⟩, pl.isList.at fun o e => kk p o e⟩⟩⟩
  | false =>
    obtain ⟨its, rv, pl, hz⟩ := I.tuple (show SqT X.K H p vs from hq)
    refine ⟨its, _, rv, begins_tuple p its.toArray, pl, pl.lt, hz, fun A it hh hne => ⟨(fun i h => h.IsTupleIter it p i ∧ h.IsTuple p its.toArray), by simpa using Draws.tuple (prog := X.prog) (w := X.w) (A := A) hh it p hne its.toArray, fun h' kk hi => ⟨⟨_, hi, rfl, rfl⟩, IsTup.keeps (show IsTup s.heap p its.toArray from pl) kk⟩⟩⟩
/-- what is wished behind the two -/
def ZPost (X : Cx) (Q : VK) : List V → Hp → Prop := fun vls H2 => ∃ b1 b2 p1 p2 vs ws, vls = [.ref p1, .ref p2] ∧ SqOk X.K H2 b1 p1 vs ∧ SqOk X.K H2 b2 p2 ws ∧ vs.length = ws.length ∧
    ∀ (L : Addr) (ts : List (Addr × HO)), (ts.map (·.1)).Nodup → (∀ p ∈ ts, H2 p.1 = none) → L ∉ ts.map (·.1) → H2 L = none → ts.length = vs.length → (∀ (j : Nat) p, ts[j]? = some p → ∃ x y, vs[j]? = some x ∧ ws[j]? = some y ∧ p.2 = .tup [x, y]) → Q (.ref L) (upd (layP H2 ts) L (.lst (ts.map fun p => V.ref p.1)))
theorem Den.sqOk {K : PySem.W.Frag} {F : Hp} {v : V} {d : D} {ds : List D} (h : Den K F v d) (hs : d.seq? = some ds) : ∃ b p vs, v = .ref p ∧ SqOk K F b p vs ∧ DenL K F vs ds := by
  obtain ⟨p, vs, e, hv, dl⟩ := h.sq hs
  rcases hv with hv | hv
  · exact ⟨true, p, vs, e, hv, dl⟩
  · exact ⟨false, p, vs, e, hv, dl⟩
theorem sqOk_mono {K : PySem.W.Frag} {H H' : Hp} {b : Bool} {p : Addr} {vs : List V} (e : Same H H') (h : SqOk K H b p vs) : SqOk K H' b p vs := by
  cases b with
  | true => exact sqL_mono e h
  | false => exact sqT_mono e h
theorem den_pairs {K : PySem.W.Frag} {F : Hp} : ∀ {vs ws : List V} {ds es : List D} {ts : List (Addr × HO)}, DenL K F vs ds → DenL K F ws es → vs.length = ws.length → ts.length = vs.length → (∀ p ∈ ts, F p.1 = some p.2) → (∀ (j : Nat) p, ts[j]? = some p → ∃ x y, vs[j]? = some x ∧ ws[j]? = some y ∧ p.2 = .tup [x, y]) →
    DenL K F (ts.map fun p => V.ref p.1) (zipD ds es)
  | _, _, _, _, [], .nil, .nil, _, _, _, _ => .nil
  | _, _, _, _, p :: ts, .cons h1 h2, .cons g1 g2, el, el2, hF, hj => by
    obtain ⟨x, y, e1, e2, e3⟩ := hj 0 p rfl
    cases e1; cases e2
    refine .cons (.tup (SqT.of (by rw [← e3]; exact hF p List.mem_cons_self)) (.cons h1 (.cons g1 .nil))) (den_pairs h2 g2 (by simpa using el) (by simpa using el2) (fun q hq => hF q (List.mem_cons_of_mem _ hq)) fun j q hq => ?_)
    obtain ⟨x, y, e1, e2, e3⟩ := hj (j + 1) q (by simpa using hq)
    exact ⟨x, y, by simpa using e1, by simpa using e2, e3⟩
  | _, _, _, _, _ :: _, .nil, .nil, _, el2, _, _ => by simp at el2
  | _, _, _, _, [], .cons _ _, _, _, el2, _, _ => by simp at el2
/-- list(zip(a, b)), of one length -/
theorem nx_listZip (hc : X.calm = true) (B : BltOk X "list" (.type "list")) (B2 : BltOk X "zip" (.type "zip")) (h : EX X W a ρ fun d1 ρ1 => EX X W b ρ1 fun d2 ρ2 => ∃ ds es, d1.seq? = some ds ∧ d2.seq? = some es ∧ ds.length = es.length ∧ Ψ (zipD ds es) ρ2)
    (hs : starEach [a, b] X.env = (false, eval a X.env) :: starEach [b] X.env := by rfl) (hs2 : starEach [b] X.env = [(false, eval b X.env)] := by rfl) (hpl : (backTo pos2 (starEach [b] X.env)).any (·.1) = false := by rfl) :
    NX X W (.Call (.Name "list" p1) [.Call (.Name "zip" p2) [a, b] [] pos2] [] pos) ρ Ψ := fun F H σ Q D0 q => by
  intro pins s I
  have na : starEach [.Call (.Name "zip" p2) [a, b] [] pos2] X.env = (false, eval (.Call (.Name "zip" p2) [a, b] [] pos2) X.env) :: starEach [] X.env := rfl
  have args : RunA X [a, b] σ H (ZPost X Q) := by
    refine run_a (pa_cons (peR a) (pa_cons (peR b) pa_nil hs2) hs) (h F H σ _ D0 fun v1 d1 F1 H1 ρ1 E1 s1 dn1 k1 => ?_)
    refine k1 F1 H1 σ _ E1 fun v2 d2 F2 H2 ρ2 E2 s2 dn2 ⟨ds, es, e1, e2, el, k2⟩ => ?_
    obtain ⟨b1, p1, vs, rfl, hq1, dl1⟩ := (dn1.mono s2.fs).sqOk e1
    obtain ⟨b2, p2, ws, rfl, hq2, dl2⟩ := dn2.sqOk e2
    have elen : vs.length = ws.length := by rw [dl1.length, dl2.length]; exact el
    refine ⟨b1, b2, p1, p2, vs, ws, rfl, sqOk_mono E2.sub hq1, sqOk_mono E2.sub hq2, elen, fun L ts nd hn hL hL0 ht hj => ?_⟩
    have t := stp_layP E2.sub ts hn nd
    have E3 := E2.step t
    have hL3 : layP H2 ts L = none := by rw [layP_off fun p hp z => hL (by rw [z]; exact List.mem_map_of_mem hp)]; exact hL0
    exact nx_fin q E3 ((s1.trans s2).trans t.tr) hL3 (den_pairs (dl1.mono t.fs) (dl2.mono t.fs) elen ht (fun p hp => layP_at nd p hp) hj) k2
  refine Call_ (ld_blt I B.g.g B.m B.v (PyProof.Rows.callWith_type1 (args_cons ?_ na) na) B.g.nm B.g.d)
  refine Call_ (ld_blt (I.tok _) B2.g.g B2.m B2.v (PyProof.Rows.callWith_type1 (thn (args pos2 pins _ (I.tok _)) fun us s1 ⟨vls, H2, I2, r, b1, b2, p1, p2, vs, ws, ev, hq1, hq2, el, qq⟩ => ?_) hs hpl) B2.g.nm B2.g.d)
  subst ev
  obtain ⟨u1, u2, rfl, r1, r2⟩ := vals2 r
  cases (show u1 = Value.ref p1 from r1)
  cases (show u2 = Value.ref p2 from r2)
  obtain ⟨its1, Hp1, rv1, B1, hh1, lt1, z1, dr1⟩ := begins_of I2 hq1
  obtain ⟨its2, Hp2, rv2, B2', hh2, lt2, z2, dr2⟩ := begins_of I2 hq2
  have hd := I.ok.hd hc
  refine zip_begins2 B1 B2' hh1 hh2 fun h' hz hTI hTO hi1 hi2 hsz kp => args_nil ?_
  obtain ⟨St1, D1, st1⟩ := dr1 X.A.in1.in1.in1 s1.heap.objs.size hd (Nat.ne_of_lt lt1)
  obtain ⟨St2, D2, st2⟩ := dr2 X.A.in1.in1.in1 (s1.heap.objs.size + 1) hd (Nat.ne_of_lt (Nat.lt_succ_of_lt lt2))
  have n1 : its1.length = vs.length := rv1.length.symm
  have n2 : its2.length = vs.length := by rw [← rv2.length, el]
  rw [n1] at D1
  rw [n2] at D2
  have S := zip_sep2 (N := s1.heap.objs.size) (fp1 := [p1]) (fp2 := [p2]) (by simpa using lt1) (by simpa using lt2)
  refine call_list_zip (s := { s1 with heap := h' }) S D1 D2 z1 (fun c hc => ?_) (fun c hc => ?_) hz ⟨_, _, hTO⟩ hTI (st1 h' kp hi1) (st2 h' kp hi2) fun h'' tk acc c' kk hL hP => ?_
  · have hc' : c = s1.heap.objs.size ∨ c = p1 := by simpa using hc
    show c < h'.objs.size
    rw [hsz]
    rcases hc' with e | e
    · rw [e]; exact Nat.lt_add_of_pos_right (by decide)
    · rw [e]; exact Nat.lt_of_lt_of_le lt1 (Nat.le_add_right _ _)
  · have hc' : c = s1.heap.objs.size + 1 ∨ c = p2 := by simpa using hc
    show c < h'.objs.size
    rw [hsz]
    rcases hc' with e | e
    · rw [e]; exact Nat.add_lt_add_left (by decide) _
    · rw [e]; exact Nat.lt_of_lt_of_le lt2 (Nat.le_add_right _ _)
  · have hLs : h'.objs.size = s1.heap.objs.size + 5 := hsz
    obtain ⟨hsize, inj, hall⟩ := hP
    have hall' : ∀ j, j < vs.length → ∃ T x y u1 u2, acc[j]? = some (.ref T) ∧ vs[j]? = some x ∧ ws[j]? = some y ∧ RelV x u1 ∧ RelV y u2 ∧ IsTupOf2 h'' T u1 u2 ∧ h'.objs.size < T := fun j hj => by
      have hja : j < acc.size := by rw [hsize]; exact hj
      obtain ⟨T, u1, u2, e1, e2, e3, e4, _, _, _, _, e5⟩ := hall j acc[j] (Array.getElem?_eq_getElem hja)
      obtain ⟨x, hx, rx⟩ := (show ∃ x, vs[j]? = some x ∧ RelV x u1 by
        obtain ⟨u, hu, ru⟩ := rv1.get (List.getElem?_eq_getElem hj)
        rw [hu] at e2; cases e2
        exact ⟨_, List.getElem?_eq_getElem hj, ru⟩)
      have hj2 : j < ws.length := by rw [← el]; exact hj
      obtain ⟨y, hy, ry⟩ := (show ∃ y, ws[j]? = some y ∧ RelV y u2 by
        obtain ⟨u, hu, ru⟩ := rv2.get (List.getElem?_eq_getElem hj2)
        rw [hu] at e3; cases e3
        exact ⟨_, List.getElem?_eq_getElem hj2, ru⟩)
      exact ⟨T, x, y, u1, u2, by rw [Array.getElem?_eq_getElem hja, e1], hx, hy, rx, ry, e4, e5⟩
    let adr : Nat → Addr := fun j => match acc[j]? with | some (.ref T) => T | _ => 0
    let ts : List (Addr × HO) := (List.range vs.length).map fun j => (adr j, HO.tup [vs.getD j .non, ws.getD j .non])
    have tlen : ts.length = vs.length := by simp [ts]
    have tat : ∀ j, j < vs.length → ts[j]? = some (adr j, HO.tup [vs.getD j .non, ws.getD j .non]) := fun j hj => by simp [ts, hj]
    have tmem : ∀ p ∈ ts, ∃ j, j < vs.length ∧ p = (adr j, HO.tup [vs.getD j .non, ws.getD j .non]) := fun p hp => by
      obtain ⟨j, hj, e⟩ := List.mem_map.mp hp
      exact ⟨j, List.mem_range.mp hj, e.symm⟩
    have adrE : ∀ j, j < vs.length → ∃ T x y u1 u2, adr j = T ∧ acc[j]? = some (.ref T) ∧ vs[j]? = some x ∧ ws[j]? = some y ∧ RelV x u1 ∧ RelV y u2 ∧ IsTupOf2 h'' T u1 u2 ∧ h'.objs.size < T := fun j hj => by
      obtain ⟨T, x, y, u1, u2, e1, r⟩ := hall' j hj
      exact ⟨T, x, y, u1, u2, by show (match acc[j]? with | some (.ref T) => T | _ => 0) = T; rw [e1], e1, r⟩
    have nd : (ts.map (·.1)).Nodup := by
      have e : ts.map (·.1) = (List.range vs.length).map adr := by simp [ts]
      rw [e]
      refine List.pairwise_map.mpr (List.nodup_range.imp_of_mem fun {j k} hj hk hne ejk => hne ?_)
      obtain ⟨T, _, _, _, _, a1, a2, _⟩ := adrE j (List.mem_range.mp hj)
      obtain ⟨T', _, _, _, _, b1, b2, _⟩ := adrE k (List.mem_range.mp hk)
      have : T = T' := by rw [← a1, ← b1, ejk]
      subst this
      exact inj j k T a2 b2
    have big : ∀ p ∈ ts, h'.objs.size < p.1 := fun p hp => by
      obtain ⟨j, hj, rfl⟩ := tmem p hp
      obtain ⟨T, _, _, _, _, a1, _, _, _, _, _, _, a2⟩ := adrE j hj
      show h'.objs.size < adr j
      rw [a1]; exact a2
    have le5 : s1.heap.objs.size ≤ h'.objs.size := by rw [hLs]; exact Nat.le_add_right _ _
    have nL : h'.objs.size ∉ ts.map (·.1) := fun hm => by
      obtain ⟨p, hp, e⟩ := List.mem_map.mp hm
      have := big p hp
      rw [e] at this
      exact Nat.lt_irrefl _ this
    have kk2 : ∀ b o, s1.heap.get? b = some o → h''.get? b = some o := fun b o e => by
      have lb := Heap.lt_size e
      exact kk b o (Nat.ne_of_lt (Nat.lt_of_lt_of_le lb (Nat.le_add_right _ _))) (Nat.ne_of_lt (Nat.lt_of_lt_of_le lb (Nat.le_add_right _ _))) (Nat.ne_of_lt lb) (Nat.ne_of_lt (Nat.lt_succ_of_lt lb)) (kp b o e)
    refine ⟨.ref h'.objs.size, layP H2 ((h'.objs.size, HO.lst (ts.map fun p : Addr × HO => V.ref p.1)) :: ts), ?_, rfl, qq h'.objs.size ts nd (fun p hp => I2.hok.fresh (Nat.le_trans le5 (Nat.le_of_lt (big p hp)))) nL (I2.hok.fresh le5) tlen fun j p hp => ?_⟩
    · show Inv X pins σ _ { s1 with heap := h'', toks := tk }
      refine laidP I2 kk2 (fun p hp => ?_) (by rw [List.map_cons, List.nodup_cons]; exact ⟨nL, nd⟩) fun p hp => ?_
      · rcases List.mem_cons.mp hp with e | hp
        · rw [e]; exact le5
        · exact Nat.le_trans le5 (Nat.le_of_lt (big p hp))
      · rcases List.mem_cons.mp hp with e | hp
        · subst e
          refine (show ObjOk X.prog X.w _ _ _ (.lst (ts.map fun p => V.ref p.1)) from ⟨by rw [List.length_map, tlen]; exact z1, acc.toList, c', ?_, by rw [Array.toArray_toList]; exact hL⟩)
          have e3 : acc.toList.length = vs.length := by rw [Array.length_toList, hsize]
          refine vals_of_at (by rw [List.length_map, tlen, e3]) fun j x u hx hu => ?_
          have hj : j < vs.length := by rw [← tlen]; have := (List.getElem?_eq_some_iff.mp hx).1; rwa [List.length_map] at this
          obtain ⟨T, _, _, _, _, a1, a2, _⟩ := adrE j hj
          rw [List.getElem?_map, tat j hj] at hx
          cases hx
          rw [Array.getElem?_toList, a2] at hu
          cases hu
          show Value.ref T = Value.ref (adr j)
          rw [a1]
        · obtain ⟨j, hj, rfl⟩ := tmem p hp
          obtain ⟨T, x, y, u1, u2, a1, a2, a3, a4, a5, a6, a7, _⟩ := adrE j hj
          have ex : vs.getD j .non = x := by rw [List.getD_eq_getElem?_getD, a3]; rfl
          have ey : ws.getD j .non = y := by rw [List.getD_eq_getElem?_getD, a4]; rfl
          show ObjOk X.prog X.w _ h'' (adr j) (.tup [vs.getD j .non, ws.getD j .non])
          rw [ex, ey, a1]
          exact ⟨by show 2 ≤ sizeLine; decide, [u1, u2], .cons a5 (.cons a6 .nil), ⟨_, a7, rfl, _, rfl⟩⟩
    · obtain ⟨j', hj', ej⟩ := (show ∃ j', j' = j ∧ j < vs.length from ⟨j, rfl, by rw [← tlen]; exact (List.getElem?_eq_some_iff.mp hp).1⟩)
      rw [tat j ej] at hp
      cases hp
      obtain ⟨T, x, y, u1, u2, a1, a2, a3, a4, _⟩ := adrE j ej
      refine ⟨x, y, a3, a4, ?_⟩
      show HO.tup [vs.getD j .non, ws.getD j .non] = .tup [x, y]
      rw [List.getD_eq_getElem?_getD, List.getD_eq_getElem?_getD, a3, a4]
      rfl
end
end DL
set_option maxHeartbeats 4000000
/-! DL, part 19: x.extend(e); x[i:j] = e. -/
namespace DL
open PySem PySem.Spec PySem.Calls PyProof.Rows L2

theorem clip_bounds (a c n : Nat) : sliceBounds (some (a : Int)) (some (c : Int)) none n = (((min a n : Nat) : Int), ((min c n : Nat) : Int), 1) := by
  simp only [sliceBounds, Option.getD_none]
  rw [if_neg (show ¬ ((a : Int) < 0) by omega), if_neg (show ¬ ((c : Int) < 0) by omega)]
  simp only [show (1 : Int) > 0 by decide, if_true]
  congr 1
  · omega
  · congr 1; omega
theorem splice_clip (its its2 : List Value) (a c : Nat) : its.toArray.extract 0 (min a its.length) ++ its2.toArray ++ its.toArray.extract (max (min a its.length) (min c its.length)) its.toArray.size = (its.take a ++ its2 ++ its.drop (max a c)).toArray := by
  apply Array.toList_inj.mp
  have e1 : max (min a its.length) (min c its.length) = min (max a c) its.length := by omega
  simp [e1]
  have e2 : List.take (min a its.length) its = List.take a its := by
    by_cases h : a ≤ its.length
    · rw [Nat.min_eq_left h]
    · rw [Nat.min_eq_right (by omega), List.take_of_length_le (Nat.le_refl _), List.take_of_length_le (by omega)]
  have e3 : List.drop (min (max a c) its.length) its = List.drop (max a c) its := by
    by_cases h : max a c ≤ its.length
    · rw [Nat.min_eq_left h]
    · rw [Nat.min_eq_right (by omega), List.drop_eq_nil_of_le (Nat.le_refl _), List.drop_eq_nil_of_le (by omega)]
  first
    | (rw [e2, e3]; done)
    | (rw [← e2, ← e3]
       simp [List.take_of_length_le])
section
variable {prog : Program} {w : World} {A : Around} {E : Value → Shared → Prop} {s : Shared}
theorem slice_set {l b sl : Addr} {items new : Array Value} {n n2 : Nat} {vl vu : Value} {a c : Nat} {Q : Unit → Shared → Prop} (e : s.heap.get? l = some { cls := .type "list", data := .seq items n }) (e2 : s.heap.get? b = some { cls := .type "list", data := .seq new n2 }) (hne : l ≠ b)
    (hs : s.heap.IsSliceOf sl vl vu .none) (pl : IsPart vl (some (a : Int))) (pu : IsPart vu (some (c : Int))) (hsz : items.size + new.size ≤ sizeLine)
    (h : Q () { s with heap := s.heap.update l (Obj.mapSeq fun xs => xs.extract 0 (min a items.size) ++ new ++ xs.extract (max (min a items.size) (min c items.size)) xs.size) }) : wpAny (model prog w) A (setItem (.ref l) (.ref sl) (.ref b)) Q E s := by
  have hl : s.heap.IsList l items := PySem.IsL.isList e
  have hb : s.heap.IsList b new := PySem.IsL.isList e2
  obtain ⟨os, hos, hcs, hds⟩ := id hs
  have hTs : s.TypeIs (.ref sl) "slice" := ⟨os, hos, hcs⟩
  have same : Builtin.List.listSameRef (.ref l) (.ref b) = false := by
    unfold Builtin.List.listSameRef
    exact beq_eq_false_iff_ne.mpr hne
  have fit : ((fun xs : Array Value => xs.extract 0 (min a items.size) ++ new ++ xs.extract (max (min a items.size) (min c items.size)) xs.size) items).size ≤ sizeLine + 1 := by
    simp only [Array.size_append, Array.size_extract]
    omega
  unfold setItem
  try with_reducible refine wpAny_holding ?_
  first | refine wpAny_bind (wpAny_pure ?_) | skip
  refine wpAny_bind (wpAny_sequenceKey hl.typeIs (by decide) (wpAny_bind (wpAny_callSpecial?_slot (name := Str.ofString "__setitem__") hl.typeIs slot_list_setitem (wpAny_call_entry slot_list_setitem hl.typeIs entry_list_setitem ?_ (args_list_setitem _ _ _)))))
  show wpAny _ _ (Builtin.List.listSubscript? (.ref sl) >>= _) _ _ s
  refine wpAny_bind ?_
  unfold Builtin.List.listSubscript?
  refine wpAny_bind (wpAny_specialOf hTs slice_no_index ?_)
  simp only [Option.isNone_none, if_true]
  refine wpAny_pure ?_
  show wpAny _ _ (typeOf (.ref sl) >>= _) _ _ s
  refine wpAny_bind (wpAny_typeOf hTs ?_)
  first
    | rw [if_neg (by decide)]
    | refine PySem.W.KFB.if_not (by decide) ?_
  rw [listSliceParts_eq]
  refine wpAny_bind (wpAny_bind (wpAny_field hos hds (x := .none) rfl (wpAny_bind (wpAny_listPart .none ?_))))
  rw [if_neg (show ¬ ((rawPart none == rawInt 0) = true) from Bool.false_ne_true)]
  refine wpAny_bind (wpAny_field hos hds (x := vl) rfl (wpAny_bind (wpAny_listPart pl (wpAny_bind (wpAny_field hos hds (x := vu) rfl (wpAny_bind (wpAny_listPart pu (wpAny_pure ?_))))))))
  first
    | simp only [same, Bool.false_eq_true, if_false]
    | refine PySem.W.KFB.if_not same ?_
  refine wpAny_bind (m := Builtin.List.listAllItems (.ref b) "must assign iterable to extended slice") ?_
  unfold Builtin.List.listAllItems
  refine wpAny_bind (wpAny_typeOf hb.typeIs ?_)
  first
    | refine PySem.W.KFB.if_so (by decide) ?_
    | rw [if_pos (by decide)]
    | simp only [beq_self_eq_true, Bool.true_or, if_true]
  unfold Builtin.List.listItems
  refine wpAny_bind (wpAny_seqItems e2 rfl (wpAny_pure (wpAny_bind (wpAny_bind (wpAny_seqItems e rfl (wpAny_pure ?_))))))
  refine wpAny_bind (wpAny_of_eq ((sliceIndices_raw (some (a : Int)) (some (c : Int)) none items.size (by simp)).trans (congrArg (pure : Int × Int × Int → Sem (Int × Int × Int)) (clip_bounds a c items.size))) ?_)
  show wpAny _ _ (if ((1 : Int) == 1) = true then _ else _) _ _ s
  rw [if_pos (by decide)]
  refine wpAny_bind (wpAny_rule ?_)
  first
    | simp only [notLongL hsz, Bool.false_eq_true, if_false]
    | refine PySem.W.KFB.if_not (notLongL hsz) ?_
  first | refine wpAny_bind (wpAny_pure ?_) | skip
  show wpAny _ _ (updateSeq l (fun xs => xs.extract 0 ((min a items.size : Nat) : Int).toNat ++ new ++ xs.extract (max ((min a items.size : Nat) : Int) ((min c items.size : Nat) : Int)).toNat xs.size) >>= _) _ _ s
  rw [show (max ((min a items.size : Nat) : Int) ((min c items.size : Nat) : Int)).toNat = max (min a items.size) (min c items.size) by omega, Int.toNat_natCast]
  refine wpAny_bind (wpAny_updateSeq (hz := Nat.le_trans (Nat.le_add_right _ _) hsz) (_hz' := fit) e rfl (wpAny_bind (wpAny_letGo ?_)))
  first
    | exact wpAny_bind (wpAny_pure (wpAny_pure ⟨.none, rfl, wpAny_pure h⟩))
    | exact wpAny_pure ⟨.none, rfl, wpAny_pure h⟩
end
section
variable {X : Cx} {W : Wd} {ρ : Rho} {Φ : Out → Prop} {pos p1 p2 p3 apos : Pos} {i : Nat} {x : Str} {e lo hi : Expr}
/-- x.extend(e) -/
theorem s_extend (hv : VarOk X i x) (hρ : ∃ s ds, ρ[i]? = some s ∧ Sl.items s = some ds) (h : EX X W e ρ fun d ρ1 => ∃ s ds es, d = .lst es ∧ ρ1[i]? = some s ∧ Sl.items s = some ds ∧ ds.length + es.length ≤ sizeLine ∧ Φ (.nx (ρ1.set i (s.put (ds ++ es)))))
    (hbase : attributeBase (.Name x p1) "extend" X.env (eval (.Name x p1) X.env) = eval (.Name x p1) X.env := by rfl) (hline : (apos.endLine == p2.line) = true := by rfl) (hs : starEach [e] X.env = [(false, eval e X.env)] := by rfl)
    (hfew : ((backTo p2 (starEach [e] X.env)).all (fun x => !x.1) && (backToKw p2 (keywordEach [] X.env)).all (fun x => x.1.isSome) && decide (([e] : List Expr).length + ([] : List Keyword).length + (if ([] : List Keyword).isEmpty then 0 else 1) < 30)) = true := by rfl)
    (hw : swapsWith (.Call (.Attribute (.Name x p1) "extend" apos) [e] [] p2) none pos.line X.env = pure false := by rfl) : S1 X W (.Expr (.Call (.Attribute (.Name x p1) "extend" apos) [e] [] p2) pos) ρ Φ := fun F H σ E D q => by
  obtain ⟨s0, ds0, e0, i0⟩ := hρ
  obtain ⟨p, vs0, hp, _, hH0, _⟩ := D.at_slot e0 i0
  refine run_s (ps_expr (pe_bm PySem.F.plainAttrs_list PySem.F.slot_list_extend PySem.F.type_list_extend mt_extend (pe_var hv.n hv.v hv.d hv.c) (pa_cons (peR e) pa_nil hs) hbase hfew hline hs rfl) hw) ⟨.ref p, hp, tyL hH0, h F H σ _ D fun v d F1 H1 ρ1 E1 s1 dn1 ⟨s, ds, es, ed, hi, hq, hz, k1⟩ => ?_⟩
  subst ed
  obtain ⟨p', vs, hp', _, hH, dl⟩ := E1.at_slot hi hq
  rw [hp] at hp'
  injection hp' with hp'; injection hp' with hp'; injection hp' with hp'
  subst hp'
  have hm : s.mut := by cases s <;> first | trivial | cases hq
  cases dn1 with
  | @lst b ws _ hb dw => exact ⟨p, b, vs, ws, rfl, rfl, hH, E1.sub _ _ hb, by rw [dl.length, dw.length]; exact hz, q.nx _ _ _ _ (E1.mut_slot hi hq hp (dl.append dw)) (s1.trans (tr_mut hi hm (fun _ => hm) hp)) k1⟩
/-- x[lo:hi] = e -/
theorem s_setSl (hv : VarOk X i x) (h : EX X W e ρ fun d ρ1 => ∃ es, d = .lst es ∧ (∃ s ds, ρ1[i]? = some s ∧ Sl.items s = some ds) ∧ EX X W lo ρ1 fun dl ρ2 => ∃ a : Nat, dl = .int (a : Int) ∧ EX X W hi ρ2 fun dh ρ3 => ∃ c : Nat, ∃ s ds, dh = .int (c : Int) ∧ ρ3[i]? = some s ∧ Sl.items s = some ds ∧ ds.length + es.length ≤ sizeLine ∧
      Φ (.nx (ρ3.set i (s.put (ds.take a ++ es ++ ds.drop (max a c))))))
    (hs : swapsWithSole [.Subscript (.Name x p1) (.Slice (some lo) (some hi) none p3) p2] e pos.line X.env = pure false := by rfl) (hw : swappedStores [.Subscript (.Name x p1) (.Slice (some lo) (some hi) none p3) p2] e X.env = pure none := by rfl)
    (h1 : (assignEach [.Subscript (.Name x p1) (.Slice (some lo) (some hi) none p3) p2] X.env).map (·.2) = [assign (.Subscript (.Name x p1) (.Slice (some lo) (some hi) none p3) p2) X.env] := by rfl)
    (ha : ∀ v, assign (.Subscript (.Name x p1) (.Slice (some lo) (some hi) none p3) p2) X.env v = (do
      let ov ← holding [v] (eval (.Name x p1) X.env)
      let iv ← holding [v, ov] (eval (.Slice (some lo) (some hi) none p3) X.env)
      standAt p2
      holding [v, ov, iv] (setItem ov iv v)
      release [iv, v, ov] []) := by intro _; rfl) : S1 X W (.Assign [.Subscript (.Name x p1) (.Slice (some lo) (some hi) none p3) p2] e pos) ρ Φ := fun F H σ E D q => by
  intro pins s I
  refine wpAny_Assign_stores (thn (h F H σ (fun v H1 => ∃ p b, v = .ref b ∧ σ[i]? = some (some (.ref p)) ∧ RunE X lo σ H1 fun y H2 => ∃ a : Nat, y = .int (a : Int) ∧ RunE X hi σ H2 fun y2 H3 => ∃ c : Nat, y2 = .int (c : Int) ∧ ∃ vs ws, H3 p = some (.lst vs) ∧ H3 b = some (.lst ws) ∧ p ≠ b ∧ vs.length + ws.length ≤ sizeLine ∧
    E.nx σ (upd H3 p (.lst (vs.take a ++ ws ++ vs.drop (max a c))))) D (fun v d F1 H1 ρ1 E1 s1 dn1 ⟨es, ed, ⟨s0, ds0, e0, i0⟩, k1⟩ => ?_) pins s I) fun u s1 ⟨v, H1, I1, r1, p, b, ev, hp, hlo⟩ => ?_) hs hw
  · obtain ⟨p, vs0, hp, _⟩ := E1.at_slot e0 i0
    subst ed
    cases dn1 with
    | @lst b ws _ hb dw =>
      refine ⟨p, b, rfl, hp, k1 F1 H1 σ _ E1 fun v2 d2 F2 H2 ρ2 E2 s2 dn2 ⟨a, e2, k2⟩ => ?_⟩
      subst e2
      cases dn2
      refine ⟨a, rfl, k2 F2 H2 σ _ E2 fun v3 d3 F3 H3 ρ3 E3 s3 dn3 ⟨c, sl, ds, e3, hi, hq, hz, k3⟩ => ?_⟩
      subst e3
      cases dn3
      obtain ⟨p', vs, hp', hF, hH, dl⟩ := E3.at_slot hi hq
      rw [hp] at hp'
      injection hp' with hp'; injection hp' with hp'; injection hp' with hp'
      subst hp'
      have hb3 : F3 b = some (.lst ws) := s3.fs _ _ (s2.fs _ _ hb)
      have hm : sl.mut := by cases sl <;> first | trivial | cases hq
      have dw3 := dw.mono (s2.fs.trans s3.fs)
      refine ⟨c, rfl, vs, ws, hH, E3.sub _ _ hb3, (fun z => by rw [← z, hF] at hb3; cases hb3), by rw [dl.length, dw3.length]; exact hz, ?_⟩
      exact q.nx _ _ _ _ (E3.mut_slot hi hq hp (((dl.take a).append dw3).append (dl.drop _))) (((s1.trans s2).trans s3).trans (tr_mut hi hm (fun _ => hm) hp)) k3
  · subst ev
    cases (show u = Value.ref b from r1)
    rw [h1]
    refine thn (show wpAny (model X.prog X.w) X.A (assign (.Subscript (.Name x p1) (.Slice (some lo) (some hi) none p3) p2) X.env (.ref b)) (fun _ s' => ∃ σ' H', Inv X pins σ' H' s' ∧ E.nx σ' H') X.xe s1 from ?_) fun _ s2 z => z
    rw [ha]
    refine wpAny_bind (wpAny_holding (thn ((pe_var hv.n hv.v hv.d hv.c).run pins s1 σ H1 (fun v H2 => v = .ref p ∧ H2 = H1) I1 ⟨_, hp, rfl, rfl⟩) fun ov s2 ⟨w1, H2, I2, r2, e1, e2⟩ => ?_))
    subst e1 e2
    cases (show ov = Value.ref p from r2)
    have part1 : (tPart (RunE X lo)) σ H2 fun o H3 => ∃ a : Nat, o = some (a : Int) ∧ RunE X hi σ H3 fun y2 H4 => ∃ c : Nat, y2 = .int (c : Int) ∧ ∃ vs ws, H4 p = some (.lst vs) ∧ H4 b = some (.lst ws) ∧ p ≠ b ∧ vs.length + ws.length ≤ sizeLine ∧ E.nx σ (upd H4 p (.lst (vs.take a ++ ws ++ vs.drop (max a c)))) :=
      fun pins s I => thn (hlo pins s I) fun v s1 ⟨x, H', I', r, a, ea, q⟩ => ⟨x, H', I', r, _, ea, a, rfl, q⟩
    refine wpAny_bind (wpAny_holding (wpAny_Slice (thn ((po_some (peR lo)).run pins s2 σ H2 _ I2 part1) fun vl s3 ⟨o, H3, I3, pl, a, eo, hhi⟩ => ?_)))
    subst eo
    have part2 : (tPart (RunE X hi)) σ H3 fun o H4 => ∃ c : Nat, o = some (c : Int) ∧ ∃ vs ws, H4 p = some (.lst vs) ∧ H4 b = some (.lst ws) ∧ p ≠ b ∧ vs.length + ws.length ≤ sizeLine ∧ E.nx σ (upd H4 p (.lst (vs.take a ++ ws ++ vs.drop (max a c)))) :=
      fun pins s I => thn (hhi pins s I) fun v s1 ⟨x, H', I', r, c, ec, q⟩ => ⟨x, H', I', r, _, ec, c, rfl, q⟩
    refine thn ((po_some (peR hi)).run pins s3 σ H3 _ I3 part2) fun vu s4 ⟨o2, H4, I4, pu, c, eo2, vs, ws, hHp, hHb, hne, hz, fin⟩ => ?_
    subst eo2
    rw [evalPart_none]
    refine wpAny_pure ?_
    have I5 : Inv X pins σ H4 { s4 with heap := s4.heap.push { cls := .type "slice", data := .fields #[vl, vu, .none] } } := I4.kept (t' := s4.toks) fun b ob q => Heap.get?_push_of_some _ q
    obtain ⟨z1, its1, m1, rv1, hl1, g1⟩ := I5.lstM hHp
    obtain ⟨z2, its2, m2, rv2, hl2, g2⟩ := I5.lstM hHb
    refine wpAny_bind (wpAny_standAt (wpAny_bind (wpAny_holding (slice_set g1 g2 hne (Heap.IsSliceOf.new _ vl vu .none) pl pu (by rw [List.size_toArray, List.size_toArray, ← hl1, ← hl2]; exact hz) ?_))))
    refine wpAny_release ⟨σ, _, ?_, fin⟩
    refine I5.lset (its' := its1.take a ++ its2 ++ its1.drop (max a c)) (t' := s4.toks) hHp g1 ?_ (Vals.append (Vals.append (rv1.take _) rv2) (rv1.drop _)) ?_
    · have := splice_clip its1 its2 a c
      simpa using this
    · rw [List.length_append, List.length_append, List.length_take, List.length_drop]
      omega
end
end DL
set_option maxHeartbeats 4000000
/-! DL, part 20: comprehensions that change nothing, where an error is handled; the rule for a def, by its program. -/
namespace DL
open PySem PySem.Spec PySem.Calls PyProof.Rows L2 L2H
section
variable {X : Cx} {W : Wd} {ρ : Rho} {Ψ : List D → Rho → Prop} {Θ : Rho → Prop} {pos : Pos} {i j k : Nat} {x : Str} {d : D} {vs : List Nat} {tg iter elt c : Expr} {ifs : List Expr} {N : List Str} {sc scope : Scope} {own : List (Str × Nat)}
theorem gc_name0 (C : Cx0 X N sc) (hv : LocOk X i x) (hi : i ∈ vs) (h : Θ (ρ.set i (.val d))) : GC X W vs (.Name x pos) d ρ Θ := fun F H σ v Q D dn q =>
  run_g (pg_name C.nd hv.n hv.l hv.f) (q _ _ _ _ (D.set dn) tr_set (wipe_set hi) h)
/-- the turns of such a comprehension -/
def MapsH (X : Cx) (W : Wd) (scope : Scope) (elt : Expr) (ifs : List Expr) (ρ : Rho) (j k : Nat) (N : List Str) (sc : Scope) (ds : List D) (f : D → D) (t : D → Bool) : Prop :=
  ∀ d ∈ ds, ∀ X', IsBlkH X X' scope → CxtH X' k N sc → TsX X' W ifs (ρ.set j (.val d)) (fun b ρ3 => b = t d ∧ ρ3 = ρ.set j (.val d)) ∧ (t d = true → EX X' W elt (ρ.set j (.val d)) fun e ρ4 => e = f d ∧ ρ4 = ρ.set j (.val d))
theorem set_lookupH {x : Str} {px : Pos} (C : CxtH X k N sc) (hx : N[j]? = some x) (hl : (blkScope scope sc).names.lookup x = some .local) {f : D → D} {t : D → Bool} {ds : List D} {ρ1 : Rho} (hlen : ds.length ≤ sizeLine) (hj : j < ρ1.length)
    (h : MapsH X W scope elt ifs ρ1 j k N (blkScope scope sc) ds f t) :
    ∀ (i : Nat) (d : D) (acc : List D) (ρ' : Rho), ds[i]? = some d → (acc = ((ds.take i).filter t).map f ∧ ρ' = wipeR ρ1 [j]) → ∀ X1, IsBlkH X X1 scope → GC X1 W [j] (.Name x px) d ρ' fun ρ2 => ∀ X2, IsBlkH X X2 scope → TsX X2 W ifs ρ2 fun t' ρ3 =>
        (t' = true → ∀ X3, IsBlkH X X3 scope → EX X3 W elt ρ3 fun e ρ4 => acc.length < sizeLine ∧ (acc ++ [e] = ((ds.take (i + 1)).filter t).map f ∧ wipeR ρ4 [j] = wipeR ρ1 [j])) ∧ (t' = false → acc = ((ds.take (i + 1)).filter t).map f ∧ wipeR ρ3 [j] = wipeR ρ1 [j]) := fun i d acc ρ' hd ⟨ea, er⟩ X1 b1 => by
  have hi : i < ds.length := (List.getElem?_eq_some_iff.mp hd).1
  have hm : d ∈ ds := List.mem_of_getElem? hd
  have etk : ds.take (i + 1) = ds.take i ++ [d] := by rw [List.take_succ, hd]; rfl
  have ew : (wipeR ρ1 [j]).set j (.val d) = ρ1.set j (.val d) := by show ((ρ1.set j .no).set j _) = _; rw [List.set_set]
  have ew2 : wipeR (ρ1.set j (.val d)) [j] = wipeR ρ1 [j] := by show ((ρ1.set j _).set j .no) = (ρ1.set j .no); rw [List.set_set]
  subst er
  refine gc_name0 (b1.cxt C).toCx0 (b1.loc C hx hl) List.mem_cons_self fun X2 b2 => ?_
  rw [ew]
  refine (h d hm X2 b2 (b2.cxt C)).1.mono fun t' ρ3 ⟨e1, e2⟩ => ⟨fun ht X3 b3 => ?_, fun ht => ?_⟩
  · subst e2
    refine ((h d hm X3 b3 (b3.cxt C)).2 (by rw [← e1]; exact ht)).mono fun e ρ4 ⟨e3, e4⟩ => ⟨?_, ?_, by rw [e4, ew2]⟩
    · rw [ea, List.length_map]
      refine Nat.lt_of_le_of_lt (List.length_filter_le _ _) ?_
      rw [List.length_take]
      omega
    · rw [etk, List.filter_append, List.map_append, ea, e3, List.filter_cons, if_pos (by rw [← e1]; exact ht)]
      rfl
  · subst e2
    refine ⟨?_, ew2⟩
    rw [etk, List.filter_append, List.map_append, ← ea, List.filter_cons, if_neg (by rw [← e1, ht]; exact Bool.false_ne_true)]
    simp
theorem nx_mapH {x : Str} {px : Pos} (C : CxtH X k N sc) (ok : BlkOk X.N X.env.scope scope [(x, j)]) (hx : N[j]? = some x) (hl : (blkScope scope sc).names.lookup x = some .local) (f : D → D) (t : D → Bool)
    (h : IXH X W (.Name x px) iter ρ fun ds ρ1 => ds.length ≤ sizeLine ∧ j < ρ1.length ∧ ¬ (ρ1.getD j .no).mut ∧ MapsH X W scope elt ifs ρ1 j k N (blkScope scope sc) ds f t ∧ Ψ ((ds.filter t).map f) ρ1)
    (hs : ∀ x, foldedSetIterable iter X.env x = pure x := by intro _; rfl) : NX X W (.ListComp elt [⟨.Name x px, iter, ifs, 0⟩] scope pos) ρ Ψ :=
  nx_lcH C ok (by simp) (fun F H σ R D0 q => h F H σ R D0 fun J ds F' H' ρ1 E' s wk ⟨hlen, hj, hmu, hM, hk⟩ => q J ds F' H' ρ1 E' s wk
    ⟨fun v hv => by have e : v = j := by simpa using hv
                    rw [e]; exact hmu, fun i acc ρ' => acc = ((ds.take i).filter t).map f ∧ ρ' = wipeR ρ1 [j], ⟨rfl, rfl⟩, set_lookupH C hx hl hlen hj hM, fun acc ρ' ⟨ea, er⟩ => by
      rw [ea, er, List.take_length]
      show Ψ _ (unwipe ρ1 (wipeR ρ1 [j]) [j])
      rw [unwipe1 hj]
      exact hk⟩) hs
end
/-- a block's names, by the frame's -/
theorem blkOk_of {X : Cx} {N : List Str} {sc scope : Scope} {own : List (Str × Nat)} (C : Cx0 X N sc) (h : BlkOk N sc scope own) : BlkOk X.N X.env.scope scope own := by rw [C.n, C.s]; exact h
/-- THE RULE for a def -/
theorem def_of {P : Program} {w : World} {K : PySem.W.Frag} {mg : Str → Option Value} {base : Heap} {x qual : Str} {st : Stmt} {f : Addr} {fd : FuncData} {N ps : List Str} {k : Nat} {S : Spec} (hm : mg x = some (.ref f)) (Fu : FunD K x qual (defArgs st) (defBody st) (defScope st) [] [] f fd) (b : Binds K fd ps [])
    (Sc : FnScope N ps (defScope st)) (len : ∀ o as Φ, S o as Φ → (match o with | none => 0 | some _ => 1) + as.length = ps.length)
    (body : ∀ (X : Cx), AtP X P w K mg base → ∀ (W : Wd) (o : Option (Addr × List D)) (as : List D) (Φ : Ro → Prop), S (o.map (·.2)) as Φ → Body X W k N (defScope st) o Φ → SX X W (defBody st) (ent (N.length - ps.length) o as) (Fin o Φ)) : FnD P w K mg base (k + 1) x ps S :=
  fnD_of hm Fu b Sc len fun X h1 h2 h3 h4 h5 W o as Φ hS B => body X ⟨h1, h2, h3, h4, h5⟩ W o as Φ hS B
/-- the same, of a known function object -/
theorem def_ok {P : Program} {w : World} {K : PySem.W.Frag} {mg : Str → Option Value} {base : Heap} {x qual : Str} {st : Stmt} {f : Addr} {fd : FuncData} {N ps : List Str} {k : Nat} {S : Spec} (Fu : FunD K x qual (defArgs st) (defBody st) (defScope st) [] [] f fd)
    (Sc : FnScope N ps (defScope st)) (len : ∀ o as Φ, S o as Φ → (match o with | none => 0 | some _ => 1) + as.length = ps.length)
    (body : ∀ (X : Cx), AtP X P w K mg base → ∀ (W : Wd) (o : Option (Addr × List D)) (as : List D) (Φ : Ro → Prop), S (o.map (·.2)) as Φ → Body X W k N (defScope st) o Φ → SX X W (defBody st) (ent (N.length - ps.length) o as) (Fin o Φ)) : FnOk P w K mg base (L2N.CX P w) (k + 1) f fd ps (spD K S) :=
  fnOk_of Fu Sc len fun X h1 h2 h3 h4 h5 W o as Φ hS B => body X ⟨h1, h2, h3, h4, h5⟩ W o as Φ hS B
theorem IsBlk.fn' {X X' : Cx} {scope : Scope} {x : Str} (b : IsBlk X X' scope) : X'.fn x = (scope.names.lookup x == some .cell) := by
  obtain ⟨s, H, C, cl, fp, rfl⟩ := b
  rfl
end DL
set_option maxHeartbeats 2000000
/-! DL, part 21: what the scripts use: names, built-ins, cuts. -/
namespace DL
open PySem PySem.Spec PySem.Calls PyProof.Rows L2 L2H

section
variable {X : Cx} {k : Nat} {N : List Str} {sc : Scope} {W : Wd} {ρ : Rho} {e : Expr}
/-- a name of the frame: one that is seen -/
theorem vr (C : Cx0 X N sc) (i : Nat) {x : Str} (hx : N[i]? = some x) (h : visB sc x = true) : VarOk X i x := by
  unfold visB at h
  simp only [Bool.and_eq_true, Bool.not_eq_true'] at h
  obtain ⟨⟨h1, h2⟩, h3⟩ := h
  have l : Loc X.env.scope x := by
    rw [C.s]
    split at h1
    · rename_i e; exact .inl e
    · rename_i e; exact .inr e
    · cases h1
  exact ⟨by rw [C.n]; exact hx, l.elim .inl fun z => .inr (.inl z), h2, h3⟩
theorem lr (C : Cx0 X N sc) (hf : ∀ x, X.fn x = true) (i : Nat) {x : Str} (hx : N[i]? = some x) (h : visB sc x = true) : LocOk X i x := by
  have v := vr C i hx h
  unfold visB at h
  simp only [Bool.and_eq_true, Bool.not_eq_true'] at h
  refine ⟨v.n, ?_, .inl (hf x)⟩
  rw [C.s]
  have h1 := h.1.1
  split at h1
  · rename_i e; exact .inl e
  · rename_i e; exact .inr e
  · cases h1
theorem vars_m (C : Cx0 X N sc) (m : Nat) (h : (N.take m).all (visB sc) = true) (i : Nat) (x : Str) (hi : i < m) (hx : N[i]? = some x) : VarOk X i x :=
  vr C i hx (List.all_eq_true.mp h x (List.mem_of_getElem? (i := i) (by rw [List.getElem?_take_of_lt hi]; exact hx)))
theorem locs_m (C : Cx0 X N sc) (hf : ∀ x, X.fn x = true) (m : Nat) (h : (N.take m).all (visB sc) = true) (i : Nat) (x : Str) (hi : i < m) (hx : N[i]? = some x) : LocOk X i x :=
  lr C hf i hx (List.all_eq_true.mp h x (List.mem_of_getElem? (i := i) (by rw [List.getElem?_take_of_lt hi]; exact hx)))
theorem ox_none {Φ : Option Int → Rho → Prop} (h : Φ none ρ) : OX X W none ρ Φ := h
theorem ox_some {Φ : Option Int → Rho → Prop} (h : EX X W e ρ fun d ρ1 => ∃ k, d = .int k ∧ Φ (some k) ρ1) : OX X W (some e) ρ Φ := h
/-! ### cuts -/
theorem tx_is (B : Bool) {Θ : Bool → Rho → Prop} (h : TX X W e ρ fun t ρ' => t = B ∧ ρ' = ρ) (k : Θ B ρ) : TX X W e ρ Θ := h.mono fun t ρ' ⟨h1, h2⟩ => by subst h1 h2; exact k
theorem ex_is (d : D) {Φ : D → Rho → Prop} (h : EX X W e ρ fun d' ρ' => d' = d ∧ ρ' = ρ) (k : Φ d ρ) : EX X W e ρ Φ := h.mono fun t ρ' ⟨h1, h2⟩ => by subst h1 h2; exact k
theorem ex_gen {Φ : D → Rho → Prop} {P : Int → Prop} (h : EX X W e ρ fun d ρ' => ∃ i, d = .int i ∧ P i ∧ ρ' = ρ) (k : ∀ i, P i → Φ (.int i) ρ) : EX X W e ρ Φ := h.mono fun d ρ' ⟨i, h1, h2, h3⟩ => by subst h1 h3; exact k i h2
theorem ex_bool {Φ : D → Rho → Prop} (B : Bool) (h : EX X W e ρ fun d' ρ' => d' = .bl B ∧ ρ' = ρ) (k : Φ (.bl B) ρ) : EX X W e ρ Φ := ex_is _ h k
end
theorem o_none {o : Option (Addr × List D)} (h : o.map (·.2) = none) : o = none := by
  cases o with
  | none => rfl
  | some _ => cases h
theorem o_some {o : Option (Addr × List D)} {ds : List D} (h : o.map (·.2) = some ds) : ∃ p, o = some (p, ds) := by
  cases o with
  | none => cases h
  | some q =>
    obtain ⟨p, d⟩ := q
    cases h
    exact ⟨p, rfl⟩
/-! ### built-ins -/
theorem bt_isinstance : bootBuiltins "isinstance" = some (.builtin "isinstance") := by decide +kernel
theorem bt_len : bootBuiltins "len" = some (.builtin "len") := by decide +kernel
theorem bt_max : bootBuiltins "max" = some (.builtin "max") := by decide +kernel
theorem bt_min : bootBuiltins "min" = some (.builtin "min") := by decide +kernel
theorem bt_int : bootBuiltins "int" = some (.type "int") := by decide +kernel
theorem bt_bool : bootBuiltins "bool" = some (.type "bool") := by decide +kernel
theorem bt_str : bootBuiltins "str" = some (.type "str") := by decide +kernel
theorem bt_list : bootBuiltins "list" = some (.type "list") := by decide +kernel
theorem bt_tuple : bootBuiltins "tuple" = some (.type "tuple") := by decide +kernel
theorem bt_range : bootBuiltins "range" = some (.type "range") := by decide +kernel
theorem bt_enumerate : bootBuiltins "enumerate" = some (.type "enumerate") := by decide +kernel
theorem bt_zip : bootBuiltins "zip" = some (.type "zip") := by decide +kernel
theorem bt_ValueError : bootBuiltins "ValueError" = some (.type "ValueError") := by decide +kernel
/-! ### whole numbers -/
def D.isW : D → Bool | .int _ => true | _ => false
def D.isa (c : String) : D → Bool
  | .non => false | .bl _ => c == "bool" || c == "int" | .int _ => c == "int" | .str _ => c == "str" | .lst _ => c == "list" | .tup _ => c == "tuple" | _ => false
theorem kit_is {d : D} {T c : String} (ht : d.tyn = some T) (hc : c = "int" ∨ c = "bool" ∨ c = "str" ∨ c = "list" ∨ c = "tuple") : kitB T c = some (d.isa c) := by
  rcases hc with rfl | rfl | rfl | rfl | rfl <;> cases d <;> cases ht <;> simp only [D.isa] <;> decide +kernel
theorem isa_int {d : D} : d.isa "int" = (d.isW || d.isa "bool") := by cases d <;> rfl
theorem isW_of {d : D} (h : d.isW = true) : ∃ i, d = .int i := by cases d <;> first | exact ⟨_, rfl⟩ | cases h
theorem isW_bool {d : D} (h : d.isW = true) : d.isa "bool" = false := by obtain ⟨i, rfl⟩ := isW_of h; rfl
mutual
/-- plain data that a type asks for: no list that is only read -/
def D.gd : D → Bool
  | .lst ds => D.gdL ds | .tup ds => D.gdL ds | .ref _ => false | .ty _ => false | .frz _ => false | _ => true
def D.gdL : List D → Bool
  | [] => true
  | d :: ds => d.gd && D.gdL ds
end
theorem gdL_iff {ds : List D} : D.gdL ds = true ↔ ∀ d ∈ ds, d.gd = true := by
  induction ds with
  | nil => simp [D.gdL]
  | cons d ds ih => simp [D.gdL, ih]
theorem gd_tyn {d : D} (h : d.gd = true) : ∃ T, d.tyn = some T := by cases d <;> first | exact ⟨_, rfl⟩ | cases h
def D.val : D → Int | .int i => i | _ => 0
def D.within (d : D) (lo hi : Int) : Bool := d.isW && (decide (lo ≤ d.val) && decide (d.val ≤ hi))
theorem within_int {i lo hi : Int} : D.within (.int i) lo hi = (decide (lo ≤ i) && decide (i ≤ hi)) := rfl
theorem within_not {d : D} {lo hi : Int} (h : d.isW = false) : d.within lo hi = false := by unfold D.within; rw [h]; rfl
/-- the first one that fails, counted from 1 -/
def firstBad (p : D → Bool) : List D → Option Nat
  | [] => none
  | d :: ds => if p d = true then (firstBad p ds).map (· + 1) else some 1
theorem pairsFrom_get {k0 : Int} {ds : List D} {i : Nat} {d0 : D} (h : (pairsFrom k0 ds)[i]? = some d0) : ∃ e, ds[i]? = some e ∧ d0 = .tup [.int (k0 + (i : Int)), e] := by
  unfold pairsFrom at h
  rw [List.getElem?_map, List.getElem?_zipIdx] at h
  cases e : ds[i]? with
  | none => rw [e] at h; cases h
  | some x =>
    rw [e] at h
    simp at h
    exact ⟨x, rfl, h.symm⟩
theorem pairsFrom_len {k0 : Int} {ds : List D} : (pairsFrom k0 ds).length = ds.length := by unfold pairsFrom; rw [List.length_map, List.length_zipIdx]
theorem gd_at {ds : List D} {i : Nat} {d : D} (h : D.gdL ds = true) (hd : ds[i]? = some d) : d.gd = true := gdL_iff.mp h d (List.mem_of_getElem? hd)
theorem mem_steps {lo c : Int} {n : Nat} {d : D} (h : d ∈ steps lo c n) : ∃ j : Nat, j < n ∧ d = .int (lo + (j : Int) * c) := by
  unfold steps at h
  obtain ⟨j, hj, e⟩ := List.mem_map.mp h
  exact ⟨j, List.mem_range.mp hj, e.symm⟩
theorem cut_from {α : Type} {xs : List α} {m : Int} (h0 : 0 ≤ m) : cutL xs (some m) none = xs.drop m.toNat := by
  obtain ⟨k, rfl⟩ := Int.eq_ofNat_of_zero_le h0
  unfold cutL
  rw [HT.sIx_nat, HT.sIx_none, Int.toNat_natCast]
  by_cases h : k ≤ xs.length
  · rw [Nat.min_eq_left h, List.take_of_length_le (by rw [List.length_drop]; exact Nat.le_refl _)]
  · rw [Nat.min_eq_right (by omega), List.drop_eq_nil_of_le (Nat.le_refl _), List.drop_eq_nil_of_le (by omega)]
    simp
theorem cut_to {α : Type} {xs : List α} {m : Int} (h0 : 0 ≤ m) : cutL xs none (some m) = xs.take m.toNat := by
  obtain ⟨k, rfl⟩ := Int.eq_ofNat_of_zero_le h0
  unfold cutL
  rw [HT.sIx_nat, HT.sIx_none, Int.toNat_natCast, List.drop_zero, Nat.sub_zero]
  by_cases h : k ≤ xs.length
  · rw [Nat.min_eq_left h]
  · rw [Nat.min_eq_right (by omega), List.take_of_length_le (Nat.le_refl _), List.take_of_length_le (by omega)]
def D.allInt (ds : List D) : Bool := ds.all D.isW
theorem allInt_flat {ds : List D} (h : D.allInt ds = true) : ds.all D.isFlat = true := by
  unfold D.allInt at h
  rw [List.all_eq_true] at h ⊢
  intro d hd
  obtain ⟨i, rfl⟩ := isW_of (h d hd)
  rfl
theorem allInt_drop {ds : List D} (h : D.allInt ds = true) (m : Nat) : D.allInt (ds.drop m) = true := by
  unfold D.allInt at h ⊢
  rw [List.all_eq_true] at h ⊢
  exact fun d hd => h d (List.mem_of_mem_drop hd)
theorem allInt_take {ds : List D} (h : D.allInt ds = true) (m : Nat) : D.allInt (ds.take m) = true := by
  unfold D.allInt at h ⊢
  rw [List.all_eq_true] at h ⊢
  exact fun d hd => h d (List.mem_of_mem_take hd)
/-- small enough to divide by -/
def Sml (i : Int) : Prop := i.natAbs < 2 ^ 8000
theorem sml_of {i : Int} (h : i.natAbs < 2 ^ 60) : Sml i := Nat.lt_of_lt_of_le h (Nat.pow_le_pow_right (by decide) (by decide))
theorem sml_div {a i : Int} (h0 : 0 < i) (h : Sml i) : CDivW a i := wide_div h0 h (by decide) (by decide)
theorem atI_of {ds : List D} {p : Int} (h0 : 0 ≤ p) (h1 : p < ds.length) : ∃ e, atI ds p = some e ∧ ds[p.toNat]? = some e := by
  obtain ⟨k, rfl⟩ := Int.eq_ofNat_of_zero_le h0
  have hk : k < ds.length := by omega
  refine ⟨ds[k], ?_, by simp [hk]⟩
  unfold atI ixN
  rw [if_pos (by omega), if_pos (by omega)]
  simp [hk]
/-- the store of a law's draws -/
def StOk (ds : List D) : Prop := ∃ cells p a b c d f, ds = [.lst cells, .int p, .int a, .int b, .int c, .int d, .int f] ∧ D.allInt cells = true ∧ 0 ≤ p
theorem firstBad_none {p : D → Bool} {ds : List D} : firstBad p ds = none ↔ ∀ d ∈ ds, p d = true := by
  induction ds with
  | nil => simp [firstBad]
  | cons d ds ih =>
    unfold firstBad
    split
    · rename_i h
      simp [ih, h]
    · rename_i h
      simp [h]
theorem firstBad_at {p : D → Bool} {ds : List D} {i : Nat} {d : D} (hd : ds[i]? = some d) (hp : p d = false) (h : ∀ j e, j < i → ds[j]? = some e → p e = true) : firstBad p ds = some (i + 1) := by
  induction ds generalizing i with
  | nil => simp at hd
  | cons e ds ih =>
    unfold firstBad
    cases i with
    | zero =>
      simp at hd
      subst hd
      rw [if_neg (by rw [hp]; exact Bool.false_ne_true)]
    | succ i =>
      rw [if_pos (h 0 e (by omega) rfl), ih (by simpa using hd) fun j f hj hf => h (j + 1) f (by omega) (by simpa using hf)]
      rfl
end DL
set_option maxHeartbeats 2000000
/-! DL, part 22: a cut behind a statement; what stands in more than one law's scripts. -/
namespace DL
open PySem PySem.Spec PySem.Calls PyProof.Rows L2 L2H

/-- a statement's end, its own one named -/
def Cut (R : Rho → Prop) (Φ : Out → Prop) : Out → Prop
  | .nx ρ => R ρ | o => Φ o
theorem s_cut {X : Cx} {W : Wd} {ρ : Rho} {st : Stmt} {Φ : Out → Prop} (R : Rho → Prop) (h : S1 X W st ρ (Cut R Φ)) (k : ∀ ρ', R ρ' → Φ (.nx ρ')) : S1 X W st ρ Φ := fun F H σ E D q =>
  h F H σ E D ⟨fun F' H' σ' ρ' e t r => q.nx F' H' σ' ρ' e t (k ρ' r), q.rt, q.rl, q.bk, q.ct⟩
theorem tx_any {X : Cx} {W : Wd} {ρ : Rho} {e : Expr} {Θ : Bool → Rho → Prop} (h : TX X W e ρ fun _ ρ' => ρ' = ρ) (k : ∀ t, Θ t ρ) : TX X W e ρ Θ := h.mono fun t ρ' h2 => by subst h2; exact k t
section
variable {X : Cx} {W : Wd} {ρ : Rho} {Ψ : List D → Rho → Prop} {a b : Expr} {p1 p2 pos pos2 : Pos}
/-- list(range(a, b)) -/
theorem nx_listRg2 (hc : X.calm = true) (B : BltOk X "list" (.type "list")) (Br : BltOk X "range" (.type "range")) (h : EX X W a ρ fun d1 ρ1 => EX X W b ρ1 fun d2 ρ2 => ∃ l u, d1 = .int l ∧ d2 = .int u ∧ RgOk l u ∧ Ψ (steps l 1 (u - l).toNat) ρ2)
    (na : starEach [a, b] X.env = (false, eval a X.env) :: starEach [b] X.env := by rfl) (nb : starEach [b] X.env = [(false, eval b X.env)] := by rfl) (hp : (backTo pos2 (starEach [b] X.env)).any (·.1) = false := by rfl)
    (nc : starEach [.Call (.Name "range" p2) [a, b] [] pos2] X.env = (false, eval (.Call (.Name "range" p2) [a, b] [] pos2) X.env) :: starEach [] X.env := by rfl) : NX X W (.Call (.Name "list" p1) [.Call (.Name "range" p2) [a, b] [] pos2] [] pos) ρ Ψ :=
  nx_listRg hc B (prg_2 Br.g.g Br.m (peR a) (peR b) na nb hp) (fun F H σ Q E q => h F H σ _ E fun v1 d1 F1 H1 ρ1 E1 s1 dn1 k1 => k1 F1 H1 σ _ E1 fun v2 d2 F2 H2 ρ2 E2 s2 dn2 ⟨l, u, e1, e2, hr, k⟩ => by
    subst e1 e2
    cases dn1
    cases dn2
    exact ⟨l, u, rfl, rfl, q l u F2 H2 ρ2 E2 (s1.trans s2) ⟨hr, k⟩⟩) nc
end
theorem atI_neg {ds : List D} (h : ds ≠ []) : ∃ e, atI ds (-1) = some e ∧ e ∈ ds := by
  obtain ⟨xs, x, rfl⟩ : ∃ xs x, ds = xs ++ [x] := ⟨_, _, (List.dropLast_concat_getLast h).symm⟩
  exact ⟨x, atI_last xs x, by simp⟩
mutual
/-- how many parts there are -/
def D.nodes : D → Nat
  | .lst ds => 1 + D.nodesL ds | .tup ds => 1 + D.nodesL ds | _ => 1
def D.nodesL : List D → Nat
  | [] => 0
  | d :: ds => d.nodes + D.nodesL ds
end
theorem nodes_pos {d : D} : 0 < d.nodes := by cases d <;> simp [D.nodes] <;> omega
theorem nodesL_app {ds es : List D} : D.nodesL (ds ++ es) = D.nodesL ds + D.nodesL es := by
  induction ds with
  | nil => simp [D.nodesL]
  | cons d ds ih => simp [D.nodesL, ih]; omega
theorem nodesL_le {ds : List D} {m : Nat} (h : ∀ d ∈ ds, d.nodes ≤ m) : D.nodesL ds ≤ ds.length * m := by
  induction ds with
  | nil => simp [D.nodesL]
  | cons d ds ih =>
    have h1 := h d (List.mem_cons_self ..)
    have h2 := ih fun e he => h e (List.mem_cons_of_mem _ he)
    simp only [D.nodesL, List.length_cons, Nat.succ_mul]
    omega
theorem nodes_int {ds : List D} (h : D.allInt ds = true) : D.nodesL ds = ds.length := by
  induction ds with
  | nil => rfl
  | cons d ds ih =>
    unfold D.allInt at h ih
    rw [List.all_cons, Bool.and_eq_true] at h
    obtain ⟨i, rfl⟩ := isW_of h.1
    simp only [D.nodesL, D.nodes, List.length_cons, ih h.2]
    omega
theorem gd_int {ds : List D} (h : D.allInt ds = true) : D.gdL ds = true := gdL_iff.mpr fun d hd => by
  obtain ⟨i, rfl⟩ := isW_of (List.all_eq_true.mp h d hd)
  rfl
/-- plain data of few parts -/
def Few (m : Nat) (d : D) : Prop := d.gd = true ∧ d.nodes ≤ m
theorem gdL_app {ds es : List D} : D.gdL (ds ++ es) = (D.gdL ds && D.gdL es) := by
  induction ds with
  | nil => simp [D.gdL]
  | cons d ds ih => simp [D.gdL, ih, Bool.and_assoc]
theorem allInt_app {ds es : List D} : D.allInt (ds ++ es) = (D.allInt ds && D.allInt es) := by unfold D.allInt; rw [List.all_append]
theorem allInt_rev {ds : List D} (h : D.allInt ds = true) : D.allInt ds.reverse = true := by unfold D.allInt at *; rw [List.all_reverse]; exact h
theorem allInt_mem {ds : List D} : D.allInt ds = true ↔ ∀ d ∈ ds, ∃ i, d = .int i := by
  unfold D.allInt
  rw [List.all_eq_true]
  exact ⟨fun h d hd => isW_of (h d hd), fun h d hd => by obtain ⟨i, rfl⟩ := h d hd; rfl⟩
theorem sml_abs {i : Int} (h1 : -(2 ^ 60) < i) (h2 : i < 2 ^ 60) : Sml i := sml_of (by omega)
theorem sml_max {i : Int} (h : Sml i) : Sml (if i > 1 then i else 1) := by
  split
  · exact h
  · exact sml_of (by decide)
/-- a list of draws: fine but for length -/
theorem stok_len {ds : List D} (h : StOk ds) : ds.length = 7 := by obtain ⟨_, _, _, _, _, _, _, rfl, _⟩ := h; rfl
/-- a def that draws one number -/
def TakeS : Spec := fun o as Φ => ∃ ds many, o = some ds ∧ as = [.int many] ∧ StOk ds ∧ Sml many ∧ ∀ k ds', 0 ≤ k → k < max 1 many → StOk ds' → Φ (.ret (.int k) (some ds'))
end DL
set_option maxHeartbeats 2000000
/-! DL, part 23: comprehensions whose turns change something; data of few parts. -/
namespace DL
open PySem PySem.Spec PySem.Calls PyProof.Rows L2 L2H

section
variable {X : Cx} {W : Wd} {ρ : Rho} {Ψ : List D → Rho → Prop} {pos : Pos} {i j k : Nat} {iter elt c : Expr} {ifs : List Expr} {N : List Str} {sc scope : Scope}
/-- the turns of such a comprehension -/
def Steps (X : Cx) (W : Wd) (scope : Scope) (elt : Expr) (ifs : List Expr) (j k : Nat) (N : List Str) (sc : Scope) (ds : List D) (Jv : Nat → List D → Rho → Prop) : Prop :=
  ∀ (i : Nat) d acc ρ', ds[i]? = some d → Jv i acc ρ' → ∀ X2, IsBlk X X2 scope → Cxt X2 k N sc → TsX X2 W ifs (ρ'.set j (.val d)) fun t ρ3 =>
    (t = true → ∀ X3, IsBlk X X3 scope → Cxt X3 k N sc → EX X3 W elt ρ3 fun e ρ4 => Jv (i + 1) (acc ++ [e]) (ρ4.set j .no)) ∧ (t = false → Jv (i + 1) acc (ρ3.set j .no))
theorem nx_mapJ {x : Str} {px : Pos} (C : Cxt X k N sc) (ok : BlkOk X.N X.env.scope scope [(x, j)]) (hx : N[j]? = some x) (hl : (blkScope scope sc).names.lookup x = some .local)
    (h : IX X W (.Name x px) iter ρ fun ds ρ1 => ds.length < sizeLine ∧ ¬ (ρ1.getD j .no).mut ∧ ∃ Jv : Nat → List D → Rho → Prop, Jv 0 [] (ρ1.set j .no) ∧ Steps X W scope elt ifs j k N (blkScope scope sc) ds Jv ∧ ∀ acc ρ', Jv ds.length acc ρ' → Ψ acc (ρ'.set j (ρ1.getD j .no)))
    (hs : ∀ x, foldedSetIterable iter X.env x = pure x := by intro _; rfl) : NX X W (.ListComp elt [⟨.Name x px, iter, ifs, 0⟩] scope pos) ρ Ψ :=
  nx_lc C ok (by simp) (fun F H σ R D0 q => h F H σ R D0 fun J ds F' H' ρ1 E' s wk ⟨hlen, hmu, Jv, h0, hM, hk⟩ => q J ds F' H' ρ1 E' s wk
    ⟨fun v hv => by have e : v = j := by simpa using hv
                    rw [e]; exact hmu, fun i acc ρ' => acc.length ≤ i ∧ Jv i acc ρ', ⟨Nat.zero_le _, h0⟩, fun i d acc ρ' hd ⟨hle, hJ⟩ X1 b1 => by
        have hi : i < ds.length := (List.getElem?_eq_some_iff.mp hd).1
        refine gc_name (b1.cxt C) (b1.loc C hx hl) List.mem_cons_self fun X2 b2 => ?_
        refine (hM i d acc ρ' hd hJ X2 b2 (b2.cxt C)).mono fun t ρ3 ⟨k1, k2⟩ => ⟨fun ht X3 b3 => ?_, fun ht => ⟨by omega, k2 ht⟩⟩
        exact (k1 ht X3 b3 (b3.cxt C)).mono fun e ρ4 k3 => ⟨by omega, by rw [List.length_append]; simp; omega, k3⟩, fun acc ρ' ⟨_, hJ⟩ => hk acc ρ' hJ⟩) hs
end
def fewB (m : Nat) (d : D) : Bool := d.gd && decide (d.nodes ≤ m)
theorem few_mem {ts : List D} {m : Nat} {d : D} (h : ts.all (fewB m) = true) (hd : d ∈ ts) : Few m d := by
  have h1 := List.all_eq_true.mp h d hd
  unfold fewB at h1
  rw [Bool.and_eq_true, decide_eq_true_eq] at h1
  exact h1
theorem Few.mono {m n : Nat} {d : D} (h : Few m d) (hn : m ≤ n) : Few n d := ⟨h.1, Nat.le_trans h.2 hn⟩
/-- a list of such data, of together few parts -/
def OkL (m : Nat) (ds : List D) : Prop := D.gdL ds = true ∧ D.nodesL ds ≤ m
theorem okL_int {ds : List D} {m : Nat} (h : D.allInt ds = true) (hl : ds.length ≤ m) : OkL m ds := ⟨gd_int h, by rw [nodes_int h]; exact hl⟩
theorem OkL.app {a b : Nat} {xs ys : List D} (h : OkL a xs) (g : OkL b ys) : OkL (a + b) (xs ++ ys) := ⟨by rw [gdL_app, h.1, g.1]; rfl, by rw [nodesL_app]; have := h.2; have := g.2; omega⟩
theorem OkL.one {a : Nat} {d : D} (h : Few a d) : OkL a [d] := ⟨by simp [D.gdL, h.1], by simp [D.nodesL]; exact h.2⟩
theorem OkL.mono {m n : Nat} {ds : List D} (h : OkL m ds) (hn : m ≤ n) : OkL n ds := ⟨h.1, Nat.le_trans h.2 hn⟩
theorem OkL.tup {m : Nat} {ds : List D} (h : OkL m ds) : Few (1 + m) (.tup ds) := ⟨h.1, by have := h.2; simp only [D.nodes]; omega⟩
theorem OkL.lst {m : Nat} {ds : List D} (h : OkL m ds) : Few (1 + m) (.lst ds) := ⟨h.1, by have := h.2; simp only [D.nodes]; omega⟩
theorem nodesL_len {ds : List D} : ds.length ≤ D.nodesL ds := by
  induction ds with
  | nil => exact Nat.le_refl _
  | cons d ds ih => have := nodes_pos (d := d); simp only [D.nodesL, List.length_cons]; omega
theorem OkL.len {m : Nat} {ds : List D} (h : OkL m ds) : ds.length ≤ m := Nat.le_trans nodesL_len h.2
theorem OkL.set {a m : Nat} {d : D} : ∀ {ds : List D} {i : Nat}, OkL m ds → Few a d → OkL (m + a) (ds.set i d)
  | [], _, h, g => h.mono (by omega)
  | x :: xs, 0, h, g => by
    have h1 := h.1
    have h2 := h.2
    simp only [D.gdL, D.nodesL, Bool.and_eq_true] at h1 h2
    exact ⟨by simp [D.gdL, g.1, h1.2], by have := g.2; simp only [List.set_cons_zero, D.nodesL]; omega⟩
  | x :: xs, i + 1, h, g => by
    have h1 := h.1
    have h2 := h.2
    simp only [D.gdL, D.nodesL, Bool.and_eq_true] at h1 h2
    have ih := OkL.set (ds := xs) (i := i) (m := D.nodesL xs) ⟨h1.2, Nat.le_refl _⟩ g
    exact ⟨by simp [D.gdL, h1.1, ih.1], by have := ih.2; simp only [List.set_cons_succ, D.nodesL]; omega⟩
theorem OkL.take {m i : Nat} {ds : List D} (h : OkL m ds) : OkL m (ds.take i) := by
  have e : ds.take i ++ ds.drop i = ds := List.take_append_drop i ds
  have h1 := h.1
  have h2 := h.2
  rw [← e, gdL_app, Bool.and_eq_true] at h1
  rw [← e, nodesL_app] at h2
  exact ⟨h1.1, by omega⟩
theorem ixN_z {m : Nat} {k : Int} (h0 : 0 ≤ k) (h1 : k < m) : ixN m k = some k.toNat := by unfold ixN; rw [if_pos h0, if_pos h1]
theorem cut_le {ds : List D} {a b : Option Int} : (cutL ds a b).length ≤ ds.length := by
  unfold cutL
  rw [List.length_take, List.length_drop]
  omega
theorem cut_int {ds : List D} {a b : Option Int} (h : D.allInt ds = true) : D.allInt (cutL ds a b) = true := by
  unfold cutL
  exact allInt_take (allInt_drop h _) _
end DL
set_option maxHeartbeats 2000000
/-! DL, part 24: where a cell stands in a row. -/
namespace DL
open PySem PySem.Spec PySem.Calls PyProof.Rows L2 L2H

def posL (ds : List D) (c : Int) : List Nat := (List.range ds.length).filter fun i => decide (ds[i]?.map D.val = some c)
def firstP (ds : List D) (c : Int) : Int := match (posL ds c).head? with | some i => i + 1 | none => 0
def lastP (ds : List D) (c : Int) : Int := match (posL ds c).getLast? with | some i => i + 1 | none => 0
theorem posL_mem {ds : List D} {c : Int} {i : Nat} : i ∈ posL ds c ↔ ds[i]?.map D.val = some c := by
  unfold posL
  rw [List.mem_filter, List.mem_range, decide_eq_true_eq]
  refine ⟨fun h => h.2, fun h => ⟨?_, h⟩⟩
  cases e : ds[i]? with
  | none => rw [e] at h; cases h
  | some x => exact (List.getElem?_eq_some_iff.mp e).1
theorem posL_up (ds : List D) (c : Int) : (posL ds c).Pairwise (· < ·) := List.Pairwise.filter _ List.pairwise_lt_range
theorem places_eq {ds : List D} {c : Int} {f : D → D} {t : D → Bool} (hf : ∀ i : Int, f (.int i) = .int (i + 1)) (ht : ∀ i : Nat, t (.int i) = decide (ds[i]?.map D.val = some c)) : ((steps 0 1 ds.length).filter t).map f = (posL ds c).map fun (i : Nat) => D.int ((i : Int) + 1) := by
  unfold steps posL
  rw [List.filter_map, List.map_map]
  have e : (t ∘ fun (j : Nat) => D.int (0 + (j : Int) * 1)) = fun i => decide (ds[i]?.map D.val = some c) := by
    funext j
    show t (D.int (0 + (j : Int) * 1)) = _
    rw [show (0 : Int) + (j : Int) * 1 = (j : Int) by omega, ht]
  rw [e]
  refine List.map_congr_left fun j _ => ?_
  show f (D.int (0 + (j : Int) * 1)) = _
  rw [show (0 : Int) + (j : Int) * 1 = (j : Int) by omega, hf]
theorem lastP_le {ds : List D} {c m : Int} (h0 : 0 ≤ m) : lastP ds c ≤ m ↔ ∀ i ∈ posL ds c, (i : Int) < m := by
  unfold lastP
  have hu := posL_up ds c
  rcases List.eq_nil_or_concat (posL ds c) with e | ⟨xs, x, e⟩
  · rw [e]; simp; exact h0
  · rw [List.concat_eq_append] at e
    rw [e] at hu ⊢
    rw [List.getLast?_append]
    show (x : Int) + 1 ≤ m ↔ _
    rw [List.pairwise_append] at hu
    refine ⟨fun h i hi => ?_, fun h => by have := h x (by simp); omega⟩
    rcases List.mem_append.mp hi with z | z
    · have := hu.2.2 i z x (by simp); omega
    · rw [List.mem_singleton] at z; omega
theorem firstP_gt {ds : List D} {c m : Int} (h0 : 0 ≤ m) : m < firstP ds c ↔ (∃ i, i ∈ posL ds c) ∧ ∀ i ∈ posL ds c, m ≤ (i : Int) := by
  unfold firstP
  have hu := posL_up ds c
  cases e : posL ds c with
  | nil => simp; exact h0
  | cons x xs =>
    rw [e] at hu
    show m < (x : Int) + 1 ↔ _
    rw [List.pairwise_cons] at hu
    refine ⟨fun h => ⟨⟨x, by simp⟩, fun i hi => ?_⟩, fun h => by have := h.2 x (by simp); omega⟩
    rcases List.mem_cons.mp hi with z | z
    · omega
    · have := hu.1 i z; omega
theorem inL_int {ds : List D} {c : Int} (h : D.allInt ds = true) : (D.int c).inL ds = true ↔ ∃ i : Nat, ds[i]?.map D.val = some c := by
  unfold D.inL
  rw [List.any_eq_true]
  constructor
  · rintro ⟨e, he, hq⟩
    obtain ⟨a, rfl⟩ := allInt_mem.mp h e he
    obtain ⟨i, hi, ei⟩ := List.mem_iff_getElem.mp he
    refine ⟨i, ?_⟩
    rw [List.getElem?_eq_getElem hi, ei]
    have : a = c := by simpa [D.fv, eqV] using hq
    rw [this]
    rfl
  · rintro ⟨i, hi⟩
    cases e : ds[i]? with
    | none => rw [e] at hi; cases hi
    | some x =>
      have hm := List.mem_of_getElem? e
      obtain ⟨a, rfl⟩ := allInt_mem.mp h x hm
      rw [e] at hi
      cases hi
      exact ⟨_, hm, by simp [D.fv, eqV, D.val]⟩
theorem inL_drop {ds : List D} {c : Int} {m : Nat} (h : D.allInt ds = true) : (D.int c).inL (ds.drop m) = true ↔ ∃ i, i ∈ posL ds c ∧ m ≤ i := by
  rw [inL_int (allInt_drop h m)]
  constructor
  · rintro ⟨i, hi⟩
    rw [List.getElem?_drop] at hi
    exact ⟨m + i, posL_mem.mpr hi, by omega⟩
  · rintro ⟨i, hi, hm⟩
    refine ⟨i - m, ?_⟩
    rw [List.getElem?_drop, show m + (i - m) = i by omega]
    exact posL_mem.mp hi
theorem inL_take {ds : List D} {c : Int} {m : Nat} (h : D.allInt ds = true) : (D.int c).inL (ds.take m) = true ↔ ∃ i, i ∈ posL ds c ∧ i < m := by
  rw [inL_int (allInt_take h m)]
  constructor
  · rintro ⟨i, hi⟩
    rw [List.getElem?_take] at hi
    split at hi
    · exact ⟨i, posL_mem.mpr hi, by assumption⟩
    · cases hi
  · rintro ⟨i, hi, hm⟩
    refine ⟨i, ?_⟩
    rw [List.getElem?_take, if_pos hm]
    exact posL_mem.mp hi
theorem done_by {ds : List D} {c m : Int} (h : D.allInt ds = true) (h0 : 0 ≤ m) : (!(D.int c).inL (ds.drop m.toNat)) = decide (lastP ds c ≤ m) := by
  rw [Bool.eq_iff_iff, decide_eq_true_eq, lastP_le h0, Bool.not_eq_true', ← Bool.not_eq_true, inL_drop h]
  constructor
  · intro g i hi
    exact Int.not_le.mp fun z => g ⟨i, hi, by omega⟩
  · rintro g ⟨i, hi, z⟩
    have := g i hi
    omega
theorem wait_by {ds : List D} {c m : Int} (h : D.allInt ds = true) (h0 : 0 ≤ m) : ((D.int c).inL (ds.drop m.toNat) && !(D.int c).inL (ds.take m.toNat)) = decide (m < firstP ds c) := by
  rw [Bool.eq_iff_iff, decide_eq_true_eq, firstP_gt h0, Bool.and_eq_true, Bool.not_eq_true', ← Bool.not_eq_true, inL_drop h, inL_take h]
  constructor
  · rintro ⟨⟨i, hi, z⟩, g⟩
    exact ⟨⟨i, hi⟩, fun j hj => Int.not_lt.mp fun w => g ⟨j, hj, by omega⟩⟩
  · rintro ⟨⟨i, hi⟩, g⟩
    refine ⟨⟨i, hi, by have := g i hi; omega⟩, ?_⟩
    rintro ⟨j, hj, w⟩
    have := g j hj
    omega
theorem pl_first {ds : List D} {c : Int} (h : (!((posL ds c).map fun (i : Nat) => D.int ((i : Int) + 1)).isEmpty) = true) : atI ((posL ds c).map fun (i : Nat) => D.int ((i : Int) + 1)) 0 = some (.int (firstP ds c)) := by
  unfold firstP
  cases e : posL ds c with
  | nil => rw [e] at h; cases h
  | cons x xs => exact atI_nat (j := 0) rfl
theorem pl_last {ds : List D} {c : Int} (h : (!((posL ds c).map fun (i : Nat) => D.int ((i : Int) + 1)).isEmpty) = true) : atI ((posL ds c).map fun (i : Nat) => D.int ((i : Int) + 1)) (-1) = some (.int (lastP ds c)) := by
  unfold lastP
  rcases List.eq_nil_or_concat (posL ds c) with e | ⟨xs, x, e⟩
  · rw [e] at h; cases h
  · rw [List.concat_eq_append] at e
    rw [e, List.map_append, List.getLast?_append]
    exact atI_last _ _
theorem pl_none {ds : List D} {c : Int} (h : (!((posL ds c).map fun (i : Nat) => D.int ((i : Int) + 1)).isEmpty) = false) : firstP ds c = 0 ∧ lastP ds c = 0 := by
  have e : posL ds c = [] := by
    cases e : posL ds c with
    | nil => rfl
    | cons x xs => rw [e] at h; cases h
  unfold firstP lastP
  rw [e]
  exact ⟨rfl, rfl⟩
theorem steps_succ {lo c : Int} {n : Nat} : steps lo c (n + 1) = steps lo c n ++ [.int (lo + (n : Int) * c)] := by
  unfold steps
  rw [List.range_succ, List.map_append]
  rfl
end DL
set_option maxHeartbeats 2000000
/-! DL, part 25: a range upwards by a step; the kinds list and tuple. -/
namespace DL
open PySem PySem.Spec PySem.Calls PyProof.Rows L2 L2H

theorem rgC_up {b c : Int} (h0 : 0 ≤ b) (h1 : b < 2 ^ 40) (c0 : 1 ≤ c) (c1 : c < 1000) : RgC 0 b c (Builtin.Range.rangeSize 0 b c).toNat := by
  refine ⟨by omega, by omega, ?_, rangeSize_toNat _ _ _⟩
  have hp := rangeSize_toNat 0 b c
  have hl := rangeSize_toNat_le 0 b c
  have hm : (Builtin.Range.rangeSize 0 b c) * c ≤ 2 ^ 52 := by
    have q1 : Builtin.Range.rangeSize 0 b c ≤ 2 ^ 41 := by omega
    have q0 : 0 ≤ Builtin.Range.rangeSize 0 b c := by omega
    have := Int.mul_le_mul q1 (show c ≤ 1024 by omega) (by omega) (by omega)
    omega
  unfold Builtin.Range.small
  generalize Builtin.Range.rangeSize 0 b c = r at *
  simp only [Builtin.Range.rangeFitsLong, Bool.and_eq_true, Bool.or_eq_true, decide_eq_true_eq, beq_iff_eq, show c > 0 by omega, if_true]
  omega
theorem kits_lt {d : D} {T : String} (h : d.gd = true) (ht : d.tyn = some T) : kitsB T ["list", "tuple"] = some d.seq?.isSome := by
  cases d <;> cases ht <;> first | (cases h; done) | (show kitsB _ _ = some true; decide +kernel) | (show kitsB _ _ = some false; decide +kernel)
theorem seq_len {m : Nat} {d : D} {ds : List D} (h : d.seq? = some ds) (f : Few m d) : ds.length ≤ m := by
  obtain ⟨f1, f2⟩ := f
  cases d <;> cases h
  · simp only [D.nodes] at f2; have := nodesL_len (ds := ds); omega
  · simp only [D.nodes] at f2; have := nodesL_len (ds := ds); omega
  · cases f1
end DL
set_option maxHeartbeats 2000000
/-! DL, part 26: the end of a law's row, where a caught error's context is told of. -/
namespace DL
open PySem PySem.Spec PySem.Calls PyProof.Rows L2 L2H

theorem walkW {l : PySem.W.OpenLaw} {most k : Nat} {q : Program} {loose : List Str} {XP : (Str → Option Value) → Heap → Prop} {YP : World → Heap → Prop} {dr : DefRec} {CX : World → CXT} {x : Str} (h1 : l.most = some most) (h2 : most ≤ sizeLine) (h3 : dr.params.defaults = []) (h4 : Room k callerA)
    (F : ∀ (w : World) (mg : Str → Option Value) (at_ : Addr) (hp : Heap), YP w hp → hp.Ns mainGlobals mg → mg dr.name = some (.ref at_) → ∃ (K : PySem.W.Frag) (fd : FuncData) (sp : Sp), K.In hp ∧ (∀ (s : Shared) (u : Value), BindsTo s fd ⟨[u], []⟩ [(x, u)]) ∧
      (∀ (H : Hp) (a : Addr) (ns : List Int), ns.length ≤ most → Only H → SqL K H a (ns.map V.int) → sp [.ref a] H (fun v _ => v = .bl true) fun _ _ _ => False) ∧ ∀ base : Heap, K.In base → base.Ns mainGlobals mg → FnOk l.prog w K mg base (CX w) k at_ fd [x] sp)
    (hX : ∀ (w : World) (H : Hp) (s : Shared) (e : Value) (s' : Shared), CX w [] H s (fun _ _ _ => False) e s' → False) : PySem.W.WalkO q loose XP YP l.row.toRowW dr [] (fun f vs => PySem.call f vs) := by
  refine Att.attach_call h1 h3 fun w t0 t1 mg mb at_ o pm cd doc a vs ns G Y hobj hdef hcode hmg2 hmem hints hlen hgo => ?_
  obtain ⟨K, fd, sp, k1, k2, k3, k4⟩ := F w mg at_ _ Y G.T.g hmg2
  exact law_call k1 G.T.g G.T.b G.T.builtins G.T.nolimit hgo hmem hints (Nat.le_trans hlen h2) h4 k4 k2 (fun H hO hS => k3 H a ns hlen hO hS) fun H e s' z => hX w H t1 e s' z
theorem cxN_no {P : Program} {w : World} {H : Hp} {s s' : Shared} {e : Value} (h : L2N.CX P w [] H s (fun _ _ _ => False) e s') : False := by
  obtain ⟨_, _, _, _, _, _, _, _, _, _, _, _, z⟩ := h
  exact z
end DL
set_option maxHeartbeats 0
/-! the head of law_k21_done_and_waiting_lots -/
namespace K21
open PySem PySem.Spec PyProof.Rows L2 DL
def top (i : Nat) : Stmt := PySem.Challenge.pw_nosparecell_k21_done_and_waiting_lots.main.body.getD i (.Pass ⟨0, 0, 0, 0⟩)
def st_is_whole : Stmt := top 43
def st_is_whole_within : Stmt := top 44
def st_check_row : Stmt := top 45
def st_check_moment : Stmt := top 46
def st_done_at : Stmt := top 47
def st_waiting_at : Stmt := top 48
def st_check_moment_of : Stmt := top 50
def st_done_lot : Stmt := top 51
def st_waiting_lot : Stmt := top 52
def st__law_mix : Stmt := top 54
def st__law_store : Stmt := top 55
def st__law_unfold : Stmt := top 56
def st__law_take : Stmt := top 57
def st__law_edge : Stmt := top 58
def st__law_rare : Stmt := top 59
def st__law_one : Stmt := top 60
def st__law_length : Stmt := top 61
def st__law_shuffled : Stmt := top 62
def st__law_int : Stmt := top 63
def st__law_within : Stmt := top 64
def st__law_full_order : Stmt := top 65
def st__law_row : Stmt := top 66
def st__law_row_at : Stmt := top 67
def st__law_n : Stmt := top 68
def st__law_match : Stmt := top 69
def st__law_odd : Stmt := top 70
def st__law_near : Stmt := top 71
def st__law_kinds : Stmt := top 72
def st__law_ask : Stmt := top 73
def st__law_lot_due : Stmt := top 74
def st__law_due : Stmt := top 75
def st__law_bent_places : Stmt := top 76
def st__law_rows : Stmt := top 77
def st_law : Stmt := top 78
def st_init : Stmt := (clsBody (top 1)).getD 0 (.Pass ⟨0, 0, 0, 0⟩)
def dd_is_whole : He.DefD := ⟨("is_whole", none), "is_whole", "is_whole", defArgs st_is_whole, defBody st_is_whole, defScope st_is_whole, [], []⟩
def dd_is_whole_within : He.DefD := ⟨("is_whole_within", none), "is_whole_within", "is_whole_within", defArgs st_is_whole_within, defBody st_is_whole_within, defScope st_is_whole_within, [], []⟩
def dd_check_row : He.DefD := ⟨("check_row", none), "check_row", "check_row", defArgs st_check_row, defBody st_check_row, defScope st_check_row, [], []⟩
def dd_check_moment : He.DefD := ⟨("check_moment", none), "check_moment", "check_moment", defArgs st_check_moment, defBody st_check_moment, defScope st_check_moment, [], []⟩
def dd_done_at : He.DefD := ⟨("done_at", none), "done_at", "done_at", defArgs st_done_at, defBody st_done_at, defScope st_done_at, [], []⟩
def dd_waiting_at : He.DefD := ⟨("waiting_at", none), "waiting_at", "waiting_at", defArgs st_waiting_at, defBody st_waiting_at, defScope st_waiting_at, [], []⟩
def dd_check_moment_of : He.DefD := ⟨("check_moment_of", none), "check_moment_of", "check_moment_of", defArgs st_check_moment_of, defBody st_check_moment_of, defScope st_check_moment_of, [], []⟩
def dd_done_lot : He.DefD := ⟨("done_lot", none), "done_lot", "done_lot", defArgs st_done_lot, defBody st_done_lot, defScope st_done_lot, [], []⟩
def dd_waiting_lot : He.DefD := ⟨("waiting_lot", none), "waiting_lot", "waiting_lot", defArgs st_waiting_lot, defBody st_waiting_lot, defScope st_waiting_lot, [], []⟩
def dd__law_mix : He.DefD := ⟨("_law_mix", none), "_law_mix", "_law_mix", defArgs st__law_mix, defBody st__law_mix, defScope st__law_mix, [], []⟩
def dd__law_store : He.DefD := ⟨("_law_store", none), "_law_store", "_law_store", defArgs st__law_store, defBody st__law_store, defScope st__law_store, [], []⟩
def dd__law_unfold : He.DefD := ⟨("_law_unfold", none), "_law_unfold", "_law_unfold", defArgs st__law_unfold, defBody st__law_unfold, defScope st__law_unfold, [], []⟩
def dd__law_take : He.DefD := ⟨("_law_take", none), "_law_take", "_law_take", defArgs st__law_take, defBody st__law_take, defScope st__law_take, [], []⟩
def dd__law_edge : He.DefD := ⟨("_law_edge", none), "_law_edge", "_law_edge", defArgs st__law_edge, defBody st__law_edge, defScope st__law_edge, [], []⟩
def dd__law_rare : He.DefD := ⟨("_law_rare", none), "_law_rare", "_law_rare", defArgs st__law_rare, defBody st__law_rare, defScope st__law_rare, [], []⟩
def dd__law_one : He.DefD := ⟨("_law_one", none), "_law_one", "_law_one", defArgs st__law_one, defBody st__law_one, defScope st__law_one, [], []⟩
def dd__law_length : He.DefD := ⟨("_law_length", none), "_law_length", "_law_length", defArgs st__law_length, defBody st__law_length, defScope st__law_length, [], []⟩
def dd__law_shuffled : He.DefD := ⟨("_law_shuffled", none), "_law_shuffled", "_law_shuffled", defArgs st__law_shuffled, defBody st__law_shuffled, defScope st__law_shuffled, [], []⟩
def dd__law_int : He.DefD := ⟨("_law_int", none), "_law_int", "_law_int", defArgs st__law_int, defBody st__law_int, defScope st__law_int, [], []⟩
def dd__law_within : He.DefD := ⟨("_law_within", none), "_law_within", "_law_within", defArgs st__law_within, defBody st__law_within, defScope st__law_within, [], []⟩
def dd__law_full_order : He.DefD := ⟨("_law_full_order", none), "_law_full_order", "_law_full_order", defArgs st__law_full_order, defBody st__law_full_order, defScope st__law_full_order, [], []⟩
def dd__law_row : He.DefD := ⟨("_law_row", none), "_law_row", "_law_row", defArgs st__law_row, defBody st__law_row, defScope st__law_row, [], []⟩
def dd__law_row_at : He.DefD := ⟨("_law_row_at", none), "_law_row_at", "_law_row_at", defArgs st__law_row_at, defBody st__law_row_at, defScope st__law_row_at, [], []⟩
def dd__law_n : He.DefD := ⟨("_law_n", none), "_law_n", "_law_n", defArgs st__law_n, defBody st__law_n, defScope st__law_n, [], []⟩
def dd__law_match : He.DefD := ⟨("_law_match", none), "_law_match", "_law_match", defArgs st__law_match, defBody st__law_match, defScope st__law_match, [], []⟩
def dd__law_odd : He.DefD := ⟨("_law_odd", none), "_law_odd", "_law_odd", defArgs st__law_odd, defBody st__law_odd, defScope st__law_odd, [], []⟩
def dd__law_near : He.DefD := ⟨("_law_near", none), "_law_near", "_law_near", defArgs st__law_near, defBody st__law_near, defScope st__law_near, [], []⟩
def dd__law_kinds : He.DefD := ⟨("_law_kinds", none), "_law_kinds", "_law_kinds", defArgs st__law_kinds, defBody st__law_kinds, defScope st__law_kinds, [], []⟩
def dd__law_ask : He.DefD := ⟨("_law_ask", none), "_law_ask", "_law_ask", defArgs st__law_ask, defBody st__law_ask, defScope st__law_ask, [], []⟩
def dd__law_lot_due : He.DefD := ⟨("_law_lot_due", none), "_law_lot_due", "_law_lot_due", defArgs st__law_lot_due, defBody st__law_lot_due, defScope st__law_lot_due, [], []⟩
def dd__law_due : He.DefD := ⟨("_law_due", none), "_law_due", "_law_due", defArgs st__law_due, defBody st__law_due, defScope st__law_due, [], []⟩
def dd__law_bent_places : He.DefD := ⟨("_law_bent_places", none), "_law_bent_places", "_law_bent_places", defArgs st__law_bent_places, defBody st__law_bent_places, defScope st__law_bent_places, [], []⟩
def dd__law_rows : He.DefD := ⟨("_law_rows", none), "_law_rows", "_law_rows", defArgs st__law_rows, defBody st__law_rows, defScope st__law_rows, [], []⟩
def dd_law : He.DefD := ⟨("law", none), "law", "law", defArgs st_law, defBody st_law, defScope st_law, [], []⟩
def dd_init : He.DefD := ⟨("NoSpareError", some "__init__"), "__init__", "NoSpareError.__init__", defArgs st_init, defBody st_init, defScope st_init, [], []⟩
def fn0 : List He.DefD := [dd_is_whole, dd_is_whole_within, dd_check_row, dd_check_moment, dd_done_at, dd_waiting_at, dd_check_moment_of, dd_done_lot, dd_waiting_lot, dd__law_mix, dd__law_store, dd__law_unfold, dd__law_take, dd__law_edge, dd__law_rare, dd__law_one, dd__law_length, dd__law_shuffled, dd__law_int, dd__law_within, dd__law_full_order, dd__law_row, dd__law_row_at, dd__law_n, dd__law_match, dd__law_odd, dd__law_near, dd__law_kinds, dd__law_ask, dd__law_lot_due]
def fn1 : List He.DefD := [dd__law_due, dd__law_bent_places, dd__law_rows, dd_law, dd_init]
def fn : List He.DefD := fn0 ++ fn1
def fa0 : List He.Fa := [.glo "NoSpareError", .glo "BadWorld", .glo "BadCell", .glo "BadLetter", .glo "BadFilling", .glo "BadLot", .glo "BadOrder", .glo "BadRow", .glo "BadStarts", .glo "BadMoment", .glo "BadNumber", .glo "BadTable", .glo "BadStep", .glo "BadMaps", .glo "BadMoves", .glo "BadMatrix", .glo "BadPrime", .glo "BadTie", .glo "BadFamily", .glo "BadText", .glo "BadSpeech", .glo "BadPaper", .glo "BadDeed", .glo "NotTold", .glo "NotOneToOne", .glo "NotIdle", .glo "NotCalm", .glo "NotHeld", .glo "NotSame", .glo "Still"]
def fa1 : List He.Fa := [.glo "Clash", .glo "Lost", .glo "Wrong", .glo "NoPlace", .glo "OtherWorld", .glo "TooManyTies", .glo "TooMany", .glo "TooLong", .glo "AtStart", .glo "AtEnd", .glo "NothingToUndo", .glo "is_whole", .glo "is_whole_within", .glo "check_row", .glo "check_moment", .glo "done_at", .glo "waiting_at", .glo "check_moment_of", .glo "done_lot", .glo "waiting_lot", .glo "_law_mix", .glo "_law_store", .glo "_law_unfold", .glo "_law_take", .glo "_law_edge", .glo "_law_rare", .glo "_law_one", .glo "_law_length", .glo "_law_shuffled", .glo "_law_int"]
def fa2 : List He.Fa := [.glo "_law_within", .glo "_law_full_order", .glo "_law_row", .glo "_law_row_at", .glo "_law_n", .glo "_law_match", .glo "_law_odd", .glo "_law_near", .glo "_law_kinds", .glo "_law_ask", .glo "_law_lot_due", .glo "_law_due", .glo "_law_bent_places", .glo "_law_rows", .glo "law", .free "ValueError", .free "bool", .free "enumerate", .free "int", .free "isinstance", .free "len", .free "list", .free "max", .free "min", .free "range", .free "str", .free "tuple", .free "zip"]
def fa : List He.Fa := fa0 ++ fa1 ++ fa2
def xs0 : List Str := ["NoSpareError", "BadWorld", "BadCell", "BadLetter", "BadFilling", "BadLot", "BadOrder", "BadRow", "BadStarts", "BadMoment", "BadNumber", "BadTable", "BadStep", "BadMaps", "BadMoves", "BadMatrix", "BadPrime", "BadTie", "BadFamily", "BadText", "BadSpeech", "BadPaper", "BadDeed", "NotTold", "NotOneToOne", "NotIdle", "NotCalm", "NotHeld", "NotSame", "Still"]
def xs1 : List Str := ["Clash", "Lost", "Wrong", "NoPlace", "OtherWorld", "TooManyTies", "TooMany", "TooLong", "AtStart", "AtEnd", "NothingToUndo"]
def xs : List Str := xs0 ++ xs1
def rs0 : List Str := ["BadMoment", "BadNumber", "BadRow"]
def rs : List Str := rs0
def loose0 : List Str := ["__name__", "NoSpareError", "BadWorld", "BadCell", "BadLetter", "BadFilling", "BadLot", "BadOrder", "BadRow", "BadStarts", "BadMoment", "BadNumber", "BadTable", "BadStep", "BadMaps", "BadMoves", "BadMatrix", "BadPrime", "BadTie", "BadFamily", "BadText", "BadSpeech", "BadPaper", "BadDeed", "NotTold", "NotOneToOne", "NotIdle", "NotCalm", "NotHeld", "NotSame"]
def loose1 : List Str := ["Still", "Clash", "Lost", "Wrong", "NoPlace", "OtherWorld", "TooManyTies", "TooMany", "TooLong", "AtStart", "AtEnd", "NothingToUndo", "is_whole", "is_whole_within", "check_row", "check_moment", "done_at", "waiting_at", "check_moment_of", "done_lot", "waiting_lot", "_law_mix", "_law_store", "_law_unfold", "_law_take", "_law_edge", "_law_rare", "_law_one", "_law_length", "_law_shuffled"]
def loose2 : List Str := ["_law_int", "_law_within", "_law_full_order", "_law_row", "_law_row_at", "_law_n", "_law_match", "_law_odd", "_law_near", "_law_kinds", "_law_ask", "_law_lot_due", "_law_due", "_law_bent_places", "_law_rows"]
def loose : List Str := loose0 ++ loose1 ++ loose2
def ex (K : PySem.W.Frag) : Bool := excG K "NoSpareError" && ((xs.all fun x => excB K "NoSpareError" x) && (kitsAB K "NoSpareError" rs xs && exmsB K rs ["NoSpareError"] "NoSpareError"))
abbrev R : PySem.W.OpenRow := PySem.W.OpenLaw.row PySem.Challenge.rw_nosparecell_k21_done_and_waiting_lots
abbrev hk : PySem.W.Hook := hkE 5 fa fn ex
def ob (s : PySem.W.SharedT) : He.AlD × Bool := ansE 5 fa fn ex (HandSHeadRun.getT s)
theorem ob_eq (s : PySem.W.SharedT) : ob s = hk.obs s.abs := ansE_at (HandSHeadRun.getT_eq s)
theorem run (w : World) : HandSHeadRun.RunEq R (PySem.W.view R.prog [78]) hk ob 12000 loose w := by
  intro os
  kernel_rfl
end K21
set_option maxHeartbeats 4000000
namespace DL.K21
open PySem PySem.Spec PyProof.Rows L2 _root_.K21
/-- what the head tells -/
structure En (K : PySem.W.Frag) (mg : Str → Option Value) : Prop where
  glo : ∀ (x : Str), He.Fa.glo x ∈ fa → mg x = some (.ref (He.ga K x))
  free : ∀ (x : Str), He.Fa.free x ∈ fa → mg x = none
  fn : ∀ d ∈ fn, ∃ fd, FunD K d.name d.qual d.params d.body d.scope (d.dvs K) (d.kws K) (He.fAd K d.at_) fd
  ex : ex K = true
theorem fa_at (i : Nat) {x : He.Fa} (h : fa[i]? = some x) : x ∈ fa := List.mem_of_getElem? h
theorem fn_at (i : Nat) {x : He.DefD} (h : fn[i]? = some x) : x ∈ fn := List.mem_of_getElem? h
theorem xs_at (i : Nat) {x : Str} (h : xs[i]? = some x) : x ∈ xs := List.mem_of_getElem? h
theorem rs_at (i : Nat) {x : Str} (h : rs[i]? = some x) : x ∈ rs := List.mem_of_getElem? h
/-- where the base's __init__ stands -/
def fI (K : PySem.W.Frag) : Addr := He.ma K (He.ga K "NoSpareError") "__init__"
section
variable {X : Cx} {P : Program} {w : World} {K : PySem.W.Frag} {mg : Str → Option Value} {base : Heap}
theorem En.err (E : En K mg) (A : AtP X P w K mg base) {x : Str} (h : x ∈ xs) : ErrC X.K (He.ga K x) (fI K) := by
  obtain ⟨e1, e2⟩ := He.ba (show (excG _ "NoSpareError" && ((xs.all fun x => excB _ "NoSpareError" x) && (kitsAB _ "NoSpareError" rs xs && exmsB _ rs ["NoSpareError"] "NoSpareError"))) = true from E.ex)
  obtain ⟨e2, e3⟩ := He.ba e2
  obtain ⟨e3, e4⟩ := He.ba e3
  rw [A.k]
  exact excB_ok (List.all_eq_true.mp e2 x h)
theorem En.errG (E : En K mg) (A : AtP X P w K mg base) : ErrG X.K (fI K) := by
  obtain ⟨e1, e2⟩ := He.ba (show (excG _ "NoSpareError" && ((xs.all fun x => excB _ "NoSpareError" x) && (kitsAB _ "NoSpareError" rs xs && exmsB _ rs ["NoSpareError"] "NoSpareError"))) = true from E.ex)
  obtain ⟨e2, e3⟩ := He.ba e2
  obtain ⟨e3, e4⟩ := He.ba e3
  rw [A.k]
  exact excG_ok e1
theorem En.kit (E : En K mg) (A : AtP X P w K mg base) {a b : Str} (ha : a ∈ rs) (hb : b ∈ xs) : PySem.W.kitOne X.K (.ref (He.ga K a)) (.ref (He.ga K b)) = some (a == b || b == "NoSpareError") := by
  obtain ⟨e1, e2⟩ := He.ba (show (excG _ "NoSpareError" && ((xs.all fun x => excB _ "NoSpareError" x) && (kitsAB _ "NoSpareError" rs xs && exmsB _ rs ["NoSpareError"] "NoSpareError"))) = true from E.ex)
  obtain ⟨e2, e3⟩ := He.ba e2
  obtain ⟨e3, e4⟩ := He.ba e3
  rw [A.k]
  exact kitsAB_ok e3 ha hb
theorem En.exm (E : En K mg) (A : AtP X P w K mg base) {a : Str} (ha : a ∈ rs) : PySem.W.exmOne X.K (.ref (He.ga K a)) (.ref (He.ga K "NoSpareError")) = some true := by
  obtain ⟨e1, e2⟩ := He.ba (show (excG _ "NoSpareError" && ((xs.all fun x => excB _ "NoSpareError" x) && (kitsAB _ "NoSpareError" rs xs && exmsB _ rs ["NoSpareError"] "NoSpareError"))) = true from E.ex)
  obtain ⟨e2, e3⟩ := He.ba e2
  obtain ⟨e3, e4⟩ := He.ba e3
  rw [A.k, exmsB_ok e4 ha (b := "NoSpareError") (by simp)]
  simp
theorem En.raises (E : En K mg) (A : AtP X P w K mg base) : ∃ fd, RaisesAt X (fI K) fd 1 := by
  obtain ⟨fd, Fu⟩ := E.fn dd_init (fn_at 34 rfl)
  obtain ⟨rfl, rfl, rfl, rfl, rfl⟩ := A
  obtain ⟨e1, e2⟩ := He.ba (show (excG _ "NoSpareError" && ((xs.all fun x => excB _ "NoSpareError" x) && (kitsAB _ "NoSpareError" rs xs && exmsB _ rs ["NoSpareError"] "NoSpareError"))) = true from E.ex)
  obtain ⟨e2, e3⟩ := He.ba e2
  obtain ⟨e3, e4⟩ := He.ba e3
  exact ⟨fd, init_ok (f := fI X.K) Fu ⟨rfl, rfl, rfl, by decide +kernel, rfl, by decide +kernel, by decide +kernel⟩, FunD.bindsN (ps := ["self", "at"]) Fu fun _ _ _ _ _ _ us hl => match us, hl with | [_, _], _ => rfl, (excG_ok e1).ty⟩
end
section
variable {P : Program} {w : World} {K : PySem.W.Frag} {mg : Str → Option Value} {base : Heap}
def S_is_whole : Spec := fun o as Φ => o = none ∧ ∃ d T, as = [d] ∧ d.tyn = some T ∧ Φ (.ret (.bl (D.isW d)) none)
theorem p_is_whole (E : En K mg) : FnD P w K mg base 1 "is_whole" ["value"] S_is_whole := by
  obtain ⟨fd, Fu⟩ := E.fn dd_is_whole (fn_at 0 rfl)
  refine def_of (N := ["value"]) (st := st_is_whole) (E.glo "is_whole" (fa_at 41 rfl)) Fu (FunD.bindsN (ps := ["value"]) Fu fun _ _ _ _ _ _ us hl => match us, hl with | [_], _ => rfl) ⟨rfl, rfl, rfl, by decide +kernel, rfl, by decide +kernel, by decide +kernel⟩ ?_ ?_
  · intro o as Φ hS
    obtain ⟨ho, d, T, ea, ht, hk⟩ := hS
    subst ea ho; rfl
  intro X A W o as Φ hS B
  obtain ⟨ho, d, T, ea, ht, hk⟩ := hS
  subst ea
  obtain rfl := o_none ho
  have C := B.c
  have v := vars_m C.c0 1 (by decide +kernel)
  have lo := locs_m C.c0 B.fn 1 (by decide +kernel)
  have b_bool := blt0 (x := "bool") C.c0 (A.gl (E.free "bool" (fa_at 76 rfl))) bt_bool (by decide +kernel)
  have b_int := blt0 (x := "int") C.c0 (A.gl (E.free "int" (fa_at 78 rfl))) bt_int (by decide +kernel)
  have b_isinstance := blt0 (x := "isinstance") C.c0 (A.gl (E.free "isinstance" (fa_at 79 rfl))) bt_isinstance (by decide +kernel)
  show SX X W (defBody st_is_whole) [.val d] (Fin none Φ)
  refine sx_cons ?_
  refine s_ret ?_
  refine ex_and ?_
  refine ex_isi (C := "int") b_isinstance ?_
  refine ex_var (v 0 _ (by decide) rfl) rfl ?_
  refine ex_bty b_int.g b_int.m b_int.v ?_
  refine ⟨T, _, rfl, ht, kit_is ht (by simp), ?_⟩
  refine ⟨_, rfl, fun hb0 => ?_, fun hb0 => ?_⟩
  rotate_left
  · exact ⟨none, rfl, by cases d <;> first | exact hk | simp_all [D.isa] | cases ht⟩
  refine ex_one ?_
  refine ex_not ?_
  refine ex_isi (C := "bool") b_isinstance ?_
  refine ex_var (v 0 _ (by decide) rfl) rfl ?_
  refine ex_bty b_bool.g b_bool.m b_bool.v ?_
  refine ⟨T, _, rfl, ht, kit_is ht (by simp), ?_⟩
  refine ⟨_, rfl, ?_⟩
  exact ⟨none, rfl, by cases d <;> first | exact hk | simp_all [D.isa] | cases ht⟩
def S_is_whole_within : Spec := fun o as Φ => o = none ∧ ∃ d T lo1 hi1, as = [d, .int lo1, .int hi1] ∧ d.tyn = some T ∧ Φ (.ret (.bl (d.within lo1 hi1)) none)
theorem p_is_whole_within (E : En K mg) : FnD P w K mg base 2 "is_whole_within" ["value", "least", "most"] S_is_whole_within := by
  obtain ⟨fd, Fu⟩ := E.fn dd_is_whole_within (fn_at 1 rfl)
  refine def_of (N := ["value", "least", "most"]) (st := st_is_whole_within) (E.glo "is_whole_within" (fa_at 42 rfl)) Fu (FunD.bindsN (ps := ["value", "least", "most"]) Fu fun _ _ _ _ _ _ us hl => match us, hl with | [_, _, _], _ => rfl) ⟨rfl, rfl, rfl, by decide +kernel, rfl, by decide +kernel, by decide +kernel⟩ ?_ ?_
  · intro o as Φ hS
    obtain ⟨ho, d, T, lo1, hi1, ea, ht, hk⟩ := hS
    subst ea ho; rfl
  intro X A W o as Φ hS B
  obtain ⟨ho, d, T, lo1, hi1, ea, ht, hk⟩ := hS
  subst ea
  obtain rfl := o_none ho
  have C := B.c
  have v := vars_m C.c0 3 (by decide +kernel)
  have lo := locs_m C.c0 B.fn 3 (by decide +kernel)
  show SX X W (defBody st_is_whole_within) [.val d, .val (.int lo1), .val (.int hi1)] (Fin none Φ)
  refine sx_cons ?_
  refine s_ret ?_
  refine ex_and ?_
  refine ex_call (glb0 C.c0 (by decide +kernel)) (A.fn (p_is_whole E)) (C.room.mono (by decide)) ?_
  refine ax_cons ?_
  refine ex_var (v 0 _ (by decide) rfl) rfl ?_
  refine ax_nil ?_
  refine ⟨rfl, d, T, rfl, ht, ?_⟩
  refine ⟨_, rfl, fun hb0 => ?_, fun hb0 => ?_⟩
  rotate_left
  · exact ⟨none, rfl, by rw [← within_not hb0]; exact hk⟩
  refine ex_one ?_
  obtain ⟨i, rfl⟩ := isW_of hb0
  refine ex_chain ?_
  refine ex_var (v 1 _ (by decide) rfl) rfl ?_
  refine ex_var (v 0 _ (by decide) rfl) rfl ?_
  refine o_le ⟨_, rfl, fun hq => ?_, fun hq => ?_⟩
  rotate_left
  · exact ⟨none, rfl, by rw [within_int, hq] at hk; exact hk⟩
  refine ex_var (v 2 _ (by decide) rfl) rfl ?_
  refine o_le ?_
  exact ⟨none, rfl, by rw [within_int, hq] at hk; exact hk⟩
/-- the first wrong place of a row: 0 no tuple, -1 too long -/
def rowFault (n : Int) : D → Option Int
  | .tup ds => if 40 < ds.length then some (-1) else (firstBad (fun e => e.within 1 n) ds).map fun (j : Nat) => (j : Int)
  | _ => some 0
def S_check_row (K : PySem.W.Frag) : Spec := fun o as Φ => o = none ∧ ∃ n d, as = [.int n, d] ∧ d.gd = true ∧ (match rowFault n d with | some z => Φ (.exc (He.ga K "BadRow") (.int z) none) | none => Φ (.ret .non none))
theorem p_check_row (E : En K mg) : FnD P w K mg base 3 "check_row" ["n", "value"] (S_check_row K) := by
  obtain ⟨fd, Fu⟩ := E.fn dd_check_row (fn_at 2 rfl)
  refine def_of (N := ["n", "value", "place", "entry"]) (st := st_check_row) (E.glo "check_row" (fa_at 43 rfl)) Fu (FunD.bindsN (ps := ["n", "value"]) Fu fun _ _ _ _ _ _ us hl => match us, hl with | [_, _], _ => rfl) ⟨rfl, rfl, rfl, by decide +kernel, rfl, by decide +kernel, by decide +kernel⟩ ?_ ?_
  · intro o as Φ hS
    obtain ⟨ho, n, d, ea, hg, hk⟩ := hS
    subst ea ho; rfl
  intro X A W o as Φ hS B
  obtain ⟨ho, n, d, ea, hg, hk⟩ := hS
  subst ea
  obtain rfl := o_none ho
  have C := B.c
  have v := vars_m C.c0 4 (by decide +kernel)
  have lo := locs_m C.c0 B.fn 4 (by decide +kernel)
  have b_enumerate := blt0 (x := "enumerate") C.c0 (A.gl (E.free "enumerate" (fa_at 77 rfl))) bt_enumerate (by decide +kernel)
  have b_isinstance := blt0 (x := "isinstance") C.c0 (A.gl (E.free "isinstance" (fa_at 79 rfl))) bt_isinstance (by decide +kernel)
  have b_len := blt0 (x := "len") C.c0 (A.gl (E.free "len" (fa_at 80 rfl))) bt_len (by decide +kernel)
  have b_tuple := blt0 (x := "tuple") C.c0 (A.gl (E.free "tuple" (fa_at 86 rfl))) bt_tuple (by decide +kernel)
  obtain ⟨T, ht⟩ := gd_tyn hg
  obtain ⟨fdI, RI⟩ := E.raises A
  show SX X W (defBody st_check_row) [.val (.int n), .val d, .no, .no] (Fin none Φ)
  refine sx_cons ?_
  refine s_if ?_
  refine tx_not ?_
  refine tx_truth ?_
  refine ex_isi (C := "tuple") b_isinstance ?_
  refine ex_var (v 1 _ (by decide) rfl) rfl ?_
  refine ex_bty b_tuple.g b_tuple.m b_tuple.v ?_
  refine ⟨T, _, rfl, ht, kit_is ht (by simp), ?_⟩
  refine ⟨_, rfl, ?_⟩
  refine ⟨fun hc0 => ?_, fun hc0 => ?_⟩
  · -- not isinstance(value, tuple)
    have hr : rowFault n d = some 0 := by cases d <;> first | rfl | simp [D.isa] at hc0
    rw [hr] at hk
    refine sx_cons ?_
    refine s_raise C B.t (E.err A (xs_at 7 rfl)) RI (by decide) (glb0 C.c0 (by decide +kernel)) (A.gl (E.glo "BadRow" (fa_at 7 rfl))) ?_
    refine ex_int ?_
    exact ⟨none, rfl, hk⟩
  · -- not not isinstance(value, tuple)
    obtain ⟨ds, rfl⟩ : ∃ ds, d = .tup ds := by cases d <;> first | exact ⟨_, rfl⟩ | simp [D.isa] at hc0
    refine sx_nil ?_
    show SX _ _ _ _ _
    refine sx_cons ?_
    refine s_if ?_
    refine tx_cmp ?_
    refine ex_len b_len ?_
    refine ex_var (v 1 _ (by decide) rfl) rfl ?_
    refine ⟨_, rfl, ?_⟩
    refine ex_int ?_
    refine o_gt ⟨_, rfl, ?_⟩
    refine ⟨fun hc1 => ?_, fun hc1 => ?_⟩
    · -- len(value) > 40
      have hr : rowFault n (.tup ds) = some (-1) := by show (if 40 < ds.length then some (-1) else _) = some (-1 : Int); rw [if_pos (by have := of_decide_eq_true hc1; omega)]
      rw [hr] at hk
      refine sx_cons ?_
      refine s_raise C B.t (E.err A (xs_at 7 rfl)) RI (by decide) (glb0 C.c0 (by decide +kernel)) (A.gl (E.glo "BadRow" (fa_at 7 rfl))) ?_
      refine ex_neg ?_
      refine ex_int ?_
      refine ⟨_, rfl, ?_⟩
      exact ⟨none, rfl, hk⟩
    · -- not len(value) > 40
      have hl : ¬ 40 < ds.length := by have := of_decide_eq_false hc1; omega
      refine sx_nil ?_
      show SX _ _ _ _ _
      refine sx_cons ?_
      refine s_for C ?_
      refine ix_enumS b_enumerate (by decide) (by decide) ?_ rfl
      refine ex_var (v 1 _ (by decide) rfl) rfl ?_
      refine ⟨_, rfl, ?_⟩
      refine ⟨fun i ρ' => ∃ s2 s3, ρ' = [.val (.int n), .val (.tup ds), s2, s3] ∧ ∀ j e, j < i → ds[j]? = some e → e.within 1 n = true, ⟨_, _, rfl, fun j e h => absurd h (Nat.not_lt_zero _)⟩, ?_, ?_⟩
      · -- a turn
        rintro i d0 ρ' hd ⟨s2, s3, rfl, hJ⟩
        obtain ⟨e, he, rfl⟩ := pairsFrom_get hd
        obtain ⟨Te, hte⟩ := gd_tyn (gd_at (by simpa [D.gd] using hg) he)
        refine gx_tup C.calm ?_ rfl
        refine gsx_cons ?_
        refine gx_name C (lo 2 _ (by decide) rfl) ?_
        refine gsx_cons ?_
        refine gx_name C (lo 3 _ (by decide) rfl) ?_
        refine gsx_nil ?_
        refine sx_cons ?_
        refine s_if ?_
        refine tx_not ?_
        refine tx_truth ?_
        refine ex_call (glb0 C.c0 (by decide +kernel)) (A.fn (p_is_whole_within E)) (C.room.mono (by decide)) ?_
        refine ax_cons ?_
        refine ex_var (v 3 _ (by decide) rfl) rfl ?_
        refine ax_cons ?_
        refine ex_int ?_
        refine ax_cons ?_
        refine ex_var (v 0 _ (by decide) rfl) rfl ?_
        refine ax_nil ?_
        refine ⟨rfl, e, Te, _, _, rfl, hte, ?_⟩
        refine ⟨_, rfl, ?_⟩
        refine ⟨fun hc2 => ?_, fun hc2 => ?_⟩
        · -- not is_whole_within(entry, 1, n)
          refine sx_cons ?_
          refine s_raise C B.t (E.err A (xs_at 7 rfl)) RI (by decide) (glb0 C.c0 (by decide +kernel)) (A.gl (E.glo "BadRow" (fa_at 7 rfl))) ?_
          refine ex_var (v 2 _ (by decide) rfl) rfl ?_
          have hf := firstBad_at (p := fun e => e.within 1 n) he (by simpa using hc2) hJ
          have hr : rowFault n (.tup ds) = some (1 + (i : Int)) := by show (if 40 < ds.length then some (-1) else (firstBad (fun e => e.within 1 n) ds).map fun (j : Nat) => (j : Int)) = _; rw [if_neg hl, hf]; simp; omega
          rw [hr] at hk
          exact ⟨none, rfl, hk⟩
        · -- not not is_whole_within(entry, 1, n)
          refine sx_nil ?_
          show SX _ _ _ _ _
          refine sx_nil ?_
          exact ⟨_, _, rfl, fun j f hj hf => by
            rcases Nat.lt_succ_iff_lt_or_eq.mp hj with h | h
            · exact hJ j f h hf
            · subst h; rw [he] at hf; cases hf; simpa using hc2⟩
      · -- behind it
        rintro ρ' ⟨s2, s3, rfl, hJ⟩
        rw [pairsFrom_len] at hJ
        have hf : firstBad (fun e => e.within 1 n) ds = none := firstBad_none.mpr fun e he => by obtain ⟨j, hj, ej⟩ := List.mem_iff_getElem.mp he; exact hJ j e hj (by rw [List.getElem?_eq_getElem hj, ej])
        have hr : rowFault n (.tup ds) = none := by show (if 40 < ds.length then some (-1) else (firstBad (fun e => e.within 1 n) ds).map fun (j : Nat) => (j : Int)) = _; rw [if_neg hl, hf]; rfl
        rw [hr] at hk
        show SX _ _ _ _ _
        refine sx_nil ?_
        exact ⟨none, rfl, hk⟩
def S_check_moment (K : PySem.W.Frag) : Spec := fun o as Φ => o = none ∧ ∃ ds d, as = [.tup ds, d] ∧ d.gd = true ∧ (if d.within 0 ds.length = true then Φ (.ret .non none) else Φ (.exc (He.ga K "BadMoment") d none))
theorem p_check_moment (E : En K mg) : FnD P w K mg base 3 "check_moment" ["row", "value"] (S_check_moment K) := by
  obtain ⟨fd, Fu⟩ := E.fn dd_check_moment (fn_at 3 rfl)
  refine def_of (N := ["row", "value"]) (st := st_check_moment) (E.glo "check_moment" (fa_at 44 rfl)) Fu (FunD.bindsN (ps := ["row", "value"]) Fu fun _ _ _ _ _ _ us hl => match us, hl with | [_, _], _ => rfl) ⟨rfl, rfl, rfl, by decide +kernel, rfl, by decide +kernel, by decide +kernel⟩ ?_ ?_
  · intro o as Φ hS
    obtain ⟨ho, ds, d, ea, hg, hk⟩ := hS
    subst ea ho; rfl
  intro X A W o as Φ hS B
  obtain ⟨ho, ds, d, ea, hg, hk⟩ := hS
  subst ea
  obtain rfl := o_none ho
  have C := B.c
  have v := vars_m C.c0 2 (by decide +kernel)
  have lo := locs_m C.c0 B.fn 2 (by decide +kernel)
  have b_len := blt0 (x := "len") C.c0 (A.gl (E.free "len" (fa_at 80 rfl))) bt_len (by decide +kernel)
  obtain ⟨T, ht⟩ := gd_tyn hg
  obtain ⟨fdI, RI⟩ := E.raises A
  show SX X W (defBody st_check_moment) [.val (.tup ds), .val d] (Fin none Φ)
  refine sx_cons ?_
  refine s_if ?_
  refine tx_not ?_
  refine tx_truth ?_
  refine ex_call (glb0 C.c0 (by decide +kernel)) (A.fn (p_is_whole_within E)) (C.room.mono (by decide)) ?_
  refine ax_cons ?_
  refine ex_var (v 1 _ (by decide) rfl) rfl ?_
  refine ax_cons ?_
  refine ex_int ?_
  refine ax_cons ?_
  refine ex_len b_len ?_
  refine ex_var (v 0 _ (by decide) rfl) rfl ?_
  refine ⟨_, rfl, ?_⟩
  refine ax_nil ?_
  refine ⟨rfl, d, T, _, _, rfl, ht, ?_⟩
  refine ⟨_, rfl, ?_⟩
  refine ⟨fun hc0 => ?_, fun hc0 => ?_⟩
  · -- not is_whole_within(value, 0, len(row))
    rw [if_neg (by simpa using hc0)] at hk
    refine sx_cons ?_
    refine s_raise C B.t (E.err A (xs_at 9 rfl)) RI (by decide) (glb0 C.c0 (by decide +kernel)) (A.gl (E.glo "BadMoment" (fa_at 9 rfl))) ?_
    refine ex_var (v 1 _ (by decide) rfl) rfl ?_
    exact ⟨none, rfl, hk⟩
  · -- not not is_whole_within(value, 0, len(row))
    rw [if_pos (by simpa using hc0)] at hk
    refine sx_nil ?_
    show SX _ _ _ _ _
    refine sx_nil ?_
    exact ⟨none, rfl, hk⟩
def doneL (n : Int) (ds : List D) (m : Int) : List D := (steps 1 1 n.toNat).filter fun c => !c.inL (ds.drop m.toNat)
def S_done_at : Spec := fun o as Φ => o = none ∧ ∃ n ds m, as = [.int n, .tup ds, .int m] ∧ (0 ≤ n ∧ n ≤ 6) ∧ 0 ≤ m ∧ D.allInt ds = true ∧ Φ (.ret (.tup (doneL n ds m)) none)
theorem p_done_at (E : En K mg) : FnD P w K mg base 1 "done_at" ["n", "row", "moment"] S_done_at := by
  obtain ⟨fd, Fu⟩ := E.fn dd_done_at (fn_at 4 rfl)
  refine def_of (N := ["n", "row", "moment", "later", "cell"]) (st := st_done_at) (E.glo "done_at" (fa_at 45 rfl)) Fu (FunD.bindsN (ps := ["n", "row", "moment"]) Fu fun _ _ _ _ _ _ us hl => match us, hl with | [_, _, _], _ => rfl) ⟨rfl, rfl, rfl, by decide +kernel, rfl, by decide +kernel, by decide +kernel⟩ ?_ ?_
  · intro o as Φ hS
    obtain ⟨ho, n, ds, m, ea, hn, hm, hi, hk⟩ := hS
    subst ea ho; rfl
  intro X A W o as Φ hS B
  obtain ⟨ho, n, ds, m, ea, hn, hm, hi, hk⟩ := hS
  subst ea
  obtain rfl := o_none ho
  have C := B.c
  have v := vars_m C.c0 4 (by decide +kernel)
  have lo := locs_m C.c0 B.fn 4 (by decide +kernel)
  have b_range := blt0 (x := "range") C.c0 (A.gl (E.free "range" (fa_at 84 rfl))) bt_range (by decide +kernel)
  have b_tuple := blt0 (x := "tuple") C.c0 (A.gl (E.free "tuple" (fa_at 86 rfl))) bt_tuple (by decide +kernel)
  have hi2 := allInt_flat (allInt_drop hi m.toNat)
  show SX X W (defBody st_done_at) [.val (.int n), .val (.tup ds), .val (.int m), .no, .no] (Fin none Φ)
  refine sx_cons ?_
  refine s_asg0 C.c0 (lo 3 _ (by decide) rfl) ?_
  refine ex_slT ?_
  refine ex_var (v 1 _ (by decide) rfl) rfl ?_
  refine ox_some ?_
  refine ex_var (v 2 _ (by decide) rfl) rfl ?_
  refine ⟨_, rfl, ?_⟩
  refine ox_none ?_
  refine ⟨_, rfl, ?_⟩
  show SX _ _ _ _ _
  refine sx_cons ?_
  refine s_ret ?_
  refine ex_tupleOf b_tuple ?_
  refine ex_nx ?_
  refine nx_map (j := 4) C (blkOk_of C.c0 ⟨rfl, by decide +kernel, by decide +kernel, by decide +kernel, by decide +kernel⟩) rfl (by decide +kernel) (fun d => d) (fun c => !c.inL (ds.drop m.toNat)) ?_
  refine ix_range2 b_range ?_
  refine ax_cons ?_
  refine ex_int ?_
  refine ax_cons ?_
  refine ex_bin ?_
  refine ex_var (v 0 _ (by decide) rfl) rfl ?_
  refine ex_int ?_
  refine o_add ?_
  refine ax_nil ?_
  refine ⟨_, _, rfl, ⟨by omega, by omega, by omega, by omega⟩, ?_⟩
  refine ⟨by rw [steps_len, sizeLine_eq]; omega, (show 4 < 5 from by decide), id, ?_, ?_⟩
  · -- an item
    intro d0 hd0 X2 blk2 C2
    have A2 := A.blk blk2
    obtain ⟨j, hj, rfl⟩ := mem_steps hd0
    refine ⟨?_, fun ht0 => ?_⟩
    · -- its test
      show TX _ _ _ _ _
      refine tx_cmp ?_
      refine ex_var (vr C2.c0 4 rfl (by decide +kernel)) rfl ?_
      refine ex_var (vr C2.c0 3 rfl (by decide +kernel)) rfl ?_
      refine o_notIn rfl rfl (by rw [cut_from hm]; exact hi2) ⟨_, rfl, ?_⟩
      exact ⟨by rw [cut_from hm], rfl⟩
    refine ex_var (vr C2.c0 4 rfl (by decide +kernel)) rfl ?_
    exact ⟨rfl, rfl⟩
  refine ⟨_, rfl, ?_⟩
  exact ⟨none, rfl, by rw [show (n + 1 - 1).toNat = n.toNat by congr 1; omega, List.map_id'] ; exact hk⟩
def waitL (n : Int) (ds : List D) (m : Int) : List D := (steps 1 1 n.toNat).filter fun c => c.inL (ds.drop m.toNat) && !c.inL (ds.take m.toNat)
def S_waiting_at : Spec := fun o as Φ => o = none ∧ ∃ n ds m, as = [.int n, .tup ds, .int m] ∧ (0 ≤ n ∧ n ≤ 6) ∧ 0 ≤ m ∧ D.allInt ds = true ∧ Φ (.ret (.tup (waitL n ds m)) none)
theorem p_waiting_at (E : En K mg) : FnD P w K mg base 1 "waiting_at" ["n", "row", "moment"] S_waiting_at := by
  obtain ⟨fd, Fu⟩ := E.fn dd_waiting_at (fn_at 5 rfl)
  refine def_of (N := ["n", "row", "moment", "earlier", "later", "cell"]) (st := st_waiting_at) (E.glo "waiting_at" (fa_at 46 rfl)) Fu (FunD.bindsN (ps := ["n", "row", "moment"]) Fu fun _ _ _ _ _ _ us hl => match us, hl with | [_, _, _], _ => rfl) ⟨rfl, rfl, rfl, by decide +kernel, rfl, by decide +kernel, by decide +kernel⟩ ?_ ?_
  · intro o as Φ hS
    obtain ⟨ho, n, ds, m, ea, hn, hm, hi, hk⟩ := hS
    subst ea ho; rfl
  intro X A W o as Φ hS B
  obtain ⟨ho, n, ds, m, ea, hn, hm, hi, hk⟩ := hS
  subst ea
  obtain rfl := o_none ho
  have C := B.c
  have v := vars_m C.c0 5 (by decide +kernel)
  have lo := locs_m C.c0 B.fn 5 (by decide +kernel)
  have b_range := blt0 (x := "range") C.c0 (A.gl (E.free "range" (fa_at 84 rfl))) bt_range (by decide +kernel)
  have b_tuple := blt0 (x := "tuple") C.c0 (A.gl (E.free "tuple" (fa_at 86 rfl))) bt_tuple (by decide +kernel)
  have hi2 := allInt_flat (allInt_drop hi m.toNat)
  have hi3 := allInt_flat (allInt_take hi m.toNat)
  show SX X W (defBody st_waiting_at) [.val (.int n), .val (.tup ds), .val (.int m), .no, .no, .no] (Fin none Φ)
  refine sx_cons ?_
  refine s_asg0 C.c0 (lo 3 _ (by decide) rfl) ?_
  refine ex_slT ?_
  refine ex_var (v 1 _ (by decide) rfl) rfl ?_
  refine ox_none ?_
  refine ox_some ?_
  refine ex_var (v 2 _ (by decide) rfl) rfl ?_
  refine ⟨_, rfl, ?_⟩
  refine ⟨_, rfl, ?_⟩
  show SX _ _ _ _ _
  refine sx_cons ?_
  refine s_asg0 C.c0 (lo 4 _ (by decide) rfl) ?_
  refine ex_slT ?_
  refine ex_var (v 1 _ (by decide) rfl) rfl ?_
  refine ox_some ?_
  refine ex_var (v 2 _ (by decide) rfl) rfl ?_
  refine ⟨_, rfl, ?_⟩
  refine ox_none ?_
  refine ⟨_, rfl, ?_⟩
  show SX _ _ _ _ _
  refine sx_cons ?_
  refine s_ret ?_
  refine ex_tupleOf b_tuple ?_
  refine ex_nx ?_
  refine nx_map (j := 5) C (blkOk_of C.c0 ⟨rfl, by decide +kernel, by decide +kernel, by decide +kernel, by decide +kernel⟩) rfl (by decide +kernel) (fun d => d) (fun c => c.inL (ds.drop m.toNat) && !c.inL (ds.take m.toNat)) ?_
  refine ix_range2 b_range ?_
  refine ax_cons ?_
  refine ex_int ?_
  refine ax_cons ?_
  refine ex_bin ?_
  refine ex_var (v 0 _ (by decide) rfl) rfl ?_
  refine ex_int ?_
  refine o_add ?_
  refine ax_nil ?_
  refine ⟨_, _, rfl, ⟨by omega, by omega, by omega, by omega⟩, ?_⟩
  refine ⟨by rw [steps_len, sizeLine_eq]; omega, (show 5 < 6 from by decide), id, ?_, ?_⟩
  · -- an item
    intro d0 hd0 X2 blk2 C2
    have A2 := A.blk blk2
    obtain ⟨j, hj, rfl⟩ := mem_steps hd0
    refine ⟨?_, fun ht0 => ?_⟩
    · -- its test
      show TX _ _ _ _ _
      refine tx_w ?_
      refine wx_and ?_
      refine tx_cmp ?_
      refine ex_var (vr C2.c0 5 rfl (by decide +kernel)) rfl ?_
      refine ex_var (vr C2.c0 4 rfl (by decide +kernel)) rfl ?_
      refine o_in rfl rfl (by rw [cut_from hm]; exact hi2) ⟨_, rfl, ?_⟩
      refine ⟨fun hb0 => ?_, fun hb0 => ?_⟩
      rotate_left
      · exact ⟨by rw [cut_from hm] at hb0; show false = (_ && _); rw [hb0]; rfl, rfl⟩
      refine wx_and1 ?_
      refine tx_cmp ?_
      refine ex_var (vr C2.c0 5 rfl (by decide +kernel)) rfl ?_
      refine ex_var (vr C2.c0 3 rfl (by decide +kernel)) rfl ?_
      refine o_notIn rfl rfl (by rw [cut_to hm]; exact hi3) ⟨_, rfl, ?_⟩
      exact ⟨by rw [cut_from hm] at hb0; rw [cut_to hm]; show _ = (_ && _); rw [hb0]; rfl, rfl⟩
    refine ex_var (vr C2.c0 5 rfl (by decide +kernel)) rfl ?_
    exact ⟨rfl, rfl⟩
  refine ⟨_, rfl, ?_⟩
  exact ⟨none, rfl, by rw [show (n + 1 - 1).toNat = n.toNat by congr 1; omega, List.map_id'] ; exact hk⟩
/-- the first fault of a number, a row and a moment: its class and its at -/
def momFault (d1 d2 d3 : D) : Option (Str × D) := if d1.within 1 6 = false then some ("BadNumber", d1) else match rowFault d1.val d2 with
  | some z => some ("BadRow", .int z)
  | none => match d2 with
    | .tup ds => if d3.within 0 ds.length = true then none else some ("BadMoment", d3)
    | _ => none
theorem within_iff {d : D} {lo hi : Int} : d.within lo hi = true ↔ ∃ i, d = .int i ∧ lo ≤ i ∧ i ≤ hi := by
  cases d with
  | int i =>
    rw [within_int, Bool.and_eq_true, decide_eq_true_eq, decide_eq_true_eq]
    exact ⟨fun h => ⟨i, rfl, h⟩, fun ⟨j, e, h⟩ => by cases e; exact h⟩
  | _ => exact ⟨fun h => (by cases h), fun ⟨_, e, _⟩ => (by cases e)⟩
theorem rowFault_none {n : Int} {d : D} (h : rowFault n d = none) : ∃ ds, d = .tup ds ∧ ds.length ≤ 40 ∧ ∀ e ∈ ds, e.within 1 n = true := by
  cases d with
  | tup ds =>
    have h' : (if 40 < ds.length then some (-1) else (firstBad (fun e => e.within 1 n) ds).map fun (j : Nat) => (j : Int)) = none := h
    split at h'
    · cases h'
    · rename_i hl
      exact ⟨ds, rfl, by omega, firstBad_none.mp (by simpa using h')⟩
  | _ => cases h
theorem allInt_of {n : Int} {ds : List D} (h : ∀ e ∈ ds, e.within 1 n = true) : D.allInt ds = true := by
  unfold D.allInt
  rw [List.all_eq_true]
  intro e he
  obtain ⟨i, rfl, _⟩ := within_iff.mp (h e he)
  rfl
theorem momFault_n {d1 d2 d3 : D} (h : d1.within 1 6 = false) : momFault d1 d2 d3 = some (("BadNumber" : Str), d1) := by unfold momFault; rw [if_pos h]
theorem momFault_r {n z : Int} {d2 d3 : D} (h : (D.int n).within 1 6 = true) (hr : rowFault n d2 = some z) : momFault (.int n) d2 d3 = some (("BadRow" : Str), D.int z) := by
  unfold momFault
  rw [if_neg (by rw [h]; decide), show (D.int n).val = n from rfl, hr]
theorem momFault_m {n : Int} {ds : List D} {d3 : D} (h : (D.int n).within 1 6 = true) (hr : rowFault n (.tup ds) = none) : momFault (.int n) (.tup ds) d3 = if d3.within 0 ds.length = true then none else some (("BadMoment" : Str), d3) := by
  unfold momFault
  rw [if_neg (by rw [h]; decide), show (D.int n).val = n from rfl, hr]
theorem momFault_none {d1 d2 d3 : D} (h : momFault d1 d2 d3 = none) : ∃ n ds m, d1 = .int n ∧ d2 = .tup ds ∧ d3 = .int m ∧ (1 ≤ n ∧ n ≤ 6) ∧ ds.length ≤ 40 ∧ (∀ e ∈ ds, e.within 1 n = true) ∧ (0 ≤ m ∧ m ≤ ds.length) := by
  cases h1 : d1.within 1 6 with
  | false => rw [momFault_n h1] at h; cases h
  | true =>
    obtain ⟨n, rfl, n1, n2⟩ := within_iff.mp h1
    cases hr : rowFault n d2 with
    | some z => rw [momFault_r h1 hr] at h; cases h
    | none =>
      obtain ⟨ds, rfl, hl, hw⟩ := rowFault_none hr
      rw [momFault_m h1 hr] at h
      split at h
      · rename_i h3
        obtain ⟨m, rfl, m1, m2⟩ := within_iff.mp h3
        exact ⟨n, ds, m, rfl, rfl, rfl, ⟨n1, n2⟩, hl, hw, m1, m2⟩
      · cases h
def S_check_moment_of (K : PySem.W.Frag) : Spec := fun o as Φ => o = none ∧ ∃ d1 d2 d3, as = [d1, d2, d3] ∧ d1.gd = true ∧ d2.gd = true ∧ d3.gd = true ∧ (match momFault d1 d2 d3 with | some (c, z) => Φ (.exc (He.ga K c) z none) | none => Φ (.ret .non none))
theorem p_check_moment_of (E : En K mg) : FnD P w K mg base 4 "check_moment_of" ["n", "row", "moment"] (S_check_moment_of K) := by
  obtain ⟨fd, Fu⟩ := E.fn dd_check_moment_of (fn_at 6 rfl)
  refine def_of (N := ["n", "row", "moment"]) (st := st_check_moment_of) (E.glo "check_moment_of" (fa_at 47 rfl)) Fu (FunD.bindsN (ps := ["n", "row", "moment"]) Fu fun _ _ _ _ _ _ us hl => match us, hl with | [_, _, _], _ => rfl) ⟨rfl, rfl, rfl, by decide +kernel, rfl, by decide +kernel, by decide +kernel⟩ ?_ ?_
  · intro o as Φ hS
    obtain ⟨ho, d1, d2, d3, ea, hg1, hg2, hg3, hk⟩ := hS
    subst ea ho; rfl
  intro X A W o as Φ hS B
  obtain ⟨ho, d1, d2, d3, ea, hg1, hg2, hg3, hk⟩ := hS
  subst ea
  obtain rfl := o_none ho
  have C := B.c
  have v := vars_m C.c0 3 (by decide +kernel)
  have lo := locs_m C.c0 B.fn 3 (by decide +kernel)
  obtain ⟨T, ht⟩ := gd_tyn hg1
  obtain ⟨fdI, RI⟩ := E.raises A
  show SX X W (defBody st_check_moment_of) [.val d1, .val d2, .val d3] (Fin none Φ)
  refine sx_cons ?_
  refine s_if ?_
  refine tx_not ?_
  refine tx_truth ?_
  refine ex_call (glb0 C.c0 (by decide +kernel)) (A.fn (p_is_whole_within E)) (C.room.mono (by decide)) ?_
  refine ax_cons ?_
  refine ex_var (v 0 _ (by decide) rfl) rfl ?_
  refine ax_cons ?_
  refine ex_int ?_
  refine ax_cons ?_
  refine ex_int ?_
  refine ax_nil ?_
  refine ⟨rfl, d1, T, _, _, rfl, ht, ?_⟩
  refine ⟨_, rfl, ?_⟩
  refine ⟨fun hc0 => ?_, fun hc0 => ?_⟩
  · -- not is_whole_within(n, 1, 6)
    have hf : d1.within 1 6 = false := by simpa using hc0
    rw [momFault_n hf] at hk
    refine sx_cons ?_
    refine s_raise C B.t (E.err A (xs_at 10 rfl)) RI (by decide) (glb0 C.c0 (by decide +kernel)) (A.gl (E.glo "BadNumber" (fa_at 10 rfl))) ?_
    refine ex_var (v 0 _ (by decide) rfl) rfl ?_
    exact ⟨none, rfl, hk⟩
  · -- not not is_whole_within(n, 1, 6)
    have hf : d1.within 1 6 = true := by simpa using hc0
    obtain ⟨n, rfl, n1, n2⟩ := within_iff.mp hf
    skip
    refine sx_nil ?_
    show SX _ _ _ _ _
    refine sx_cons ?_
    refine s_expr ?_
    refine ex_callX B.t (glb0 C.c0 (by decide +kernel)) (A.fn (p_check_row E)) (C.room.mono (by decide)) ?_
    refine ax_cons ?_
    refine ex_var (v 0 _ (by decide) rfl) rfl ?_
    refine ax_cons ?_
    refine ex_var (v 1 _ (by decide) rfl) rfl ?_
    refine ax_nil ?_
    refine ⟨rfl, _, _, rfl, hg2, ?_⟩
    split
    · rename_i z hr
      rw [momFault_r hf hr] at hk
      exact ⟨none, rfl, hk⟩
    rename_i hr
    obtain ⟨ds, rfl, hl, hw⟩ := rowFault_none hr
    rw [momFault_m hf hr] at hk
    show SX _ _ _ _ _
    refine sx_cons ?_
    refine s_expr ?_
    refine ex_callX B.t (glb0 C.c0 (by decide +kernel)) (A.fn (p_check_moment E)) (C.room.mono (by decide)) ?_
    refine ax_cons ?_
    refine ex_var (v 1 _ (by decide) rfl) rfl ?_
    refine ax_cons ?_
    refine ex_var (v 2 _ (by decide) rfl) rfl ?_
    refine ax_nil ?_
    refine ⟨rfl, _, _, rfl, hg3, ?_⟩
    by_cases h3 : d3.within 0 ds.length = true
    rotate_left
    · rw [if_neg h3] at hk ⊢
      exact ⟨none, rfl, hk⟩
    rw [if_pos h3] at hk ⊢
    show SX _ _ _ _ _
    refine sx_nil ?_
    exact ⟨none, rfl, hk⟩
def S_done_lot (K : PySem.W.Frag) : Spec := fun o as Φ => o = none ∧ ∃ d1 d2 d3, as = [d1, d2, d3] ∧ d1.gd = true ∧ d2.gd = true ∧ d3.gd = true ∧ (match momFault d1 d2 d3 with | some (c, z) => Φ (.exc (He.ga K c) z none) | none => ∀ n ds m, d1 = .int n → d2 = .tup ds → d3 = .int m → Φ (.ret (.tup (doneL n ds m)) none))
theorem p_done_lot (E : En K mg) : FnD P w K mg base 5 "done_lot" ["n", "row", "moment"] (S_done_lot K) := by
  obtain ⟨fd, Fu⟩ := E.fn dd_done_lot (fn_at 7 rfl)
  refine def_of (N := ["n", "row", "moment"]) (st := st_done_lot) (E.glo "done_lot" (fa_at 48 rfl)) Fu (FunD.bindsN (ps := ["n", "row", "moment"]) Fu fun _ _ _ _ _ _ us hl => match us, hl with | [_, _, _], _ => rfl) ⟨rfl, rfl, rfl, by decide +kernel, rfl, by decide +kernel, by decide +kernel⟩ ?_ ?_
  · intro o as Φ hS
    obtain ⟨ho, d1, d2, d3, ea, hg1, hg2, hg3, hk⟩ := hS
    subst ea ho; rfl
  intro X A W o as Φ hS B
  obtain ⟨ho, d1, d2, d3, ea, hg1, hg2, hg3, hk⟩ := hS
  subst ea
  obtain rfl := o_none ho
  have C := B.c
  have v := vars_m C.c0 3 (by decide +kernel)
  have lo := locs_m C.c0 B.fn 3 (by decide +kernel)
  show SX X W (defBody st_done_lot) [.val d1, .val d2, .val d3] (Fin none Φ)
  refine sx_cons ?_
  refine s_expr ?_
  refine ex_callX B.t (glb0 C.c0 (by decide +kernel)) (A.fn (p_check_moment_of E)) (C.room.mono (by decide)) ?_
  refine ax_cons ?_
  refine ex_var (v 0 _ (by decide) rfl) rfl ?_
  refine ax_cons ?_
  refine ex_var (v 1 _ (by decide) rfl) rfl ?_
  refine ax_cons ?_
  refine ex_var (v 2 _ (by decide) rfl) rfl ?_
  refine ax_nil ?_
  refine ⟨rfl, _, _, _, rfl, hg1, hg2, hg3, ?_⟩
  split
  · rename_i c z hm
    rw [hm] at hk
    exact ⟨none, rfl, hk⟩
  rename_i hm
  rw [hm] at hk
  obtain ⟨n, ds, m, rfl, rfl, rfl, hn, hl, hw, hmm⟩ := momFault_none hm
  show SX _ _ _ _ _
  refine sx_cons ?_
  refine s_ret ?_
  refine ex_call (glb0 C.c0 (by decide +kernel)) (A.fn (p_done_at E)) (C.room.mono (by decide)) ?_
  refine ax_cons ?_
  refine ex_var (v 0 _ (by decide) rfl) rfl ?_
  refine ax_cons ?_
  refine ex_var (v 1 _ (by decide) rfl) rfl ?_
  refine ax_cons ?_
  refine ex_var (v 2 _ (by decide) rfl) rfl ?_
  refine ax_nil ?_
  refine ⟨rfl, n, ds, m, rfl, ⟨by omega, hn.2⟩, hmm.1, allInt_of hw, ?_⟩
  exact ⟨none, rfl, hk n ds m rfl rfl rfl⟩
def S_waiting_lot (K : PySem.W.Frag) : Spec := fun o as Φ => o = none ∧ ∃ d1 d2 d3, as = [d1, d2, d3] ∧ d1.gd = true ∧ d2.gd = true ∧ d3.gd = true ∧ (match momFault d1 d2 d3 with | some (c, z) => Φ (.exc (He.ga K c) z none) | none => ∀ n ds m, d1 = .int n → d2 = .tup ds → d3 = .int m → Φ (.ret (.tup (waitL n ds m)) none))
theorem p_waiting_lot (E : En K mg) : FnD P w K mg base 5 "waiting_lot" ["n", "row", "moment"] (S_waiting_lot K) := by
  obtain ⟨fd, Fu⟩ := E.fn dd_waiting_lot (fn_at 8 rfl)
  refine def_of (N := ["n", "row", "moment"]) (st := st_waiting_lot) (E.glo "waiting_lot" (fa_at 49 rfl)) Fu (FunD.bindsN (ps := ["n", "row", "moment"]) Fu fun _ _ _ _ _ _ us hl => match us, hl with | [_, _, _], _ => rfl) ⟨rfl, rfl, rfl, by decide +kernel, rfl, by decide +kernel, by decide +kernel⟩ ?_ ?_
  · intro o as Φ hS
    obtain ⟨ho, d1, d2, d3, ea, hg1, hg2, hg3, hk⟩ := hS
    subst ea ho; rfl
  intro X A W o as Φ hS B
  obtain ⟨ho, d1, d2, d3, ea, hg1, hg2, hg3, hk⟩ := hS
  subst ea
  obtain rfl := o_none ho
  have C := B.c
  have v := vars_m C.c0 3 (by decide +kernel)
  have lo := locs_m C.c0 B.fn 3 (by decide +kernel)
  show SX X W (defBody st_waiting_lot) [.val d1, .val d2, .val d3] (Fin none Φ)
  refine sx_cons ?_
  refine s_expr ?_
  refine ex_callX B.t (glb0 C.c0 (by decide +kernel)) (A.fn (p_check_moment_of E)) (C.room.mono (by decide)) ?_
  refine ax_cons ?_
  refine ex_var (v 0 _ (by decide) rfl) rfl ?_
  refine ax_cons ?_
  refine ex_var (v 1 _ (by decide) rfl) rfl ?_
  refine ax_cons ?_
  refine ex_var (v 2 _ (by decide) rfl) rfl ?_
  refine ax_nil ?_
  refine ⟨rfl, _, _, _, rfl, hg1, hg2, hg3, ?_⟩
  split
  · rename_i c z hm
    rw [hm] at hk
    exact ⟨none, rfl, hk⟩
  rename_i hm
  rw [hm] at hk
  obtain ⟨n, ds, m, rfl, rfl, rfl, hn, hl, hw, hmm⟩ := momFault_none hm
  show SX _ _ _ _ _
  refine sx_cons ?_
  refine s_ret ?_
  refine ex_call (glb0 C.c0 (by decide +kernel)) (A.fn (p_waiting_at E)) (C.room.mono (by decide)) ?_
  refine ax_cons ?_
  refine ex_var (v 0 _ (by decide) rfl) rfl ?_
  refine ax_cons ?_
  refine ex_var (v 1 _ (by decide) rfl) rfl ?_
  refine ax_cons ?_
  refine ex_var (v 2 _ (by decide) rfl) rfl ?_
  refine ax_nil ?_
  refine ⟨rfl, n, ds, m, rfl, ⟨by omega, hn.2⟩, hmm.1, allInt_of hw, ?_⟩
  exact ⟨none, rfl, hk n ds m rfl rfl rfl⟩
def S__law_mix : Spec := fun o as Φ => o = none ∧ ∃ a b, as = [.int a, .int b] ∧ ∀ r, Φ (.ret (.int r) none)
theorem p__law_mix (E : En K mg) : FnD P w K mg base 1 "_law_mix" ["one", "two"] S__law_mix := by
  obtain ⟨fd, Fu⟩ := E.fn dd__law_mix (fn_at 9 rfl)
  refine def_of (N := ["one", "two", "far"]) (st := st__law_mix) (E.glo "_law_mix" (fa_at 50 rfl)) Fu (FunD.bindsN (ps := ["one", "two"]) Fu fun _ _ _ _ _ _ us hl => match us, hl with | [_, _], _ => rfl) ⟨rfl, rfl, rfl, by decide +kernel, rfl, by decide +kernel, by decide +kernel⟩ ?_ ?_
  · intro o as Φ hS
    obtain ⟨ho, a, b, ea, hk⟩ := hS
    subst ea ho; rfl
  intro X A W o as Φ hS B
  obtain ⟨ho, a, b, ea, hk⟩ := hS
  subst ea
  obtain rfl := o_none ho
  have C := B.c
  have v := vars_m C.c0 3 (by decide +kernel)
  have lo := locs_m C.c0 B.fn 3 (by decide +kernel)
  have b_int := blt0 (x := "int") C.c0 (A.gl (E.free "int" (fa_at 78 rfl))) bt_int (by decide +kernel)
  show SX X W (defBody st__law_mix) [.val (.int a), .val (.int b), .no] (Fin none Φ)
  refine sx_cons ?_
  refine s_asg0 C.c0 (lo 2 _ (by decide) rfl) ?_
  refine ex_gen (P := fun _ => True) ?_ ?_
  · -- int(one) % 1000000000000000003 * 48271 + int(two) % 1000000000000000003 * 69621 + 7
    refine ex_bin ?_
    refine ex_bin ?_
    refine ex_bin ?_
    refine ex_bin ?_
    refine ex_intI b_int ?_
    refine ex_var (v 0 _ (by decide) rfl) rfl ?_
    refine ⟨_, rfl, ?_⟩
    refine ex_int ?_
    refine o_mod (by decide) ?_
    refine ex_int ?_
    refine o_mul (by exact .inr ⟨by omega, by omega⟩) ?_
    refine ex_bin ?_
    refine ex_bin ?_
    refine ex_intI b_int ?_
    refine ex_var (v 1 _ (by decide) rfl) rfl ?_
    refine ⟨_, rfl, ?_⟩
    refine ex_int ?_
    refine o_mod (by decide) ?_
    refine ex_int ?_
    refine o_mul (by exact .inr ⟨by omega, by omega⟩) ?_
    refine o_add ?_
    refine ex_int ?_
    refine o_add ?_
    exact ⟨_, rfl, trivial, rfl⟩
  intro f1 _
  show SX _ _ _ _ _
  refine sx_cons ?_
  refine s_asg0 C.c0 (lo 2 _ (by decide) rfl) ?_
  refine ex_gen (P := fun i => 0 ≤ i ∧ i < 2305843009213693951) ?_ ?_
  · -- int(far * 3935559000370003) % 2305843009213693951
    refine ex_bin ?_
    refine ex_intI b_int ?_
    refine ex_bin ?_
    refine ex_var (v 2 _ (by decide) rfl) rfl ?_
    refine ex_int ?_
    refine o_mul (by exact .inr ⟨by omega, by omega⟩) ?_
    refine ⟨_, rfl, ?_⟩
    refine ex_int ?_
    refine o_mod (by decide) ?_
    exact ⟨_, rfl, ⟨by omega, by omega⟩, rfl⟩
  intro f2 hf2
  show SX _ _ _ _ _
  refine sx_cons ?_
  refine s_asg0 C.c0 (lo 2 _ (by decide) rfl) ?_
  refine ex_gen (P := fun i => 0 ≤ i ∧ i < 2305843009213693951) ?_ ?_
  · -- int(far * far + far // 1073741824) % 2305843009213693951
    refine ex_bin ?_
    refine ex_intI b_int ?_
    refine ex_bin ?_
    refine ex_bin ?_
    refine ex_var (v 2 _ (by decide) rfl) rfl ?_
    refine ex_var (v 2 _ (by decide) rfl) rfl ?_
    refine o_mul (by exact .inl ⟨by omega, by omega⟩) ?_
    refine ex_bin ?_
    refine ex_var (v 2 _ (by decide) rfl) rfl ?_
    refine ex_int ?_
    refine o_div (by exact ⟨by omega, by decide⟩) ?_
    refine o_add ?_
    refine ⟨_, rfl, ?_⟩
    refine ex_int ?_
    refine o_mod (by decide) ?_
    exact ⟨_, rfl, ⟨by omega, by omega⟩, rfl⟩
  intro f3 hf3
  show SX _ _ _ _ _
  refine sx_cons ?_
  refine s_asg0 C.c0 (lo 2 _ (by decide) rfl) ?_
  refine ex_gen (P := fun i => 0 ≤ i ∧ i < 2305843009213693951) ?_ ?_
  · -- int(far * far + far // 1073741824) % 2305843009213693951
    refine ex_bin ?_
    refine ex_intI b_int ?_
    refine ex_bin ?_
    refine ex_bin ?_
    refine ex_var (v 2 _ (by decide) rfl) rfl ?_
    refine ex_var (v 2 _ (by decide) rfl) rfl ?_
    refine o_mul (by exact .inl ⟨by omega, by omega⟩) ?_
    refine ex_bin ?_
    refine ex_var (v 2 _ (by decide) rfl) rfl ?_
    refine ex_int ?_
    refine o_div (by exact ⟨by omega, by decide⟩) ?_
    refine o_add ?_
    refine ⟨_, rfl, ?_⟩
    refine ex_int ?_
    refine o_mod (by decide) ?_
    exact ⟨_, rfl, ⟨by omega, by omega⟩, rfl⟩
  intro f3 hf3
  show SX _ _ _ _ _
  refine sx_cons ?_
  refine s_ret ?_
  refine ex_bin ?_
  refine ex_var (v 2 _ (by decide) rfl) rfl ?_
  refine ex_int ?_
  refine o_div (by exact ⟨by omega, by decide⟩) ?_
  exact ⟨none, rfl, hk _⟩
def S__law_store : Spec := fun o as Φ => o = none ∧ ∃ ns : List D, as = [.frz ns] ∧ D.allInt ns = true ∧ ∀ ds, StOk ds → Φ (.retl ds none)
theorem p__law_store (E : En K mg) : FnD P w K mg base 2 "_law_store" ["script"] S__law_store := by
  obtain ⟨fd, Fu⟩ := E.fn dd__law_store (fn_at 10 rfl)
  refine def_of (N := ["script", "cells", "folded", "cell"]) (st := st__law_store) (E.glo "_law_store" (fa_at 51 rfl)) Fu (FunD.bindsN (ps := ["script"]) Fu fun _ _ _ _ _ _ us hl => match us, hl with | [_], _ => rfl) ⟨rfl, rfl, rfl, by decide +kernel, rfl, by decide +kernel, by decide +kernel⟩ ?_ ?_
  · intro o as Φ hS
    obtain ⟨ho, ns, ea, hn, hk⟩ := hS
    subst ea ho; rfl
  intro X A W o as Φ hS B
  obtain ⟨ho, ns, ea, hn, hk⟩ := hS
  subst ea
  obtain rfl := o_none ho
  have C := B.c
  have v := vars_m C.c0 4 (by decide +kernel)
  have lo := locs_m C.c0 B.fn 4 (by decide +kernel)
  have b_len := blt0 (x := "len") C.c0 (A.gl (E.free "len" (fa_at 80 rfl))) bt_len (by decide +kernel)
  have hn2 := allInt_take hn 63
  show SX X W (defBody st__law_store) [.val (.frz ns), .no, .no, .no] (Fin none Φ)
  refine sx_cons ?_
  refine s_asgMap (j := 3) (lo 1 _ (by decide) rfl) (by rw [C.s]; decide +kernel) C (blkOk_of C.c0 ⟨rfl, by decide +kernel, by decide +kernel, by decide +kernel, by decide +kernel⟩) rfl (by decide +kernel) (fun d => d) (fun _ => true) ?_ (sw_true (by rw [C.s]; rfl) (by rw [C.s]; decide +kernel) rfl (by decide +kernel))
  refine ix_list ?_
  refine ex_nx ?_
  refine nx_slL ?_
  refine ex_var (v 0 _ (by decide) rfl) rfl ?_
  refine ox_none ?_
  refine ox_some ?_
  refine ex_int ?_
  refine ⟨_, rfl, ?_⟩
  refine ⟨_, .inr rfl, ?_⟩
  refine ⟨_, .inl rfl, ?_⟩
  refine ⟨by rw [cut_to (by decide)]; have := List.length_take_le 63 ns; rw [sizeLine_eq]; exact Nat.le_trans this (by decide), (show 3 < 4 from by decide), id, ?_, ?_⟩
  · -- an item
    intro d0 hd0 X2 blk2 C2
    have A2 := A.blk blk2
    rw [cut_to (by decide)] at hd0
    obtain ⟨i, rfl⟩ := isW_of (List.all_eq_true.mp hn2 d0 hd0)
    refine ⟨?_, fun ht0 => ?_⟩
    · -- its test
      show _ ∧ _
      exact ⟨rfl, rfl⟩
    refine ex_intI (blt0 C2.c0 (A2.gl (E.free "int" (fa_at 78 rfl))) bt_int (by decide +kernel)) ?_
    refine ex_var (vr C2.c0 3 rfl (by decide +kernel)) rfl ?_
    refine ⟨_, rfl, ?_⟩
    exact ⟨rfl, rfl⟩
  show SX _ _ _ _ _
  refine sx_cons ?_
  refine s_asg0 C.c0 (lo 2 _ (by decide) rfl) ?_
  refine ex_bin ?_
  refine ex_int ?_
  refine ex_lenS b_len (v 1 _ (by decide) rfl) rfl rfl ?_
  refine o_add ?_
  show SX _ _ _ _ _
  refine sx_frz 1 rfl ?_
  rw [cut_to (by decide), List.filter_eq_self.mpr (fun _ _ => rfl), List.map_id']
  refine sx_cons ?_
  refine s_for C ?_
  refine ix_list ?_
  refine ex_var (v 1 _ (by decide) rfl) rfl ?_
  refine ⟨_, .inl rfl, ?_⟩
  refine ⟨fun _ ρ' => ∃ r s3 s4, ρ' = [.val (.frz ns), .val (.lst (ns.take 63)), .val (.int r), s3], ⟨_, _, trivial, rfl⟩, ?_, ?_⟩
  · -- a turn
    rintro i d0 ρ' hd ⟨r, s3, s4, rfl⟩
    obtain ⟨c, rfl⟩ := isW_of (List.all_eq_true.mp hn2 d0 (List.mem_of_getElem? hd))
    refine gx_name C (lo 3 _ (by decide) rfl) ?_
    refine sx_cons ?_
    refine s_asg0 C.c0 (lo 2 _ (by decide) rfl) ?_
    refine ex_call (glb0 C.c0 (by decide +kernel)) (A.fn (p__law_mix E)) (C.room.mono (by decide)) ?_
    refine ax_cons ?_
    refine ex_var (v 2 _ (by decide) rfl) rfl ?_
    refine ax_cons ?_
    refine ex_var (v 3 _ (by decide) rfl) rfl ?_
    refine ax_nil ?_
    refine ⟨rfl, _, _, rfl, fun r2 => ?_⟩
    show SX _ _ _ _ _
    refine sx_nil ?_
    exact ⟨_, _, s4, rfl⟩
  · -- behind it
    rintro ρ' ⟨r, s3, s4, rfl⟩
    show SX _ _ _ _ _
    refine sx_cons ?_
    refine s_retNX ?_
    refine nx_lst ?_
    refine ax_cons ?_
    refine ex_var (v 1 _ (by decide) rfl) rfl ?_
    refine ax_cons ?_
    refine ex_int ?_
    refine ax_cons ?_
    refine ex_int ?_
    refine ax_cons ?_
    refine ex_int ?_
    refine ax_cons ?_
    refine ex_int ?_
    refine ax_cons ?_
    refine ex_int ?_
    refine ax_cons ?_
    refine ex_var (v 2 _ (by decide) rfl) rfl ?_
    refine ax_nil ?_
    refine ⟨show 7 ≤ sizeLine from by decide, ?_⟩
    exact ⟨none, rfl, hk _ ⟨_, _, _, _, _, _, _, rfl, hn2, by decide⟩⟩
def S__law_unfold : Spec := fun o as Φ => ∃ ds, o = some ds ∧ as = [] ∧ StOk ds ∧ ∀ ds2, StOk ds2 → Φ (.ret .non (some ds2))
theorem p__law_unfold (E : En K mg) : FnD P w K mg base 2 "_law_unfold" ["store"] S__law_unfold := by
  obtain ⟨fd, Fu⟩ := E.fn dd__law_unfold (fn_at 11 rfl)
  refine def_of (N := ["store", "place", "cell"]) (st := st__law_unfold) (E.glo "_law_unfold" (fa_at 52 rfl)) Fu (FunD.bindsN (ps := ["store"]) Fu fun _ _ _ _ _ _ us hl => match us, hl with | [_], _ => rfl) ⟨rfl, rfl, rfl, by decide +kernel, rfl, by decide +kernel, by decide +kernel⟩ ?_ ?_
  · intro o as Φ hS
    obtain ⟨ds, ho, ea, hs, hk⟩ := hS
    subst ea ho; rfl
  intro X A W o as Φ hS B
  obtain ⟨ds, ho, ea, hs, hk⟩ := hS
  subst ea
  obtain ⟨pp, rfl⟩ := o_some ho
  have C := B.c
  have v := vars_m C.c0 3 (by decide +kernel)
  have lo := locs_m C.c0 B.fn 3 (by decide +kernel)
  have b_int := blt0 (x := "int") C.c0 (A.gl (E.free "int" (fa_at 78 rfl))) bt_int (by decide +kernel)
  have b_len := blt0 (x := "len") C.c0 (A.gl (E.free "len" (fa_at 80 rfl))) bt_len (by decide +kernel)
  obtain ⟨cells, p, a, b, c, d, f, rfl, hci, hp⟩ := hs
  show SX X W (defBody st__law_unfold) [.ino pp [.lst cells, .int p, .int a, .int b, .int c, .int d, .int f], .no, .no] (Fin (some (pp, _)) Φ)
  refine sx_cons ?_
  refine s_asg0 C.c0 (lo 1 _ (by decide) rfl) ?_
  refine ex_ixS (v 0 _ (by decide) rfl) ?_ ⟨_, _, rfl, rfl⟩
  refine ex_int ?_
  refine ⟨_, _, _, _, rfl, rfl, rfl, rfl, ?_⟩
  show SX _ _ _ _ _
  refine sx_cons ?_
  refine s_if ?_
  refine tx_cmp ?_
  refine ex_var (v 1 _ (by decide) rfl) rfl ?_
  refine ex_len b_len ?_
  refine ex_ixS (v 0 _ (by decide) rfl) ?_ ⟨_, _, rfl, rfl⟩
  refine ex_int ?_
  refine ⟨_, _, _, _, rfl, rfl, rfl, rfl, ?_⟩
  refine ⟨_, rfl, ?_⟩
  refine o_lt ⟨_, rfl, ?_⟩
  refine ⟨fun hc0 => ?_, fun hc0 => ?_⟩
  · -- place < len(store[0])
    refine sx_cons ?_
    refine s_asg0 C.c0 (lo 2 _ (by decide) rfl) ?_
    have hp2 : p < cells.length := of_decide_eq_true hc0
    obtain ⟨e0, he0, he1⟩ := atI_of hp hp2
    obtain ⟨cl, rfl⟩ := isW_of (List.all_eq_true.mp hci e0 (List.mem_of_getElem? he1))
    refine ex_ix ?_
    refine ex_ixS (v 0 _ (by decide) rfl) ?_ ⟨_, _, rfl, rfl⟩
    refine ex_int ?_
    refine ⟨_, _, _, _, rfl, rfl, rfl, rfl, ?_⟩
    refine ex_var (v 1 _ (by decide) rfl) rfl ?_
    refine ⟨_, _, _, rfl, rfl, he0, ?_⟩
    show SX _ _ _ _ _
    refine sx_cons ?_
    refine s_setS (v 0 _ (by decide) rfl) ?_
    refine ex_bin ?_
    refine ex_var (v 1 _ (by decide) rfl) rfl ?_
    refine ex_int ?_
    refine o_add ?_
    refine ⟨⟨_, _, rfl, rfl⟩, ?_⟩
    refine ex_int ?_
    refine ⟨_, _, _, _, rfl, rfl, rfl, rfl, ?_⟩
    show SX _ _ _ _ _
    refine sx_cons ?_
    refine s_if ?_
    refine tx_cmp ?_
    refine ex_var (v 2 _ (by decide) rfl) rfl ?_
    refine ex_bin ?_
    refine ex_int ?_
    refine ex_int ?_
    refine o_pow (by decide) (by decide +kernel) ?_
    refine o_ge ⟨_, rfl, ?_⟩
    refine ⟨fun hc1 => ?_, fun hc1 => ?_⟩
    · -- cell >= 10 ** 18
      refine sx_cons ?_
      refine s_setS (v 0 _ (by decide) rfl) ?_
      refine ex_bin ?_
      refine ex_intI b_int ?_
      refine ex_var (v 2 _ (by decide) rfl) rfl ?_
      refine ⟨_, rfl, ?_⟩
      refine ex_bin ?_
      refine ex_bin ?_
      refine ex_int ?_
      refine ex_int ?_
      refine o_pow (by decide) (by decide +kernel) ?_
      refine ex_int ?_
      refine o_pow (by decide) (by decide +kernel) ?_
      refine o_mod (by decide) ?_
      refine ⟨⟨_, _, rfl, rfl⟩, ?_⟩
      refine ex_int ?_
      refine ⟨_, _, _, _, rfl, rfl, rfl, rfl, ?_⟩
      show SX _ _ _ _ _
      refine sx_nil ?_
      show SX _ _ _ _ _
      refine sx_nil ?_
      show SX _ _ _ _ _
      refine sx_nil ?_
      exact ⟨_, ⟨_, rfl, rfl⟩, hk _ ⟨_, _, _, _, _, _, _, rfl, hci, by omega⟩⟩
    · -- not cell >= 10 ** 18
      refine sx_cons ?_
      refine s_setS (v 0 _ (by decide) rfl) ?_
      refine ex_int ?_
      refine ⟨⟨_, _, rfl, rfl⟩, ?_⟩
      refine ex_int ?_
      refine ⟨_, _, _, _, rfl, rfl, rfl, rfl, ?_⟩
      show SX _ _ _ _ _
      refine sx_cons ?_
      refine s_setS (v 0 _ (by decide) rfl) ?_
      refine ex_call (glb0 C.c0 (by decide +kernel)) (A.fn (p__law_mix E)) (C.room.mono (by decide)) ?_
      refine ax_cons ?_
      refine ex_var (v 2 _ (by decide) rfl) rfl ?_
      refine ax_cons ?_
      refine ex_bin ?_
      refine ex_var (v 1 _ (by decide) rfl) rfl ?_
      refine ex_int ?_
      refine o_add ?_
      refine ax_nil ?_
      refine ⟨rfl, _, _, rfl, fun r2 => ?_⟩
      refine ⟨⟨_, _, rfl, rfl⟩, ?_⟩
      refine ex_int ?_
      refine ⟨_, _, _, _, rfl, rfl, rfl, rfl, ?_⟩
      show SX _ _ _ _ _
      refine sx_nil ?_
      show SX _ _ _ _ _
      refine sx_nil ?_
      show SX _ _ _ _ _
      refine sx_nil ?_
      exact ⟨_, ⟨_, rfl, rfl⟩, hk _ ⟨_, _, _, _, _, _, _, rfl, hci, by omega⟩⟩
  · -- not place < len(store[0])
    refine sx_nil ?_
    show SX _ _ _ _ _
    refine sx_nil ?_
    exact ⟨_, ⟨_, rfl, rfl⟩, hk _ ⟨_, _, _, _, _, _, _, rfl, hci, by omega⟩⟩
def S__law_take : Spec := TakeS
theorem p__law_take (E : En K mg) : FnD P w K mg base 3 "_law_take" ["store", "many"] S__law_take := by
  obtain ⟨fd, Fu⟩ := E.fn dd__law_take (fn_at 12 rfl)
  refine def_of (N := ["store", "many", "turn", "draw", "base"]) (st := st__law_take) (E.glo "_law_take" (fa_at 53 rfl)) Fu (FunD.bindsN (ps := ["store", "many"]) Fu fun _ _ _ _ _ _ us hl => match us, hl with | [_, _], _ => rfl) ⟨rfl, rfl, rfl, by decide +kernel, rfl, by decide +kernel, by decide +kernel⟩ ?_ ?_
  · intro o as Φ hS
    obtain ⟨ds, many, ho, ea, hs, hm, hk⟩ := hS
    subst ea ho; rfl
  intro X A W o as Φ hS B
  obtain ⟨ds, many, ho, ea, hs, hm, hk⟩ := hS
  subst ea
  obtain ⟨pp, rfl⟩ := o_some ho
  have C := B.c
  have v := vars_m C.c0 5 (by decide +kernel)
  have lo := locs_m C.c0 B.fn 5 (by decide +kernel)
  have b_int := blt0 (x := "int") C.c0 (A.gl (E.free "int" (fa_at 78 rfl))) bt_int (by decide +kernel)
  have b_len := blt0 (x := "len") C.c0 (A.gl (E.free "len" (fa_at 80 rfl))) bt_len (by decide +kernel)
  have b_max := blt0 (x := "max") C.c0 (A.gl (E.free "max" (fa_at 82 rfl))) bt_max (by decide +kernel)
  have b_range := blt0 (x := "range") C.c0 (A.gl (E.free "range" (fa_at 84 rfl))) bt_range (by decide +kernel)
  obtain ⟨cells, p, a, b, c, d, f, rfl, hci, hp⟩ := hs
  obtain ⟨M, hMd⟩ : ∃ M : Int, M = if many > 1 then many else 1 := ⟨_, rfl⟩
  have hM0 : 0 < M := by rw [hMd]; split <;> omega
  have hMm : M = max 1 many := by rw [hMd]; split <;> omega
  have hMs : Sml M := by rw [hMd]; exact sml_max hm
  show SX X W (defBody st__law_take) [.ino pp [.lst cells, .int p, .int a, .int b, .int c, .int d, .int f], .val (.int many), .no, .no, .no] (Fin (some (pp, _)) Φ)
  refine sx_cons ?_
  refine s_asg0 C.c0 (lo 1 _ (by decide) rfl) ?_
  refine ex_max2 C.calm b_max ?_
  refine ax_cons ?_
  refine ex_int ?_
  refine ax_cons ?_
  refine ex_intI b_int ?_
  refine ex_var (v 1 _ (by decide) rfl) rfl ?_
  refine ⟨_, rfl, ?_⟩
  refine ax_nil ?_
  refine ⟨_, _, rfl, ?_⟩
  show SX _ _ _ _ _
  rw [← hMd]
  refine sx_cons ?_
  refine s_cut (fun ρ1 => ∃ cells p a b c d f s4, ρ1 = [.ino pp [.lst cells, .int p, .int a, .int b, .int c, .int d, .int f], .val (.int M), s4, .no, .no] ∧ D.allInt cells = true ∧ 0 ≤ p) ?_ ?_
  · -- for turn in range(64):
    refine s_for C ?_
    refine ix_range1 b_range ?_
    refine ex_int ?_
    refine ⟨_, rfl, by omega, by omega, ?_⟩
    refine ⟨fun _ ρ1 => ∃ cells p a b c d f s4, ρ1 = [.ino pp [.lst cells, .int p, .int a, .int b, .int c, .int d, .int f], .val (.int M), s4, .no, .no] ∧ D.allInt cells = true ∧ 0 ≤ p, ⟨_, _, _, _, _, _, _, _, rfl, hci, hp⟩, ?_, ?_⟩
    · -- a turn
      rintro i d0 ρ' hd ⟨cells, p, a, b, c, d, f, s4, rfl, hci, hp⟩
      refine gx_name C (lo 2 _ (by decide) rfl) ?_
      refine sx_cons ?_
      refine s_if ?_
      refine tx_any ?_ ?_
      · -- store[2] > 0 or store[3] > 0 or store[1] >= len(store[0])
        refine tx_w ?_
        refine wx_or ?_
        refine tx_cmp ?_
        refine ex_ixS (v 0 _ (by decide) rfl) ?_ ⟨_, _, rfl, rfl⟩
        refine ex_int ?_
        refine ⟨_, _, _, _, rfl, rfl, rfl, rfl, ?_⟩
        refine ex_int ?_
        refine o_gt ⟨_, rfl, ?_⟩
        refine ⟨fun hb0 => ?_, fun hb0 => ?_⟩
        rotate_left
        · exact rfl
        refine wx_or ?_
        refine tx_cmp ?_
        refine ex_ixS (v 0 _ (by decide) rfl) ?_ ⟨_, _, rfl, rfl⟩
        refine ex_int ?_
        refine ⟨_, _, _, _, rfl, rfl, rfl, rfl, ?_⟩
        refine ex_int ?_
        refine o_gt ⟨_, rfl, ?_⟩
        refine ⟨fun hb1 => ?_, fun hb1 => ?_⟩
        rotate_left
        · exact rfl
        refine wx_or1 ?_
        refine tx_cmp ?_
        refine ex_ixS (v 0 _ (by decide) rfl) ?_ ⟨_, _, rfl, rfl⟩
        refine ex_int ?_
        refine ⟨_, _, _, _, rfl, rfl, rfl, rfl, ?_⟩
        refine ex_len b_len ?_
        refine ex_ixS (v 0 _ (by decide) rfl) ?_ ⟨_, _, rfl, rfl⟩
        refine ex_int ?_
        refine ⟨_, _, _, _, rfl, rfl, rfl, rfl, ?_⟩
        refine ⟨_, rfl, ?_⟩
        refine o_ge ⟨_, rfl, ?_⟩
        exact rfl
      intro t0
      refine ⟨fun hc0 => ?_, fun hc0 => ?_⟩
      · -- store[2] > 0 or store[3] > 0 or store[1] >= len(store[0])
        refine sx_cons ?_
        refine s_break ?_
        exact ⟨_, _, _, _, _, _, _, _, rfl, hci, hp⟩
      · -- not store[2] > 0 or store[3] > 0 or store[1] >= len(store[0])
        refine sx_nil ?_
        show SX _ _ _ _ _
        refine sx_cons ?_
        refine s_expr ?_
        refine ex_callS (glb0 C.c0 (by decide +kernel)) (A.fn (p__law_unfold E)) (C.room.mono (by decide)) (v 0 _ (by decide) rfl) ⟨_, _, rfl, rfl⟩ ?_
        refine ax_nil ?_
        refine ⟨_, _, rfl, rfl, ?_⟩
        refine ⟨_, rfl, rfl, ⟨_, _, _, _, _, _, _, rfl, hci, hp⟩, ?_⟩
        rintro ds2 ⟨cells, p, a, b, c, d, f, rfl, hci, hp⟩
        show SX _ _ _ _ _
        refine sx_nil ?_
        exact ⟨_, _, _, _, _, _, _, _, rfl, hci, hp⟩
    · -- behind it
      rintro ρ' ⟨cells, p, a, b, c, d, f, s4, rfl, hci, hp⟩
      exact ⟨_, _, _, _, _, _, _, _, rfl, hci, hp⟩
  rintro ρ1 ⟨cells, p, a, b, c, d, f, s4, rfl, hci, hp⟩
  show SX _ _ _ _ _
  refine sx_cons ?_
  refine s_if ?_
  refine tx_cmp ?_
  refine ex_ixS (v 0 _ (by decide) rfl) ?_ ⟨_, _, rfl, rfl⟩
  refine ex_int ?_
  refine ⟨_, _, _, _, rfl, rfl, rfl, rfl, ?_⟩
  refine ex_int ?_
  refine o_gt ⟨_, rfl, ?_⟩
  refine ⟨fun hc1 => ?_, fun hc1 => ?_⟩
  · -- store[2] > 0
    refine sx_cons ?_
    refine s_asg0 C.c0 (lo 3 _ (by decide) rfl) ?_
    refine ex_bin ?_
    refine ex_intI b_int ?_
    refine ex_ixS (v 0 _ (by decide) rfl) ?_ ⟨_, _, rfl, rfl⟩
    refine ex_int ?_
    refine ⟨_, _, _, _, rfl, rfl, rfl, rfl, ?_⟩
    refine ⟨_, rfl, ?_⟩
    refine ex_var (v 1 _ (by decide) rfl) rfl ?_
    refine o_mod (by exact hM0) ?_
    show SX _ _ _ _ _
    refine sx_cons ?_
    refine s_setS (v 0 _ (by decide) rfl) ?_
    refine ex_bin ?_
    refine ex_ixS (v 0 _ (by decide) rfl) ?_ ⟨_, _, rfl, rfl⟩
    refine ex_int ?_
    refine ⟨_, _, _, _, rfl, rfl, rfl, rfl, ?_⟩
    refine ex_var (v 1 _ (by decide) rfl) rfl ?_
    refine o_div (by exact sml_div hM0 hMs) ?_
    refine ⟨⟨_, _, rfl, rfl⟩, ?_⟩
    refine ex_int ?_
    refine ⟨_, _, _, _, rfl, rfl, rfl, rfl, ?_⟩
    show SX _ _ _ _ _
    refine sx_cons ?_
    refine s_ret ?_
    refine ex_var (v 3 _ (by decide) rfl) rfl ?_
    exact ⟨_, ⟨_, rfl, rfl⟩, hk _ _ (Int.emod_nonneg _ (by omega)) (by rw [← hMm]; exact Int.emod_lt_of_pos _ hM0) ⟨_, _, _, _, _, _, _, rfl, hci, hp⟩⟩
  · -- not store[2] > 0
    refine sx_nil ?_
    show SX _ _ _ _ _
    refine sx_cons ?_
    refine s_asg0 C.c0 (lo 4 _ (by decide) rfl) ?_
    refine ex_ixS (v 0 _ (by decide) rfl) ?_ ⟨_, _, rfl, rfl⟩
    refine ex_int ?_
    refine ⟨_, _, _, _, rfl, rfl, rfl, rfl, ?_⟩
    show SX _ _ _ _ _
    refine sx_cons ?_
    refine s_cut (fun ρ1 => ∃ bs b2, ρ1 = [.ino pp [.lst cells, .int p, .int a, .int b2, .int c, .int d, .int f], .val (.int M), s4, .no, .val (.int bs)]) ?_ ?_
    · -- if store[3] > 0:
      refine s_if ?_
      refine tx_cmp ?_
      refine ex_ixS (v 0 _ (by decide) rfl) ?_ ⟨_, _, rfl, rfl⟩
      refine ex_int ?_
      refine ⟨_, _, _, _, rfl, rfl, rfl, rfl, ?_⟩
      refine ex_int ?_
      refine o_gt ⟨_, rfl, ?_⟩
      refine ⟨fun hc2 => ?_, fun hc2 => ?_⟩
      · -- store[3] > 0
        refine sx_cons ?_
        refine s_asg0 C.c0 (lo 4 _ (by decide) rfl) ?_
        refine ex_ixS (v 0 _ (by decide) rfl) ?_ ⟨_, _, rfl, rfl⟩
        refine ex_int ?_
        refine ⟨_, _, _, _, rfl, rfl, rfl, rfl, ?_⟩
        show SX _ _ _ _ _
        refine sx_cons ?_
        refine s_setS (v 0 _ (by decide) rfl) ?_
        refine ex_bin ?_
        refine ex_ixS (v 0 _ (by decide) rfl) ?_ ⟨_, _, rfl, rfl⟩
        refine ex_int ?_
        refine ⟨_, _, _, _, rfl, rfl, rfl, rfl, ?_⟩
        refine ex_int ?_
        refine o_sub ?_
        refine ⟨⟨_, _, rfl, rfl⟩, ?_⟩
        refine ex_int ?_
        refine ⟨_, _, _, _, rfl, rfl, rfl, rfl, ?_⟩
        show SX _ _ _ _ _
        refine sx_nil ?_
        exact ⟨_, _, rfl⟩
      · -- not store[3] > 0
        refine sx_nil ?_
        exact ⟨_, _, rfl⟩
    rintro ρ1 ⟨bs, b2, rfl⟩
    show SX _ _ _ _ _
    refine sx_cons ?_
    refine s_setS (v 0 _ (by decide) rfl) ?_
    refine ex_bin ?_
    refine ex_ixS (v 0 _ (by decide) rfl) ?_ ⟨_, _, rfl, rfl⟩
    refine ex_int ?_
    refine ⟨_, _, _, _, rfl, rfl, rfl, rfl, ?_⟩
    refine ex_int ?_
    refine o_add ?_
    refine ⟨⟨_, _, rfl, rfl⟩, ?_⟩
    refine ex_int ?_
    refine ⟨_, _, _, _, rfl, rfl, rfl, rfl, ?_⟩
    show SX _ _ _ _ _
    refine sx_cons ?_
    refine s_if ?_
    refine tx_cmp ?_
    refine ex_var (v 1 _ (by decide) rfl) rfl ?_
    refine ex_int ?_
    refine o_le ⟨_, rfl, ?_⟩
    refine ⟨fun hc3 => ?_, fun hc3 => ?_⟩
    · -- many <= 1000000000
      refine sx_cons ?_
      refine s_ret ?_
      refine ex_bin ?_
      refine ex_intI b_int ?_
      refine ex_call (glb0 C.c0 (by decide +kernel)) (A.fn (p__law_mix E)) (C.room.mono (by decide)) ?_
      refine ax_cons ?_
      refine ex_var (v 4 _ (by decide) rfl) rfl ?_
      refine ax_cons ?_
      refine ex_ixS (v 0 _ (by decide) rfl) ?_ ⟨_, _, rfl, rfl⟩
      refine ex_int ?_
      refine ⟨_, _, _, _, rfl, rfl, rfl, rfl, ?_⟩
      refine ax_nil ?_
      refine ⟨rfl, _, _, rfl, fun r2 => ?_⟩
      refine ⟨_, rfl, ?_⟩
      refine ex_var (v 1 _ (by decide) rfl) rfl ?_
      refine o_mod (by exact hM0) ?_
      exact ⟨_, ⟨_, rfl, rfl⟩, hk _ _ (Int.emod_nonneg _ (by omega)) (by rw [← hMm]; exact Int.emod_lt_of_pos _ hM0) ⟨_, _, _, _, _, _, _, rfl, hci, hp⟩⟩
    · -- not many <= 1000000000
      refine sx_nil ?_
      show SX _ _ _ _ _
      refine sx_cons ?_
      refine s_asg0 C.c0 (lo 3 _ (by decide) rfl) ?_
      refine ex_int ?_
      show SX _ _ _ _ _
      refine sx_cons ?_
      refine s_for C ?_
      refine ix_range1 b_range ?_
      refine ex_int ?_
      refine ⟨_, rfl, by omega, by omega, ?_⟩
      refine ⟨fun _ ρ1 => ∃ s4 dr, ρ1 = [.ino pp [.lst cells, .int p, .int a, .int b2, .int c, .int (d + 1), .int f], .val (.int M), s4, .val (.int dr), .val (.int bs)], ⟨_, _, rfl⟩, ?_, ?_⟩
      · -- a turn
        rintro i d0 ρ' hd ⟨s4, dr, rfl⟩
        obtain ⟨j, hj, rfl⟩ := mem_steps (List.mem_of_getElem? hd)
        refine gx_name C (lo 2 _ (by decide) rfl) ?_
        refine sx_cons ?_
        refine s_asg0 C.c0 (lo 3 _ (by decide) rfl) ?_
        refine ex_bin ?_
        refine ex_bin ?_
        refine ex_var (v 3 _ (by decide) rfl) rfl ?_
        refine ex_int ?_
        refine o_mul (by exact .inr ⟨by omega, by omega⟩) ?_
        refine ex_bin ?_
        refine ex_intI b_int ?_
        refine ex_call (glb0 C.c0 (by decide +kernel)) (A.fn (p__law_mix E)) (C.room.mono (by decide)) ?_
        refine ax_cons ?_
        refine ex_bin ?_
        refine ex_var (v 4 _ (by decide) rfl) rfl ?_
        refine ex_var (v 2 _ (by decide) rfl) rfl ?_
        refine o_add ?_
        refine ax_cons ?_
        refine ex_ixS (v 0 _ (by decide) rfl) ?_ ⟨_, _, rfl, rfl⟩
        refine ex_int ?_
        refine ⟨_, _, _, _, rfl, rfl, rfl, rfl, ?_⟩
        refine ax_nil ?_
        refine ⟨rfl, _, _, rfl, fun r2 => ?_⟩
        refine ⟨_, rfl, ?_⟩
        refine ex_int ?_
        refine o_mod (by decide) ?_
        refine o_add ?_
        show SX _ _ _ _ _
        refine sx_nil ?_
        exact ⟨_, _, rfl⟩
      · -- behind it
        rintro ρ' ⟨s4, dr, rfl⟩
        show SX _ _ _ _ _
        refine sx_cons ?_
        refine s_ret ?_
        refine ex_bin ?_
        refine ex_intI b_int ?_
        refine ex_var (v 3 _ (by decide) rfl) rfl ?_
        refine ⟨_, rfl, ?_⟩
        refine ex_var (v 1 _ (by decide) rfl) rfl ?_
        refine o_mod (by exact hM0) ?_
        exact ⟨_, ⟨_, rfl, rfl⟩, hk _ _ (Int.emod_nonneg _ (by omega)) (by rw [← hMm]; exact Int.emod_lt_of_pos _ hM0) ⟨_, _, _, _, _, _, _, rfl, hci, hp⟩⟩
def S__law_edge : Spec := TakeS
theorem p__law_edge (E : En K mg) : FnD P w K mg base 4 "_law_edge" ["store", "many"] S__law_edge := by
  obtain ⟨fd, Fu⟩ := E.fn dd__law_edge (fn_at 13 rfl)
  refine def_of (N := ["store", "many", "kind"]) (st := st__law_edge) (E.glo "_law_edge" (fa_at 54 rfl)) Fu (FunD.bindsN (ps := ["store", "many"]) Fu fun _ _ _ _ _ _ us hl => match us, hl with | [_, _], _ => rfl) ⟨rfl, rfl, rfl, by decide +kernel, rfl, by decide +kernel, by decide +kernel⟩ ?_ ?_
  · intro o as Φ hS
    obtain ⟨st, many, ho, ea, hs, hm, hk⟩ := hS
    subst ea ho; rfl
  intro X A W o as Φ hS B
  obtain ⟨st, many, ho, ea, hs, hm, hk⟩ := hS
  subst ea
  obtain ⟨pp, rfl⟩ := o_some ho
  have C := B.c
  have v := vars_m C.c0 3 (by decide +kernel)
  have lo := locs_m C.c0 B.fn 3 (by decide +kernel)
  have b_max := blt0 (x := "max") C.c0 (A.gl (E.free "max" (fa_at 82 rfl))) bt_max (by decide +kernel)
  show SX X W (defBody st__law_edge) [.ino pp st, .val (.int many), .no] (Fin (some (pp, _)) Φ)
  refine sx_cons ?_
  refine s_asg0 C.c0 (lo 2 _ (by decide) rfl) ?_
  refine ex_callS (glb0 C.c0 (by decide +kernel)) (A.fn (p__law_take E)) (C.room.mono (by decide)) (v 0 _ (by decide) rfl) ⟨_, _, rfl, rfl⟩ ?_
  refine ax_cons ?_
  refine ex_int ?_
  refine ax_nil ?_
  refine ⟨_, _, rfl, rfl, ?_⟩
  refine ⟨_, _, rfl, rfl, hs, sml_of (by decide), ?_⟩
  rintro k st k0 k1 hs
  show SX _ _ _ _ _
  refine sx_cons ?_
  refine s_if ?_
  refine tx_cmp ?_
  refine ex_var (v 2 _ (by decide) rfl) rfl ?_
  refine ex_int ?_
  refine o_eqI ⟨_, rfl, ?_⟩
  refine ⟨fun hc0 => ?_, fun hc0 => ?_⟩
  · -- kind == 0
    refine sx_cons ?_
    refine s_ret ?_
    refine ex_int ?_
    exact ⟨_, ⟨_, rfl, rfl⟩, hk _ _ (by omega) (by omega) hs⟩
  · -- not kind == 0
    refine sx_nil ?_
    show SX _ _ _ _ _
    refine sx_cons ?_
    refine s_if ?_
    refine tx_cmp ?_
    refine ex_var (v 2 _ (by decide) rfl) rfl ?_
    refine ex_int ?_
    refine o_eqI ⟨_, rfl, ?_⟩
    refine ⟨fun hc1 => ?_, fun hc1 => ?_⟩
    · -- kind == 1
      refine sx_cons ?_
      refine s_ret ?_
      refine ex_max2 C.calm b_max ?_
      refine ax_cons ?_
      refine ex_int ?_
      refine ax_cons ?_
      refine ex_bin ?_
      refine ex_var (v 1 _ (by decide) rfl) rfl ?_
      refine ex_int ?_
      refine o_sub ?_
      refine ax_nil ?_
      refine ⟨_, _, rfl, ?_⟩
      exact ⟨_, ⟨_, rfl, rfl⟩, hk _ _ (by first | omega | (split <;> omega)) (by first | omega | (split <;> omega)) hs⟩
    · -- not kind == 1
      refine sx_nil ?_
      show SX _ _ _ _ _
      refine sx_cons ?_
      refine s_ret ?_
      refine ex_callS (glb0 C.c0 (by decide +kernel)) (A.fn (p__law_take E)) (C.room.mono (by decide)) (v 0 _ (by decide) rfl) ⟨_, _, rfl, rfl⟩ ?_
      refine ax_cons ?_
      refine ex_var (v 1 _ (by decide) rfl) rfl ?_
      refine ax_nil ?_
      refine ⟨_, _, rfl, rfl, ?_⟩
      refine ⟨_, _, rfl, rfl, hs, hm, ?_⟩
      rintro j st j0 j1 hs
      exact ⟨_, ⟨_, rfl, rfl⟩, hk _ _ (by omega) (by omega) hs⟩
def S__law_rare : Spec := fun o as Φ => ∃ st many, o = some st ∧ as = [.int many] ∧ StOk st ∧ Sml many ∧ ∀ (b : Bool) st2, StOk st2 → Φ (.ret (.bl b) (some st2))
theorem p__law_rare (E : En K mg) : FnD P w K mg base 4 "_law_rare" ["store", "many"] S__law_rare := by
  obtain ⟨fd, Fu⟩ := E.fn dd__law_rare (fn_at 14 rfl)
  refine def_of (N := ["store", "many"]) (st := st__law_rare) (E.glo "_law_rare" (fa_at 55 rfl)) Fu (FunD.bindsN (ps := ["store", "many"]) Fu fun _ _ _ _ _ _ us hl => match us, hl with | [_, _], _ => rfl) ⟨rfl, rfl, rfl, by decide +kernel, rfl, by decide +kernel, by decide +kernel⟩ ?_ ?_
  · intro o as Φ hS
    obtain ⟨st, many, ho, ea, hs, hm, hk⟩ := hS
    subst ea ho; rfl
  intro X A W o as Φ hS B
  obtain ⟨st, many, ho, ea, hs, hm, hk⟩ := hS
  subst ea
  obtain ⟨pp, rfl⟩ := o_some ho
  have C := B.c
  have v := vars_m C.c0 2 (by decide +kernel)
  have lo := locs_m C.c0 B.fn 2 (by decide +kernel)
  show SX X W (defBody st__law_rare) [.ino pp st, .val (.int many)] (Fin (some (pp, _)) Φ)
  refine sx_cons ?_
  refine s_ret ?_
  refine ex_cmp ?_
  refine ex_callS (glb0 C.c0 (by decide +kernel)) (A.fn (p__law_take E)) (C.room.mono (by decide)) (v 0 _ (by decide) rfl) ⟨_, _, rfl, rfl⟩ ?_
  refine ax_cons ?_
  refine ex_var (v 1 _ (by decide) rfl) rfl ?_
  refine ax_nil ?_
  refine ⟨_, _, rfl, rfl, ?_⟩
  refine ⟨_, _, rfl, rfl, hs, hm, ?_⟩
  rintro k st k0 k1 hs
  refine ex_int ?_
  refine o_eqI ?_
  exact ⟨_, ⟨_, rfl, rfl⟩, hk _ _ hs⟩
def S__law_one : Spec := fun o as Φ => ∃ st ts, o = some st ∧ as = [.lst ts] ∧ StOk st ∧ 0 < ts.length ∧ ts.length < 2 ^ 60 ∧ ∀ d st2, d ∈ ts → StOk st2 → Φ (.ret d (some st2))
theorem p__law_one (E : En K mg) : FnD P w K mg base 4 "_law_one" ["store", "things"] S__law_one := by
  obtain ⟨fd, Fu⟩ := E.fn dd__law_one (fn_at 15 rfl)
  refine def_of (N := ["store", "things"]) (st := st__law_one) (E.glo "_law_one" (fa_at 56 rfl)) Fu (FunD.bindsN (ps := ["store", "things"]) Fu fun _ _ _ _ _ _ us hl => match us, hl with | [_, _], _ => rfl) ⟨rfl, rfl, rfl, by decide +kernel, rfl, by decide +kernel, by decide +kernel⟩ ?_ ?_
  · intro o as Φ hS
    obtain ⟨st, ts, ho, ea, hs, hl0, hl1, hk⟩ := hS
    subst ea ho; rfl
  intro X A W o as Φ hS B
  obtain ⟨st, ts, ho, ea, hs, hl0, hl1, hk⟩ := hS
  subst ea
  obtain ⟨pp, rfl⟩ := o_some ho
  have C := B.c
  have v := vars_m C.c0 2 (by decide +kernel)
  have lo := locs_m C.c0 B.fn 2 (by decide +kernel)
  have b_len := blt0 (x := "len") C.c0 (A.gl (E.free "len" (fa_at 80 rfl))) bt_len (by decide +kernel)
  show SX X W (defBody st__law_one) [.ino pp st, .val (.lst ts)] (Fin (some (pp, _)) Φ)
  refine sx_cons ?_
  refine s_ret ?_
  refine ex_ix ?_
  refine ex_var (v 1 _ (by decide) rfl) rfl ?_
  refine ex_callS (glb0 C.c0 (by decide +kernel)) (A.fn (p__law_take E)) (C.room.mono (by decide)) (v 0 _ (by decide) rfl) ⟨_, _, rfl, rfl⟩ ?_
  refine ax_cons ?_
  refine ex_len b_len ?_
  refine ex_var (v 1 _ (by decide) rfl) rfl ?_
  refine ⟨_, rfl, ?_⟩
  refine ax_nil ?_
  refine ⟨_, _, rfl, rfl, ?_⟩
  refine ⟨_, _, rfl, rfl, hs, sml_abs (by omega) (by omega), ?_⟩
  rintro k st k0 k1 hs
  obtain ⟨e1, he1, he2⟩ := atI_of (ds := ts) k0 (by omega)
  refine ⟨_, _, _, rfl, rfl, he1, ?_⟩
  exact ⟨_, ⟨_, rfl, rfl⟩, hk _ _ (List.mem_of_getElem? he2) hs⟩
def S__law_length : Spec := fun o as Φ => ∃ st most, o = some st ∧ as = [.int most] ∧ StOk st ∧ 0 ≤ most ∧ most < 2 ^ 50 ∧ ∀ k st2, 0 ≤ k → k ≤ most → StOk st2 → Φ (.ret (.int k) (some st2))
theorem p__law_length (E : En K mg) : FnD P w K mg base 4 "_law_length" ["store", "most"] S__law_length := by
  obtain ⟨fd, Fu⟩ := E.fn dd__law_length (fn_at 16 rfl)
  refine def_of (N := ["store", "most", "kind"]) (st := st__law_length) (E.glo "_law_length" (fa_at 57 rfl)) Fu (FunD.bindsN (ps := ["store", "most"]) Fu fun _ _ _ _ _ _ us hl => match us, hl with | [_, _], _ => rfl) ⟨rfl, rfl, rfl, by decide +kernel, rfl, by decide +kernel, by decide +kernel⟩ ?_ ?_
  · intro o as Φ hS
    obtain ⟨st, most, ho, ea, hs, hm0, hm1, hk⟩ := hS
    subst ea ho; rfl
  intro X A W o as Φ hS B
  obtain ⟨st, most, ho, ea, hs, hm0, hm1, hk⟩ := hS
  subst ea
  obtain ⟨pp, rfl⟩ := o_some ho
  have C := B.c
  have v := vars_m C.c0 3 (by decide +kernel)
  have lo := locs_m C.c0 B.fn 3 (by decide +kernel)
  have b_min := blt0 (x := "min") C.c0 (A.gl (E.free "min" (fa_at 83 rfl))) bt_min (by decide +kernel)
  show SX X W (defBody st__law_length) [.ino pp st, .val (.int most), .no] (Fin (some (pp, _)) Φ)
  refine sx_cons ?_
  refine s_asg0 C.c0 (lo 2 _ (by decide) rfl) ?_
  refine ex_callS (glb0 C.c0 (by decide +kernel)) (A.fn (p__law_take E)) (C.room.mono (by decide)) (v 0 _ (by decide) rfl) ⟨_, _, rfl, rfl⟩ ?_
  refine ax_cons ?_
  refine ex_int ?_
  refine ax_nil ?_
  refine ⟨_, _, rfl, rfl, ?_⟩
  refine ⟨_, _, rfl, rfl, hs, sml_of (by decide), ?_⟩
  rintro k st k0 k1 hs
  show SX _ _ _ _ _
  refine sx_cons ?_
  refine s_if ?_
  refine tx_cmp ?_
  refine ex_var (v 2 _ (by decide) rfl) rfl ?_
  refine ex_int ?_
  refine o_lt ⟨_, rfl, ?_⟩
  refine ⟨fun hc0 => ?_, fun hc0 => ?_⟩
  · -- kind < 2
    have := of_decide_eq_true hc0
    refine sx_cons ?_
    refine s_ret ?_
    refine ex_min2 C.calm b_min ?_
    refine ax_cons ?_
    refine ex_var (v 2 _ (by decide) rfl) rfl ?_
    refine ax_cons ?_
    refine ex_var (v 1 _ (by decide) rfl) rfl ?_
    refine ax_nil ?_
    refine ⟨_, _, rfl, ?_⟩
    exact ⟨_, ⟨_, rfl, rfl⟩, hk _ _ (by first | omega | (split <;> omega)) (by first | omega | (split <;> omega)) hs⟩
  · -- not kind < 2
    refine sx_nil ?_
    show SX _ _ _ _ _
    refine sx_cons ?_
    refine s_if ?_
    refine tx_cmp ?_
    refine ex_var (v 2 _ (by decide) rfl) rfl ?_
    refine ex_int ?_
    refine o_eqI ⟨_, rfl, ?_⟩
    refine ⟨fun hc1 => ?_, fun hc1 => ?_⟩
    · -- kind == 2
      refine sx_cons ?_
      refine s_ret ?_
      refine ex_var (v 1 _ (by decide) rfl) rfl ?_
      exact ⟨_, ⟨_, rfl, rfl⟩, hk _ _ (by omega) (by omega) hs⟩
    · -- not kind == 2
      refine sx_nil ?_
      show SX _ _ _ _ _
      refine sx_cons ?_
      refine s_if ?_
      refine tx_cmp ?_
      refine ex_var (v 2 _ (by decide) rfl) rfl ?_
      refine ex_int ?_
      refine o_lt ⟨_, rfl, ?_⟩
      refine ⟨fun hc2 => ?_, fun hc2 => ?_⟩
      · -- kind < 6
        refine sx_cons ?_
        refine s_ret ?_
        refine ex_callS (glb0 C.c0 (by decide +kernel)) (A.fn (p__law_take E)) (C.room.mono (by decide)) (v 0 _ (by decide) rfl) ⟨_, _, rfl, rfl⟩ ?_
        refine ax_cons ?_
        refine ex_bin ?_
        refine ex_min2 C.calm b_min ?_
        refine ax_cons ?_
        refine ex_var (v 1 _ (by decide) rfl) rfl ?_
        refine ax_cons ?_
        refine ex_int ?_
        refine ax_nil ?_
        refine ⟨_, _, rfl, ?_⟩
        refine ex_int ?_
        refine o_add ?_
        refine ax_nil ?_
        refine ⟨_, _, rfl, rfl, ?_⟩
        refine ⟨_, _, rfl, rfl, hs, sml_abs (by split <;> omega) (by split <;> omega), ?_⟩
        rintro j st j0 j1 hs
        exact ⟨_, ⟨_, rfl, rfl⟩, hk _ _ (by omega) (by split at j1 <;> omega) hs⟩
      · -- not kind < 6
        refine sx_nil ?_
        show SX _ _ _ _ _
        refine sx_cons ?_
        refine s_ret ?_
        refine ex_callS (glb0 C.c0 (by decide +kernel)) (A.fn (p__law_take E)) (C.room.mono (by decide)) (v 0 _ (by decide) rfl) ⟨_, _, rfl, rfl⟩ ?_
        refine ax_cons ?_
        refine ex_bin ?_
        refine ex_var (v 1 _ (by decide) rfl) rfl ?_
        refine ex_int ?_
        refine o_add ?_
        refine ax_nil ?_
        refine ⟨_, _, rfl, rfl, ?_⟩
        refine ⟨_, _, rfl, rfl, hs, sml_abs (by omega) (by omega), ?_⟩
        rintro j st j0 j1 hs
        exact ⟨_, ⟨_, rfl, rfl⟩, hk _ _ (by omega) (by omega) hs⟩
def S__law_shuffled : Spec := fun o as Φ => ∃ st ts, o = some st ∧ as = [.lst ts] ∧ StOk st ∧ ts.length < 2 ^ 20 ∧ ∀ l st2, l.length = ts.length → (∀ d ∈ l, d ∈ ts) → StOk st2 → Φ (.retl l (some st2))
theorem p__law_shuffled (E : En K mg) : FnD P w K mg base 4 "_law_shuffled" ["store", "things"] S__law_shuffled := by
  obtain ⟨fd, Fu⟩ := E.fn dd__law_shuffled (fn_at 17 rfl)
  refine def_of (N := ["store", "things", "left", "out", "turn"]) (st := st__law_shuffled) (E.glo "_law_shuffled" (fa_at 58 rfl)) Fu (FunD.bindsN (ps := ["store", "things"]) Fu fun _ _ _ _ _ _ us hl => match us, hl with | [_, _], _ => rfl) ⟨rfl, rfl, rfl, by decide +kernel, rfl, by decide +kernel, by decide +kernel⟩ ?_ ?_
  · intro o as Φ hS
    obtain ⟨st, ts, ho, ea, hs, hl, hk⟩ := hS
    subst ea ho; rfl
  intro X A W o as Φ hS B
  obtain ⟨st, ts, ho, ea, hs, hl, hk⟩ := hS
  subst ea
  obtain ⟨pp, rfl⟩ := o_some ho
  have C := B.c
  have v := vars_m C.c0 5 (by decide +kernel)
  have lo := locs_m C.c0 B.fn 5 (by decide +kernel)
  have b_len := blt0 (x := "len") C.c0 (A.gl (E.free "len" (fa_at 80 rfl))) bt_len (by decide +kernel)
  have b_list := blt0 (x := "list") C.c0 (A.gl (E.free "list" (fa_at 81 rfl))) bt_list (by decide +kernel)
  have b_range := blt0 (x := "range") C.c0 (A.gl (E.free "range" (fa_at 84 rfl))) bt_range (by decide +kernel)
  show SX X W (defBody st__law_shuffled) [.ino pp st, .val (.lst ts), .no, .no, .no] (Fin (some (pp, _)) Φ)
  refine sx_cons ?_
  refine s_asgN0 C.c0 (lo 2 _ (by decide) rfl) ?_
  refine nx_listOf b_list ?_
  refine ex_var (v 1 _ (by decide) rfl) rfl ?_
  refine ⟨_, rfl, ?_⟩
  show SX _ _ _ _ _
  refine sx_cons ?_
  refine s_asgN0 C.c0 (lo 3 _ (by decide) rfl) ?_
  refine nx_lst ?_
  refine ax_nil ?_
  refine ⟨show 0 ≤ sizeLine from by decide, ?_⟩
  show SX _ _ _ _ _
  refine sx_cons ?_
  refine s_for C ?_
  refine ix_range1 b_range ?_
  refine ex_len b_len ?_
  refine ex_var (v 1 _ (by decide) rfl) rfl ?_
  refine ⟨_, rfl, ?_⟩
  refine ⟨_, rfl, by omega, by omega, ?_⟩
  refine ⟨fun i ρ' => ∃ st l o s4, ρ' = [.ino pp st, .val (.lst ts), .own l, .own o, s4] ∧ StOk st ∧ l.length + i = ts.length ∧ o.length = i ∧ (∀ d ∈ l, d ∈ ts) ∧ (∀ d ∈ o, d ∈ ts), ⟨_, _, _, _, rfl, hs, rfl, rfl, fun _ h => h, fun _ h => by cases h⟩, ?_, ?_⟩
  · -- a turn
    rintro i d0 ρ' hd ⟨st, l, o, s4, rfl, hs, h1, h2, h3, h4⟩
    have hi := (List.getElem?_eq_some_iff.mp hd).1
    rw [steps_len] at hi
    refine gx_name C (lo 4 _ (by decide) rfl) ?_
    refine sx_cons ?_
    refine s_append (v 3 _ (by decide) rfl) ⟨_, _, rfl, rfl⟩ ?_
    refine ex_popAt (v 2 _ (by decide) rfl) ⟨_, _, rfl, rfl⟩ ?_
    refine ex_callS (glb0 C.c0 (by decide +kernel)) (A.fn (p__law_take E)) (C.room.mono (by decide)) (v 0 _ (by decide) rfl) ⟨_, _, rfl, rfl⟩ ?_
    refine ax_cons ?_
    refine ex_lenS b_len (v 2 _ (by decide) rfl) rfl rfl ?_
    refine ax_nil ?_
    refine ⟨_, _, rfl, rfl, ?_⟩
    refine ⟨_, _, rfl, rfl, hs, sml_abs (by omega) (by omega), ?_⟩
    rintro k st k0 k1 hs
    obtain ⟨q, rfl⟩ := Int.eq_ofNat_of_zero_le k0
    refine ⟨_, _, q, _, rfl, rfl, rfl, by omega, List.getElem?_eq_getElem (by omega), ?_⟩
    refine ⟨_, _, rfl, rfl, by rw [sizeLine_eq]; omega, ?_⟩
    show SX _ _ _ _ _
    refine sx_nil ?_
    exact ⟨_, _, _, _, rfl, hs, by have := List.length_eraseIdx_of_lt (show q < l.length by omega); omega, by rw [List.length_append, h2]; rfl, fun d hd => h3 d (List.mem_of_mem_eraseIdx hd), fun d hd => by
      rcases List.mem_append.mp hd with z | z
      · exact h4 d z
      · rw [List.mem_singleton.mp z]; exact h3 _ (List.getElem_mem _)⟩
  · -- behind it
    rintro ρ' ⟨st, l, o, s4, rfl, hs, h1, h2, h3, h4⟩
    rw [steps_len] at h2
    show SX _ _ _ _ _
    refine sx_cons ?_
    refine s_retS (v 3 _ (by decide) rfl) rfl ?_
    exact ⟨_, ⟨_, rfl, rfl⟩, hk _ _ (by omega) h4 hs⟩
def S__law_int : Spec := fun o as Φ => o = none ∧ ∃ d T, as = [d] ∧ d.tyn = some T ∧ Φ (.ret (.bl (D.isW d)) none)
theorem p__law_int (E : En K mg) : FnD P w K mg base 1 "_law_int" ["thing"] S__law_int := by
  obtain ⟨fd, Fu⟩ := E.fn dd__law_int (fn_at 18 rfl)
  refine def_of (N := ["thing"]) (st := st__law_int) (E.glo "_law_int" (fa_at 59 rfl)) Fu (FunD.bindsN (ps := ["thing"]) Fu fun _ _ _ _ _ _ us hl => match us, hl with | [_], _ => rfl) ⟨rfl, rfl, rfl, by decide +kernel, rfl, by decide +kernel, by decide +kernel⟩ ?_ ?_
  · intro o as Φ hS
    obtain ⟨ho, d, T, ea, ht, hk⟩ := hS
    subst ea ho; rfl
  intro X A W o as Φ hS B
  obtain ⟨ho, d, T, ea, ht, hk⟩ := hS
  subst ea
  obtain rfl := o_none ho
  have C := B.c
  have v := vars_m C.c0 1 (by decide +kernel)
  have lo := locs_m C.c0 B.fn 1 (by decide +kernel)
  have b_bool := blt0 (x := "bool") C.c0 (A.gl (E.free "bool" (fa_at 76 rfl))) bt_bool (by decide +kernel)
  have b_int := blt0 (x := "int") C.c0 (A.gl (E.free "int" (fa_at 78 rfl))) bt_int (by decide +kernel)
  have b_isinstance := blt0 (x := "isinstance") C.c0 (A.gl (E.free "isinstance" (fa_at 79 rfl))) bt_isinstance (by decide +kernel)
  show SX X W (defBody st__law_int) [.val d] (Fin none Φ)
  refine sx_cons ?_
  refine s_ret ?_
  refine ex_and ?_
  refine ex_isi (C := "int") b_isinstance ?_
  refine ex_var (v 0 _ (by decide) rfl) rfl ?_
  refine ex_bty b_int.g b_int.m b_int.v ?_
  refine ⟨T, _, rfl, ht, kit_is ht (by simp), ?_⟩
  refine ⟨_, rfl, fun hb0 => ?_, fun hb0 => ?_⟩
  rotate_left
  · exact ⟨none, rfl, by cases d <;> first | exact hk | simp_all [D.isa] | cases ht⟩
  refine ex_one ?_
  refine ex_not ?_
  refine ex_isi (C := "bool") b_isinstance ?_
  refine ex_var (v 0 _ (by decide) rfl) rfl ?_
  refine ex_bty b_bool.g b_bool.m b_bool.v ?_
  refine ⟨T, _, rfl, ht, kit_is ht (by simp), ?_⟩
  refine ⟨_, rfl, ?_⟩
  exact ⟨none, rfl, by cases d <;> first | exact hk | simp_all [D.isa] | cases ht⟩
def S__law_within : Spec := fun o as Φ => o = none ∧ ∃ d T lo1 hi1, as = [d, .int lo1, .int hi1] ∧ d.tyn = some T ∧ Φ (.ret (.bl (d.within lo1 hi1)) none)
theorem p__law_within (E : En K mg) : FnD P w K mg base 2 "_law_within" ["thing", "least", "greatest"] S__law_within := by
  obtain ⟨fd, Fu⟩ := E.fn dd__law_within (fn_at 19 rfl)
  refine def_of (N := ["thing", "least", "greatest"]) (st := st__law_within) (E.glo "_law_within" (fa_at 60 rfl)) Fu (FunD.bindsN (ps := ["thing", "least", "greatest"]) Fu fun _ _ _ _ _ _ us hl => match us, hl with | [_, _, _], _ => rfl) ⟨rfl, rfl, rfl, by decide +kernel, rfl, by decide +kernel, by decide +kernel⟩ ?_ ?_
  · intro o as Φ hS
    obtain ⟨ho, d, T, lo1, hi1, ea, ht, hk⟩ := hS
    subst ea ho; rfl
  intro X A W o as Φ hS B
  obtain ⟨ho, d, T, lo1, hi1, ea, ht, hk⟩ := hS
  subst ea
  obtain rfl := o_none ho
  have C := B.c
  have v := vars_m C.c0 3 (by decide +kernel)
  have lo := locs_m C.c0 B.fn 3 (by decide +kernel)
  show SX X W (defBody st__law_within) [.val d, .val (.int lo1), .val (.int hi1)] (Fin none Φ)
  refine sx_cons ?_
  refine s_ret ?_
  refine ex_and ?_
  refine ex_call (glb0 C.c0 (by decide +kernel)) (A.fn (p__law_int E)) (C.room.mono (by decide)) ?_
  refine ax_cons ?_
  refine ex_var (v 0 _ (by decide) rfl) rfl ?_
  refine ax_nil ?_
  refine ⟨rfl, d, T, rfl, ht, ?_⟩
  refine ⟨_, rfl, fun hb0 => ?_, fun hb0 => ?_⟩
  rotate_left
  · exact ⟨none, rfl, by rw [← within_not hb0]; exact hk⟩
  refine ex_and ?_
  obtain ⟨i, rfl⟩ := isW_of hb0
  refine ex_cmp ?_
  refine ex_var (v 1 _ (by decide) rfl) rfl ?_
  refine ex_var (v 0 _ (by decide) rfl) rfl ?_
  refine o_le ?_
  refine ⟨_, rfl, fun hb1 => ?_, fun hb1 => ?_⟩
  rotate_left
  · exact ⟨none, rfl, by rw [within_int, hb1] at hk; exact hk⟩
  refine ex_one ?_
  refine ex_cmp ?_
  refine ex_var (v 0 _ (by decide) rfl) rfl ?_
  refine ex_var (v 2 _ (by decide) rfl) rfl ?_
  refine o_le ?_
  exact ⟨none, rfl, by rw [within_int, hb1] at hk; exact hk⟩
def S__law_full_order : Spec := fun o as Φ => ∃ st n, o = some st ∧ as = [.int n] ∧ StOk st ∧ 1 ≤ n ∧ n ≤ 6 ∧ ∀ l st2, D.allInt l = true → l.length ≤ 6 → StOk st2 → Φ (.ret (.tup l) (some st2))
theorem p__law_full_order (E : En K mg) : FnD P w K mg base 5 "_law_full_order" ["store", "n"] S__law_full_order := by
  obtain ⟨fd, Fu⟩ := E.fn dd__law_full_order (fn_at 20 rfl)
  refine def_of (N := ["store", "n"]) (st := st__law_full_order) (E.glo "_law_full_order" (fa_at 61 rfl)) Fu (FunD.bindsN (ps := ["store", "n"]) Fu fun _ _ _ _ _ _ us hl => match us, hl with | [_, _], _ => rfl) ⟨rfl, rfl, rfl, by decide +kernel, rfl, by decide +kernel, by decide +kernel⟩ ?_ ?_
  · intro o as Φ hS
    obtain ⟨st, n, ho, ea, hs, hn0, hn1, hk⟩ := hS
    subst ea ho; rfl
  intro X A W o as Φ hS B
  obtain ⟨st, n, ho, ea, hs, hn0, hn1, hk⟩ := hS
  subst ea
  obtain ⟨pp, rfl⟩ := o_some ho
  have C := B.c
  have v := vars_m C.c0 2 (by decide +kernel)
  have lo := locs_m C.c0 B.fn 2 (by decide +kernel)
  have b_list := blt0 (x := "list") C.c0 (A.gl (E.free "list" (fa_at 81 rfl))) bt_list (by decide +kernel)
  have b_range := blt0 (x := "range") C.c0 (A.gl (E.free "range" (fa_at 84 rfl))) bt_range (by decide +kernel)
  have b_tuple := blt0 (x := "tuple") C.c0 (A.gl (E.free "tuple" (fa_at 86 rfl))) bt_tuple (by decide +kernel)
  show SX X W (defBody st__law_full_order) [.ino pp st, .val (.int n)] (Fin (some (pp, _)) Φ)
  refine sx_cons ?_
  refine s_ret ?_
  refine ex_tupleOf b_tuple ?_
  refine ex_callS (glb0 C.c0 (by decide +kernel)) (A.fn (p__law_shuffled E)) (C.room.mono (by decide)) (v 0 _ (by decide) rfl) ⟨_, _, rfl, rfl⟩ ?_
  refine ax_cons ?_
  refine ex_nx ?_
  refine nx_listRg2 C.calm b_list b_range ?_
  refine ex_int ?_
  refine ex_bin ?_
  refine ex_var (v 1 _ (by decide) rfl) rfl ?_
  refine ex_int ?_
  refine o_add ?_
  refine ⟨_, _, rfl, rfl, RgOk.of_le (by omega) (by omega) (by omega) (by omega), ?_⟩
  refine ax_nil ?_
  refine ⟨_, _, rfl, rfl, ?_⟩
  refine ⟨_, _, rfl, rfl, hs, by rw [steps_len]; omega, ?_⟩
  rintro l st hl hm hs
  rw [steps_len] at hl
  refine ⟨_, rfl, ?_⟩
  exact ⟨_, ⟨_, rfl, rfl⟩, hk _ _ (allInt_mem.mpr fun d hd => by obtain ⟨j, _, rfl⟩ := mem_steps (hm d hd); exact ⟨_, rfl⟩) (by omega) hs⟩
def S__law_row : Spec := fun o as Φ => ∃ st n most, o = some st ∧ as = [.int n, .int most] ∧ StOk st ∧ 1 ≤ n ∧ n ≤ 6 ∧ 0 ≤ most ∧ most ≤ 100 ∧ ∀ l st2, D.allInt l = true → (l.length : Int) ≤ most → StOk st2 → Φ (.ret (.tup l) (some st2))
theorem p__law_row (E : En K mg) : FnD P w K mg base 5 "_law_row" ["store", "n", "most"] S__law_row := by
  obtain ⟨fd, Fu⟩ := E.fn dd__law_row (fn_at 21 rfl)
  refine def_of (N := ["store", "n", "most", "row", "doubles", "turn"]) (st := st__law_row) (E.glo "_law_row" (fa_at 62 rfl)) Fu (FunD.bindsN (ps := ["store", "n", "most"]) Fu fun _ _ _ _ _ _ us hl => match us, hl with | [_, _, _], _ => rfl) ⟨rfl, rfl, rfl, by decide +kernel, rfl, by decide +kernel, by decide +kernel⟩ ?_ ?_
  · intro o as Φ hS
    obtain ⟨st, n, most, ho, ea, hs, hn0, hn1, hm0, hm1, hk⟩ := hS
    subst ea ho; rfl
  intro X A W o as Φ hS B
  obtain ⟨st, n, most, ho, ea, hs, hn0, hn1, hm0, hm1, hk⟩ := hS
  subst ea
  obtain ⟨pp, rfl⟩ := o_some ho
  have C := B.c
  have v := vars_m C.c0 6 (by decide +kernel)
  have lo := locs_m C.c0 B.fn 6 (by decide +kernel)
  have b_range := blt0 (x := "range") C.c0 (A.gl (E.free "range" (fa_at 84 rfl))) bt_range (by decide +kernel)
  have b_tuple := blt0 (x := "tuple") C.c0 (A.gl (E.free "tuple" (fa_at 86 rfl))) bt_tuple (by decide +kernel)
  show SX X W (defBody st__law_row) [.ino pp st, .val (.int n), .val (.int most), .no, .no, .no] (Fin (some (pp, _)) Φ)
  refine sx_cons ?_
  refine s_asgN0 C.c0 (lo 3 _ (by decide) rfl) ?_
  refine nx_lst ?_
  refine ax_nil ?_
  refine ⟨show 0 ≤ sizeLine from by decide, ?_⟩
  show SX _ _ _ _ _
  refine sx_cons ?_
  refine s_asg0 C.c0 (lo 4 _ (by decide) rfl) ?_
  refine ex_callS (glb0 C.c0 (by decide +kernel)) (A.fn (p__law_rare E)) (C.room.mono (by decide)) (v 0 _ (by decide) rfl) ⟨_, _, rfl, rfl⟩ ?_
  refine ax_cons ?_
  refine ex_int ?_
  refine ax_nil ?_
  refine ⟨_, _, rfl, rfl, ?_⟩
  refine ⟨_, _, rfl, rfl, hs, sml_of (by decide), ?_⟩
  rintro dbl st hs
  show SX _ _ _ _ _
  refine sx_cons ?_
  refine s_for C ?_
  refine ix_range1 b_range ?_
  refine ex_callS (glb0 C.c0 (by decide +kernel)) (A.fn (p__law_length E)) (C.room.mono (by decide)) (v 0 _ (by decide) rfl) ⟨_, _, rfl, rfl⟩ ?_
  refine ax_cons ?_
  refine ex_var (v 2 _ (by decide) rfl) rfl ?_
  refine ax_nil ?_
  refine ⟨_, _, rfl, rfl, ?_⟩
  refine ⟨_, _, rfl, rfl, hs, hm0, by omega, ?_⟩
  rintro kl st k0 k1 hs
  refine ⟨_, rfl, by omega, by omega, ?_⟩
  refine ⟨fun i ρ' => ∃ st l s5, ρ' = [.ino pp st, .val (.int n), .val (.int most), .own l, .val (.bl dbl), s5] ∧ StOk st ∧ D.allInt l = true ∧ l.length = i, ⟨_, _, _, rfl, hs, rfl, rfl⟩, ?_, ?_⟩
  · -- a turn
    rintro i d0 ρ' hd ⟨st, l, s5, rfl, hs, h1, h2⟩
    have hi := (List.getElem?_eq_some_iff.mp hd).1
    rw [steps_len] at hi
    refine gx_name C (lo 5 _ (by decide) rfl) ?_
    refine sx_cons ?_
    refine s_if ?_
    refine TX.mono (Θ := fun t ρ1 => (t = true → l ≠ []) ∧ ∃ st, ρ1 = [.ino pp st, .val (.int n), .val (.int most), .own l, .val (.bl dbl), .val d0] ∧ StOk st) ?_ ?_
    · -- doubles and row and _law_rare(store, 2)
      refine tx_w ?_
      refine wx_and ?_
      refine tx_truth ?_
      refine ex_var (v 4 _ (by decide) rfl) rfl ?_
      refine ⟨_, rfl, ?_⟩
      refine ⟨fun hb0 => ?_, fun hb0 => ?_⟩
      rotate_left
      · first | exact ⟨(by first | (intro h; cases h; done) | exact fun _ => (by rintro rfl; exact absurd hb1 (by decide))), _, rfl, hs⟩
      refine wx_and ?_
      refine tx_truthS (v 3 _ (by decide) rfl) rfl rfl ?_
      refine ⟨fun hb1 => ?_, fun hb1 => ?_⟩
      rotate_left
      · first | exact ⟨(by first | (intro h; cases h; done) | exact fun _ => (by rintro rfl; exact absurd hb1 (by decide))), _, rfl, hs⟩
      refine wx_and1 ?_
      refine tx_truth ?_
      refine ex_callS (glb0 C.c0 (by decide +kernel)) (A.fn (p__law_rare E)) (C.room.mono (by decide)) (v 0 _ (by decide) rfl) ⟨_, _, rfl, rfl⟩ ?_
      refine ax_cons ?_
      refine ex_int ?_
      refine ax_nil ?_
      refine ⟨_, _, rfl, rfl, ?_⟩
      refine ⟨_, _, rfl, rfl, hs, sml_of (by decide), ?_⟩
      rintro b2 st hs
      refine ⟨_, rfl, ?_⟩
      first | exact ⟨(by first | (intro h; cases h; done) | exact fun _ => (by rintro rfl; exact absurd hb1 (by decide))), _, rfl, hs⟩
    rintro t0 ρ1 ⟨hl0, st, rfl, hs⟩
    refine ⟨fun hc0 => ?_, fun hc0 => ?_⟩
    · -- doubles and row and _law_rare(store, 2)
      refine sx_cons ?_
      refine s_append (v 3 _ (by decide) rfl) ⟨_, _, rfl, rfl⟩ ?_
      obtain ⟨e1, he1, he2⟩ := atI_neg (hl0 hc0)
      refine ex_ixS (v 3 _ (by decide) rfl) ?_ ⟨_, _, rfl, rfl⟩
      refine ex_neg ?_
      refine ex_int ?_
      refine ⟨_, rfl, ?_⟩
      refine ⟨_, _, _, _, rfl, rfl, rfl, he1, ?_⟩
      refine ⟨_, _, rfl, rfl, by rw [sizeLine_eq]; omega, ?_⟩
      show SX _ _ _ _ _
      refine sx_nil ?_
      show SX _ _ _ _ _
      refine sx_nil ?_
      exact ⟨_, _, _, rfl, hs, by rw [allInt_app, h1]; obtain ⟨i, rfl⟩ := allInt_mem.mp h1 _ he2; rfl, by rw [List.length_append, h2]; rfl⟩
    · -- not doubles and row and _law_rare(store, 2)
      refine sx_cons ?_
      refine s_append (v 3 _ (by decide) rfl) ⟨_, _, rfl, rfl⟩ ?_
      refine ex_bin ?_
      refine ex_int ?_
      refine ex_callS (glb0 C.c0 (by decide +kernel)) (A.fn (p__law_take E)) (C.room.mono (by decide)) (v 0 _ (by decide) rfl) ⟨_, _, rfl, rfl⟩ ?_
      refine ax_cons ?_
      refine ex_var (v 1 _ (by decide) rfl) rfl ?_
      refine ax_nil ?_
      refine ⟨_, _, rfl, rfl, ?_⟩
      refine ⟨_, _, rfl, rfl, hs, sml_abs (by omega) (by omega), ?_⟩
      rintro j st j0 j1 hs
      refine o_add ?_
      refine ⟨_, _, rfl, rfl, by rw [sizeLine_eq]; omega, ?_⟩
      show SX _ _ _ _ _
      refine sx_nil ?_
      show SX _ _ _ _ _
      refine sx_nil ?_
      exact ⟨_, _, _, rfl, hs, by rw [allInt_app, h1]; rfl, by rw [List.length_append, h2]; rfl⟩
  · -- behind it
    rintro ρ' ⟨st, l, s5, rfl, hs, h1, h2⟩
    rw [steps_len] at h2
    show SX _ _ _ _ _
    refine sx_cons ?_
    refine s_ret ?_
    refine ex_tupleS b_tuple (v 3 _ (by decide) rfl) rfl rfl ?_
    exact ⟨_, ⟨_, rfl, rfl⟩, hk _ _ h1 (by omega) hs⟩
def S__law_row_at : Spec := fun o as Φ => o = none ∧ ∃ n d, as = [.int n, d] ∧ d.gd = true ∧ Φ (.ret (match rowFault n d with | some z => .int z | none => .non) none)
theorem p__law_row_at (E : En K mg) : FnD P w K mg base 3 "_law_row_at" ["n", "thing"] S__law_row_at := by
  obtain ⟨fd, Fu⟩ := E.fn dd__law_row_at (fn_at 22 rfl)
  refine def_of (N := ["n", "thing", "place"]) (st := st__law_row_at) (E.glo "_law_row_at" (fa_at 63 rfl)) Fu (FunD.bindsN (ps := ["n", "thing"]) Fu fun _ _ _ _ _ _ us hl => match us, hl with | [_, _], _ => rfl) ⟨rfl, rfl, rfl, by decide +kernel, rfl, by decide +kernel, by decide +kernel⟩ ?_ ?_
  · intro o as Φ hS
    obtain ⟨ho, n, d, ea, hg, hk⟩ := hS
    subst ea ho; rfl
  intro X A W o as Φ hS B
  obtain ⟨ho, n, d, ea, hg, hk⟩ := hS
  subst ea
  obtain rfl := o_none ho
  have C := B.c
  have v := vars_m C.c0 3 (by decide +kernel)
  have lo := locs_m C.c0 B.fn 3 (by decide +kernel)
  have b_isinstance := blt0 (x := "isinstance") C.c0 (A.gl (E.free "isinstance" (fa_at 79 rfl))) bt_isinstance (by decide +kernel)
  have b_len := blt0 (x := "len") C.c0 (A.gl (E.free "len" (fa_at 80 rfl))) bt_len (by decide +kernel)
  have b_range := blt0 (x := "range") C.c0 (A.gl (E.free "range" (fa_at 84 rfl))) bt_range (by decide +kernel)
  have b_tuple := blt0 (x := "tuple") C.c0 (A.gl (E.free "tuple" (fa_at 86 rfl))) bt_tuple (by decide +kernel)
  obtain ⟨T, ht⟩ := gd_tyn hg
  show SX X W (defBody st__law_row_at) [.val (.int n), .val d, .no] (Fin none Φ)
  refine sx_cons ?_
  refine s_if ?_
  refine tx_not ?_
  refine tx_truth ?_
  refine ex_isi (C := "tuple") b_isinstance ?_
  refine ex_var (v 1 _ (by decide) rfl) rfl ?_
  refine ex_bty b_tuple.g b_tuple.m b_tuple.v ?_
  refine ⟨T, _, rfl, ht, kit_is ht (by simp), ?_⟩
  refine ⟨_, rfl, ?_⟩
  refine ⟨fun hc0 => ?_, fun hc0 => ?_⟩
  · -- not isinstance(thing, tuple)
    have hr : rowFault n d = some 0 := by cases d <;> first | rfl | simp [D.isa] at hc0
    rw [hr] at hk
    refine sx_cons ?_
    refine s_ret ?_
    refine ex_int ?_
    exact ⟨none, rfl, hk⟩
  · -- not not isinstance(thing, tuple)
    obtain ⟨ds, rfl⟩ : ∃ ds, d = .tup ds := by cases d <;> first | exact ⟨_, rfl⟩ | simp [D.isa] at hc0
    refine sx_nil ?_
    show SX _ _ _ _ _
    refine sx_cons ?_
    refine s_if ?_
    refine tx_cmp ?_
    refine ex_len b_len ?_
    refine ex_var (v 1 _ (by decide) rfl) rfl ?_
    refine ⟨_, rfl, ?_⟩
    refine ex_int ?_
    refine o_gt ⟨_, rfl, ?_⟩
    refine ⟨fun hc1 => ?_, fun hc1 => ?_⟩
    · -- len(thing) > 40
      have hr : rowFault n (.tup ds) = some (-1) := by show (if 40 < ds.length then some (-1) else _) = some (-1 : Int); rw [if_pos (by have := of_decide_eq_true hc1; omega)]
      rw [hr] at hk
      refine sx_cons ?_
      refine s_ret ?_
      refine ex_neg ?_
      refine ex_int ?_
      refine ⟨_, rfl, ?_⟩
      exact ⟨none, rfl, hk⟩
    · -- not len(thing) > 40
      have hl : ¬ 40 < ds.length := by have := of_decide_eq_false hc1; omega
      refine sx_nil ?_
      show SX _ _ _ _ _
      refine sx_cons ?_
      refine s_for C ?_
      refine ix_range1 b_range ?_
      refine ex_len b_len ?_
      refine ex_var (v 1 _ (by decide) rfl) rfl ?_
      refine ⟨_, rfl, ?_⟩
      refine ⟨_, rfl, by omega, by omega, ?_⟩
      refine ⟨fun i ρ' => ∃ s2, ρ' = [.val (.int n), .val (.tup ds), s2] ∧ ∀ j e, j < i → ds[j]? = some e → e.within 1 n = true, ⟨_, rfl, fun j e h => absurd h (Nat.not_lt_zero _)⟩, ?_, ?_⟩
      · -- a turn
        rintro i d0 ρ' hd ⟨s2, rfl, hJ⟩
        have hi := (List.getElem?_eq_some_iff.mp hd).1
        rw [steps_len] at hi
        rw [steps_get (by omega)] at hd
        cases hd
        rw [show (0 : Int) + (i : Int) * 1 = (i : Int) by omega]
        obtain ⟨e, he⟩ : ∃ e, ds[i]? = some e := ⟨_, List.getElem?_eq_getElem (by omega)⟩
        obtain ⟨Te, hte⟩ := gd_tyn (gd_at (by simpa [D.gd] using hg) he)
        refine gx_name C (lo 2 _ (by decide) rfl) ?_
        refine sx_cons ?_
        refine s_if ?_
        refine tx_not ?_
        refine tx_truth ?_
        refine ex_call (glb0 C.c0 (by decide +kernel)) (A.fn (p__law_within E)) (C.room.mono (by decide)) ?_
        refine ax_cons ?_
        refine ex_ix ?_
        refine ex_var (v 1 _ (by decide) rfl) rfl ?_
        refine ex_var (v 2 _ (by decide) rfl) rfl ?_
        refine ⟨_, _, _, rfl, rfl, atI_nat he, ?_⟩
        refine ax_cons ?_
        refine ex_int ?_
        refine ax_cons ?_
        refine ex_var (v 0 _ (by decide) rfl) rfl ?_
        refine ax_nil ?_
        refine ⟨rfl, e, Te, _, _, rfl, hte, ?_⟩
        refine ⟨_, rfl, ?_⟩
        refine ⟨fun hc2 => ?_, fun hc2 => ?_⟩
        · -- not _law_within(thing[place], 1, n)
          refine sx_cons ?_
          refine s_ret ?_
          refine ex_bin ?_
          refine ex_var (v 2 _ (by decide) rfl) rfl ?_
          refine ex_int ?_
          refine o_add ?_
          have hf := firstBad_at (p := fun e => e.within 1 n) he (by simpa using hc2) hJ
          have hr : rowFault n (.tup ds) = some ((i : Int) + 1) := by show (if 40 < ds.length then some (-1) else (firstBad (fun e => e.within 1 n) ds).map fun (j : Nat) => (j : Int)) = _; rw [if_neg hl, hf]; rfl
          rw [hr] at hk
          exact ⟨none, rfl, hk⟩
        · -- not not _law_within(thing[place], 1, n)
          refine sx_nil ?_
          show SX _ _ _ _ _
          refine sx_nil ?_
          exact ⟨_, rfl, fun j f hj hf => by
            rcases Nat.lt_succ_iff_lt_or_eq.mp hj with h | h
            · exact hJ j f h hf
            · subst h; rw [he] at hf; cases hf; simpa using hc2⟩
      · -- behind it
        rintro ρ' ⟨s2, rfl, hJ⟩
        rw [steps_len] at hJ
        have hf : firstBad (fun e => e.within 1 n) ds = none := firstBad_none.mpr fun e he => by obtain ⟨j, hj, ej⟩ := List.mem_iff_getElem.mp he; exact hJ j e (by omega) (by rw [List.getElem?_eq_getElem hj, ej])
        have hr : rowFault n (.tup ds) = none := by show (if 40 < ds.length then some (-1) else (firstBad (fun e => e.within 1 n) ds).map fun (j : Nat) => (j : Int)) = _; rw [if_neg hl, hf]; rfl
        rw [hr] at hk
        show SX _ _ _ _ _
        refine sx_cons ?_
        refine s_ret ?_
        refine ex_non ?_
        exact ⟨none, rfl, hk⟩
def S__law_n : Spec := fun o as Φ => ∃ st, o = some st ∧ as = [] ∧ StOk st ∧ ∀ n st2, 1 ≤ n → n ≤ 6 → StOk st2 → Φ (.ret (.int n) (some st2))
theorem p__law_n (E : En K mg) : FnD P w K mg base 5 "_law_n" ["store"] S__law_n := by
  obtain ⟨fd, Fu⟩ := E.fn dd__law_n (fn_at 23 rfl)
  refine def_of (N := ["store"]) (st := st__law_n) (E.glo "_law_n" (fa_at 64 rfl)) Fu (FunD.bindsN (ps := ["store"]) Fu fun _ _ _ _ _ _ us hl => match us, hl with | [_], _ => rfl) ⟨rfl, rfl, rfl, by decide +kernel, rfl, by decide +kernel, by decide +kernel⟩ ?_ ?_
  · intro o as Φ hS
    obtain ⟨st, ho, ea, hs, hk⟩ := hS
    subst ea ho; rfl
  intro X A W o as Φ hS B
  obtain ⟨st, ho, ea, hs, hk⟩ := hS
  subst ea
  obtain ⟨pp, rfl⟩ := o_some ho
  have C := B.c
  have v := vars_m C.c0 1 (by decide +kernel)
  have lo := locs_m C.c0 B.fn 1 (by decide +kernel)
  show SX X W (defBody st__law_n) [.ino pp st] (Fin (some (pp, _)) Φ)
  refine sx_cons ?_
  refine s_ret ?_
  refine ex_callS (glb0 C.c0 (by decide +kernel)) (A.fn (p__law_one E)) (C.room.mono (by decide)) (v 0 _ (by decide) rfl) ⟨_, _, rfl, rfl⟩ ?_
  refine ax_cons ?_
  refine ex_nx ?_
  refine nx_lst ?_
  refine ax_cons ?_
  refine ex_int ?_
  refine ax_cons ?_
  refine ex_int ?_
  refine ax_cons ?_
  refine ex_int ?_
  refine ax_cons ?_
  refine ex_int ?_
  refine ax_cons ?_
  refine ex_int ?_
  refine ax_cons ?_
  refine ex_int ?_
  refine ax_cons ?_
  refine ex_int ?_
  refine ax_cons ?_
  refine ex_int ?_
  refine ax_nil ?_
  refine ⟨show 8 ≤ sizeLine from by decide, ?_⟩
  refine ax_nil ?_
  refine ⟨_, _, rfl, rfl, ?_⟩
  refine ⟨_, _, rfl, rfl, hs, by decide, by decide, ?_⟩
  rintro d st hd hs
  obtain ⟨n, rfl, n0, n1⟩ : ∃ n : Int, d = .int n ∧ 1 ≤ n ∧ n ≤ 6 := by
    simp at hd
    rcases hd with rfl | rfl | rfl | rfl | rfl | rfl | rfl | rfl <;> exact ⟨_, rfl, by decide, by decide⟩
  exact ⟨_, ⟨_, rfl, rfl⟩, hk _ _ n0 n1 hs⟩
/-- the kinds of a datum -/
def kindsL (x : D) : List D := [.bl (x.isa "bool"), .bl (x.isa "int"), .bl (x.isa "str"), .bl (x.isa "list"), .bl (x.isa "tuple"), .bl x.isNon]
theorem kindsL_in {x : D} (h : x.gd = true) : (D.bl true).inL (kindsL x) = true := by cases x <;> first | rfl | cases h
theorem kindsL_seq {x : D} (h : x.gd = true) : (x.isa "list" || x.isa "tuple") = x.seq?.isSome := by cases x <;> first | rfl | cases h
theorem len_le_nodes {ds : List D} : ds.length ≤ D.nodesL ds := by
  induction ds with
  | nil => exact Nat.le_refl _
  | cons d ds ih => have := nodes_pos (d := d); simp only [D.nodesL, List.length_cons]; omega
theorem zipD_self {ds : List D} : zipD ds ds = ds.map fun x => .tup [x, x] := by
  unfold zipD
  induction ds with
  | nil => rfl
  | cons d ds ih => rw [List.zipWith_cons_cons, ih]; rfl
theorem seq_nodes {x : D} {ds : List D} (h : x.seq? = some ds) (hg : x.gd = true) : x.nodes = 1 + D.nodesL ds ∧ D.gdL ds = true := by
  cases x <;> cases h <;> first | exact ⟨rfl, hg⟩ | cases hg
theorem seq_scal {x : D} (h : x.seq? = none) (hg : x.gd = true) : x.isFlat = true ∧ scal x.fv x.fv = true := by
  cases x <;> first | exact ⟨rfl, rfl⟩ | (cases hg; done) | (cases h; done)
def S__law_match : Spec := fun o as Φ => o = none ∧ ∃ d, as = [d, d] ∧ d.gd = true ∧ d.nodes < 1000000 ∧ Φ (.ret (.bl true) none)
theorem p__law_match (E : En K mg) : FnD P w K mg base 1 "_law_match" ["given", "due"] S__law_match := by
  obtain ⟨fd, Fu⟩ := E.fn dd__law_match (fn_at 24 rfl)
  refine def_of (N := ["given", "due", "pairs", "turn", "left", "right", "marks", "thing"]) (st := st__law_match) (E.glo "_law_match" (fa_at 65 rfl)) Fu (FunD.bindsN (ps := ["given", "due"]) Fu fun _ _ _ _ _ _ us hl => match us, hl with | [_, _], _ => rfl) ⟨rfl, rfl, rfl, by decide +kernel, rfl, by decide +kernel, by decide +kernel⟩ ?_ ?_
  · intro o as Φ hS
    obtain ⟨ho, d, ea, hg, hn, hk⟩ := hS
    subst ea ho; rfl
  intro X A W o as Φ hS B
  obtain ⟨ho, d, ea, hg, hn, hk⟩ := hS
  subst ea
  obtain rfl := o_none ho
  have C := B.c
  have v := vars_m C.c0 8 (by decide +kernel)
  have lo := locs_m C.c0 B.fn 8 (by decide +kernel)
  have b_bool := blt0 (x := "bool") C.c0 (A.gl (E.free "bool" (fa_at 76 rfl))) bt_bool (by decide +kernel)
  have b_int := blt0 (x := "int") C.c0 (A.gl (E.free "int" (fa_at 78 rfl))) bt_int (by decide +kernel)
  have b_isinstance := blt0 (x := "isinstance") C.c0 (A.gl (E.free "isinstance" (fa_at 79 rfl))) bt_isinstance (by decide +kernel)
  have b_len := blt0 (x := "len") C.c0 (A.gl (E.free "len" (fa_at 80 rfl))) bt_len (by decide +kernel)
  have b_list := blt0 (x := "list") C.c0 (A.gl (E.free "list" (fa_at 81 rfl))) bt_list (by decide +kernel)
  have b_range := blt0 (x := "range") C.c0 (A.gl (E.free "range" (fa_at 84 rfl))) bt_range (by decide +kernel)
  have b_str := blt0 (x := "str") C.c0 (A.gl (E.free "str" (fa_at 85 rfl))) bt_str (by decide +kernel)
  have b_tuple := blt0 (x := "tuple") C.c0 (A.gl (E.free "tuple" (fa_at 86 rfl))) bt_tuple (by decide +kernel)
  have b_zip := blt0 (x := "zip") C.c0 (A.gl (E.free "zip" (fa_at 87 rfl))) bt_zip (by decide +kernel)
  show SX X W (defBody st__law_match) [.val d, .val d, .no, .no, .no, .no, .no, .no] (Fin none Φ)
  refine sx_cons ?_
  refine s_asgN0 C.c0 (lo 2 _ (by decide) rfl) ?_
  refine nx_lst ?_
  refine ax_cons ?_
  refine ex_tup ?_
  refine ax_cons ?_
  refine ex_var (v 0 _ (by decide) rfl) rfl ?_
  refine ax_cons ?_
  refine ex_var (v 1 _ (by decide) rfl) rfl ?_
  refine ax_nil ?_
  refine ⟨show 2 ≤ sizeLine from by decide, ?_⟩
  refine ax_nil ?_
  refine ⟨show 1 ≤ sizeLine from by decide, ?_⟩
  show SX _ _ _ _ _
  refine sx_cons ?_
  refine s_for C ?_
  refine ix_range1 b_range ?_
  refine ex_int ?_
  refine ⟨_, rfl, by omega, by omega, ?_⟩
  refine ⟨fun i ρ' => ∃ xs s3 s4 s5 s6 s7, ρ' = [.val d, .val d, .own (xs.map fun x => .tup [x, x]), s3, s4, s5, s6, s7] ∧ D.gdL xs = true ∧ D.nodesL xs + i < 1000000, ⟨[d], _, _, _, _, _, rfl, by simp [D.gdL, hg], by simp [D.nodesL]; omega⟩, ?_, ?_⟩
  · -- a turn
    rintro i d0 ρ' hd ⟨xs, s3, s4, s5, s6, s7, rfl, hx, hx2⟩
    refine gx_name C (lo 3 _ (by decide) rfl) ?_
    refine sx_cons ?_
    refine s_if ?_
    refine tx_cmp ?_
    refine ex_lenS b_len (v 2 _ (by decide) rfl) rfl rfl ?_
    refine ex_int ?_
    refine o_eqI ⟨_, rfl, ?_⟩
    refine ⟨fun hc0 => ?_, fun hc0 => ?_⟩
    · -- len(pairs) == 0
      refine sx_cons ?_
      refine s_ret ?_
      refine ex_bl ?_
      exact ⟨none, rfl, hk⟩
    · -- not len(pairs) == 0
      refine sx_nil ?_
      show SX _ _ _ _ _
      refine sx_cons ?_
      refine s_asgT ?_
      obtain ⟨ys, x, rfl⟩ : ∃ ys x, xs = ys ++ [x] := by
        rcases List.eq_nil_or_concat xs with z | ⟨ys, x, z⟩
        · subst z; exact absurd hc0 (by decide)
        · exact ⟨ys, x, by rw [z, List.concat_eq_append]⟩
      rw [gdL_app, Bool.and_eq_true] at hx
      have hgx : x.gd = true := gdL_iff.mp hx.2 x (by simp)
      obtain ⟨T, ht⟩ := gd_tyn hgx
      rw [nodesL_app] at hx2
      have hnx : D.nodesL [x] = x.nodes := rfl
      rw [List.map_append]
      refine ex_pop0 (v 2 _ (by decide) rfl) rfl rfl ?_
      refine gx_tup C.calm ?_ rfl
      refine gsx_cons ?_
      refine gx_name C (lo 4 _ (by decide) rfl) ?_
      refine gsx_cons ?_
      refine gx_name C (lo 5 _ (by decide) rfl) ?_
      refine gsx_nil ?_
      show SX _ _ _ _ _
      refine sx_cons ?_
      refine s_asgN0 C.c0 (lo 6 _ (by decide) rfl) ?_
      refine nx_lst ?_
      refine ax_nil ?_
      refine ⟨show 0 ≤ sizeLine from by decide, ?_⟩
      show SX _ _ _ _ _
      refine sx_cons ?_
      refine s_for C ?_
      refine ix_list ?_
      refine ex_nx ?_
      refine nx_lst ?_
      refine ax_cons ?_
      refine ex_var (v 4 _ (by decide) rfl) rfl ?_
      refine ax_cons ?_
      refine ex_var (v 5 _ (by decide) rfl) rfl ?_
      refine ax_nil ?_
      refine ⟨show 2 ≤ sizeLine from by decide, ?_⟩
      refine ⟨_, .inl rfl, ?_⟩
      refine ⟨fun j ρ' => ∃ s7, ρ' = [.val d, .val d, .own (ys.map fun x => .tup [x, x]), .val d0, .val x, .val x, .own (List.replicate j (.lst (kindsL x))), s7], ⟨_, rfl⟩, ?_, ?_⟩
      · -- a turn
        rintro j d1 ρ' hd1 ⟨s7, rfl⟩
        obtain rfl : d1 = x := by simpa using List.mem_of_getElem? hd1
        refine gx_name C (lo 7 _ (by decide) rfl) ?_
        refine sx_cons ?_
        refine s_append (v 6 _ (by decide) rfl) ⟨_, _, rfl, rfl⟩ ?_
        refine ex_nx ?_
        refine nx_lst ?_
        refine ax_cons ?_
        refine ex_isi (C := "bool") b_isinstance ?_
        refine ex_var (v 7 _ (by decide) rfl) rfl ?_
        refine ex_bty b_bool.g b_bool.m b_bool.v ?_
        refine ⟨T, _, rfl, ht, kit_is ht (by simp), ?_⟩
        refine ax_cons ?_
        refine ex_isi (C := "int") b_isinstance ?_
        refine ex_var (v 7 _ (by decide) rfl) rfl ?_
        refine ex_bty b_int.g b_int.m b_int.v ?_
        refine ⟨T, _, rfl, ht, kit_is ht (by simp), ?_⟩
        refine ax_cons ?_
        refine ex_isi (C := "str") b_isinstance ?_
        refine ex_var (v 7 _ (by decide) rfl) rfl ?_
        refine ex_bty b_str.g b_str.m b_str.v ?_
        refine ⟨T, _, rfl, ht, kit_is ht (by simp), ?_⟩
        refine ax_cons ?_
        refine ex_isi (C := "list") b_isinstance ?_
        refine ex_var (v 7 _ (by decide) rfl) rfl ?_
        refine ex_bty b_list.g b_list.m b_list.v ?_
        refine ⟨T, _, rfl, ht, kit_is ht (by simp), ?_⟩
        refine ax_cons ?_
        refine ex_isi (C := "tuple") b_isinstance ?_
        refine ex_var (v 7 _ (by decide) rfl) rfl ?_
        refine ex_bty b_tuple.g b_tuple.m b_tuple.v ?_
        refine ⟨T, _, rfl, ht, kit_is ht (by simp), ?_⟩
        refine ax_cons ?_
        refine ex_cmp ?_
        refine ex_var (v 7 _ (by decide) rfl) rfl ?_
        refine ex_non ?_
        refine o_isN ?_
        refine ax_nil ?_
        refine ⟨show 6 ≤ sizeLine from by decide, ?_⟩
        refine ⟨_, _, rfl, rfl, by rw [List.length_replicate, sizeLine_eq]; have := (List.getElem?_eq_some_iff.mp hd1).1; simp at this; omega, ?_⟩
        show SX _ _ _ _ _
        refine sx_nil ?_
        exact ⟨_, by rw [List.replicate_succ']; rfl⟩
      · -- behind it
        rintro ρ' ⟨s7, rfl⟩
        show SX _ _ _ _ _
        refine sx_cons ?_
        refine s_if ?_
        refine tx_is (false) ?_ ?_
        · -- marks[0] != marks[1] or True not in marks[1]
          refine tx_w ?_
          refine wx_or ?_
          refine tx_cmp ?_
          refine ex_ixS (v 6 _ (by decide) rfl) ?_ ⟨_, _, rfl, rfl⟩
          refine ex_int ?_
          refine ⟨_, _, _, _, rfl, rfl, rfl, rfl, ?_⟩
          refine ex_ixS (v 6 _ (by decide) rfl) ?_ ⟨_, _, rfl, rfl⟩
          refine ex_int ?_
          refine ⟨_, _, _, _, rfl, rfl, rfl, rfl, ?_⟩
          refine o_neD (by have := C.room.un; omega) rfl rfl rfl rfl ⟨_, rfl, ?_⟩
          refine ⟨fun hb0 => ?_, fun hb0 => ?_⟩
          rotate_left
          · first | exact absurd hb0 (by show ¬ (!(PyData.eqv (D.lst (kindsL x)).py (D.lst (kindsL x)).py)) = true; rw [SeqAt.eqv_refl _ (by rfl)]; decide) | exact ⟨by show (!(D.bl true).inL (kindsL x)) = false; rw [kindsL_in hgx]; rfl, rfl⟩
          refine wx_or1 ?_
          refine tx_cmp ?_
          refine ex_bl ?_
          refine ex_ixS (v 6 _ (by decide) rfl) ?_ ⟨_, _, rfl, rfl⟩
          refine ex_int ?_
          refine ⟨_, _, _, _, rfl, rfl, rfl, rfl, ?_⟩
          refine o_notIn rfl rfl rfl ⟨_, rfl, ?_⟩
          first | exact absurd hb0 (by show ¬ (!(PyData.eqv (D.lst (kindsL x)).py (D.lst (kindsL x)).py)) = true; rw [SeqAt.eqv_refl _ (by rfl)]; decide) | exact ⟨by show (!(D.bl true).inL (kindsL x)) = false; rw [kindsL_in hgx]; rfl, rfl⟩
        refine ⟨fun hc1 => ?_, fun hc1 => ?_⟩
        · -- marks[0] != marks[1] or True not in marks[1]
          cases hc1
        · -- not marks[0] != marks[1] or True not in marks[1]
          refine sx_nil ?_
          show SX _ _ _ _ _
          refine sx_cons ?_
          refine s_if ?_
          refine tx_is (x.seq?.isSome) ?_ ?_
          · -- marks[1][3] or marks[1][4]
            refine tx_w ?_
            refine wx_or ?_
            refine tx_truth ?_
            refine ex_ix ?_
            refine ex_ixS (v 6 _ (by decide) rfl) ?_ ⟨_, _, rfl, rfl⟩
            refine ex_int ?_
            refine ⟨_, _, _, _, rfl, rfl, rfl, rfl, ?_⟩
            refine ex_int ?_
            refine ⟨_, _, _, rfl, rfl, rfl, ?_⟩
            refine ⟨_, rfl, ?_⟩
            refine ⟨fun hb0 => ?_, fun hb0 => ?_⟩
            rotate_left
            · first | exact ⟨by rw [← kindsL_seq hgx, show x.isa "list" = true from hb0]; rfl, rfl⟩ | exact ⟨by rw [← kindsL_seq hgx, show x.isa "list" = false from hb0]; rfl, rfl⟩
            refine wx_or1 ?_
            refine tx_truth ?_
            refine ex_ix ?_
            refine ex_ixS (v 6 _ (by decide) rfl) ?_ ⟨_, _, rfl, rfl⟩
            refine ex_int ?_
            refine ⟨_, _, _, _, rfl, rfl, rfl, rfl, ?_⟩
            refine ex_int ?_
            refine ⟨_, _, _, rfl, rfl, rfl, ?_⟩
            refine ⟨_, rfl, ?_⟩
            first | exact ⟨by rw [← kindsL_seq hgx, show x.isa "list" = true from hb0]; rfl, rfl⟩ | exact ⟨by rw [← kindsL_seq hgx, show x.isa "list" = false from hb0]; rfl, rfl⟩
          refine ⟨fun hc2 => ?_, fun hc2 => ?_⟩
          · -- marks[1][3] or marks[1][4]
            obtain ⟨ds, hds⟩ := Option.isSome_iff_exists.mp hc2
            obtain ⟨hn1, hn2⟩ := seq_nodes hds hgx
            have hn3 := len_le_nodes (ds := ds)
            have hn4 := len_le_nodes (ds := ys)
            refine sx_cons ?_
            refine s_if ?_
            refine tx_is (false) ?_ ?_
            · -- len(left) != len(right)
              refine tx_cmp ?_
              refine ex_len b_len ?_
              refine ex_var (v 4 _ (by decide) rfl) rfl ?_
              refine ⟨_, hds, ?_⟩
              refine ex_len b_len ?_
              refine ex_var (v 5 _ (by decide) rfl) rfl ?_
              refine ⟨_, hds, ?_⟩
              refine o_neI ⟨_, rfl, ?_⟩
              exact ⟨by simp, rfl⟩
            refine ⟨fun hc3 => ?_, fun hc3 => ?_⟩
            · -- len(left) != len(right)
              cases hc3
            · -- not len(left) != len(right)
              refine sx_nil ?_
              show SX _ _ _ _ _
              refine sx_cons ?_
              refine s_extend (v 2 _ (by decide) rfl) ⟨_, _, rfl, rfl⟩ ?_
              refine ex_nx ?_
              refine nx_listZip C.calm b_list b_zip ?_
              refine ex_var (v 4 _ (by decide) rfl) rfl ?_
              refine ex_var (v 5 _ (by decide) rfl) rfl ?_
              refine ⟨_, _, hds, hds, rfl, ?_⟩
              refine ⟨_, _, _, rfl, rfl, rfl, by rw [zipD_self, List.length_map, List.length_map, sizeLine_eq]; omega, ?_⟩
              show SX _ _ _ _ _
              refine sx_nil ?_
              show SX _ _ _ _ _
              refine sx_nil ?_
              exact ⟨ys ++ ds, _, _, _, _, _, by rw [List.map_append, ← zipD_self (ds := ds)]; rfl, by rw [gdL_app, hx.1, hn2]; rfl, by rw [nodesL_app]; omega⟩
          · -- not marks[1][3] or marks[1][4]
            have hds : x.seq? = none := by cases h : x.seq? with | none => rfl | some _ => rw [h] at hc2; cases hc2
            have hsc := seq_scal hds hgx
            have hn5 := nodes_pos (d := x)
            refine sx_cons ?_
            refine s_if ?_
            refine tx_is (false) ?_ ?_
            · -- left != right
              refine tx_cmp ?_
              refine ex_var (v 4 _ (by decide) rfl) rfl ?_
              refine ex_var (v 5 _ (by decide) rfl) rfl ?_
              refine o_neF hsc.2 hsc.1 hsc.1 ⟨_, rfl, ?_⟩
              exact ⟨by simp, rfl⟩
            refine ⟨fun hc4 => ?_, fun hc4 => ?_⟩
            · -- left != right
              cases hc4
            · -- not left != right
              refine sx_nil ?_
              show SX _ _ _ _ _
              refine sx_nil ?_
              show SX _ _ _ _ _
              refine sx_nil ?_
              exact ⟨ys, _, _, _, _, _, rfl, hx.1, by omega⟩
  · -- behind it
    rintro ρ' ⟨xs, s3, s4, s5, s6, s7, rfl, hx, hx2⟩
    rw [steps_len] at hx2
    exact absurd hx2 (by omega)
def S__law_odd : Spec := fun o as Φ => ∃ st l lw hi, o = some st ∧ as = [.tup l, .int lw, .int hi] ∧ StOk st ∧ (D.allInt l = true ∧ l.length ≤ 100) ∧ (-(2 ^ 50) < lw ∧ lw < 2 ^ 50) ∧ (-(2 ^ 50) < hi ∧ hi < 2 ^ 50) ∧ ∀ d st2, Few 400 d → StOk st2 → Φ (.ret d (some st2))
theorem p__law_odd (E : En K mg) : FnD P w K mg base 5 "_law_odd" ["store", "things", "least", "greatest"] S__law_odd := by
  obtain ⟨fd, Fu⟩ := E.fn dd__law_odd (fn_at 25 rfl)
  refine def_of (N := ["store", "things", "least", "greatest", "parts", "spot", "figure", "odd", "kind"]) (st := st__law_odd) (E.glo "_law_odd" (fa_at 66 rfl)) Fu (FunD.bindsN (ps := ["store", "things", "least", "greatest"]) Fu fun _ _ _ _ _ _ us hl => match us, hl with | [_, _, _, _], _ => rfl) ⟨rfl, rfl, rfl, by decide +kernel, rfl, by decide +kernel, by decide +kernel⟩ ?_ ?_
  · intro o as Φ hS
    obtain ⟨st, l, lw, hi, ho, ea, hs, hl, hlo, hhi, hk⟩ := hS
    subst ea ho; rfl
  intro X A W o as Φ hS B
  obtain ⟨st, l, lw, hi, ho, ea, hs, hl, hlo, hhi, hk⟩ := hS
  subst ea
  obtain ⟨pp, rfl⟩ := o_some ho
  have C := B.c
  have v := vars_m C.c0 9 (by decide +kernel)
  have lo := locs_m C.c0 B.fn 9 (by decide +kernel)
  have b_isinstance := blt0 (x := "isinstance") C.c0 (A.gl (E.free "isinstance" (fa_at 79 rfl))) bt_isinstance (by decide +kernel)
  have b_len := blt0 (x := "len") C.c0 (A.gl (E.free "len" (fa_at 80 rfl))) bt_len (by decide +kernel)
  have b_list := blt0 (x := "list") C.c0 (A.gl (E.free "list" (fa_at 81 rfl))) bt_list (by decide +kernel)
  have b_tuple := blt0 (x := "tuple") C.c0 (A.gl (E.free "tuple" (fa_at 86 rfl))) bt_tuple (by decide +kernel)
  have hok : OkL 100 l := okL_int hl.1 hl.2
  have hll := hl.2
  show SX X W (defBody st__law_odd) [.ino pp st, .val (.tup l), .val (.int lw), .val (.int hi), .no, .no, .no, .no, .no] (Fin (some (pp, _)) Φ)
  refine sx_cons ?_
  refine s_asgN0 C.c0 (lo 4 _ (by decide) rfl) ?_
  refine nx_listOf b_list ?_
  refine ex_var (v 1 _ (by decide) rfl) rfl ?_
  refine ⟨_, rfl, ?_⟩
  show SX _ _ _ _ _
  refine sx_cons ?_
  refine s_asg0 C.c0 (lo 5 _ (by decide) rfl) ?_
  refine ex_callS (glb0 C.c0 (by decide +kernel)) (A.fn (p__law_edge E)) (C.room.mono (by decide)) (v 0 _ (by decide) rfl) ⟨_, _, rfl, rfl⟩ ?_
  refine ax_cons ?_
  refine ex_bin ?_
  refine ex_lenS b_len (v 4 _ (by decide) rfl) rfl rfl ?_
  refine ex_int ?_
  refine o_add ?_
  refine ax_nil ?_
  refine ⟨_, _, rfl, rfl, ?_⟩
  refine ⟨_, _, rfl, rfl, hs, sml_abs (by omega) (by omega), ?_⟩
  rintro q st q0 q1 hs
  obtain ⟨sp, rfl⟩ := Int.eq_ofNat_of_zero_le q0
  show SX _ _ _ _ _
  refine sx_cons ?_
  refine s_asg0 C.c0 (lo 6 _ (by decide) rfl) ?_
  refine ex_bin ?_
  refine ex_var (v 2 _ (by decide) rfl) rfl ?_
  refine ex_callS (glb0 C.c0 (by decide +kernel)) (A.fn (p__law_take E)) (C.room.mono (by decide)) (v 0 _ (by decide) rfl) ⟨_, _, rfl, rfl⟩ ?_
  refine ax_cons ?_
  refine ex_bin ?_
  refine ex_bin ?_
  refine ex_var (v 3 _ (by decide) rfl) rfl ?_
  refine ex_var (v 2 _ (by decide) rfl) rfl ?_
  refine o_sub ?_
  refine ex_int ?_
  refine o_add ?_
  refine ax_nil ?_
  refine ⟨_, _, rfl, rfl, ?_⟩
  refine ⟨_, _, rfl, rfl, hs, sml_abs (by omega) (by omega), ?_⟩
  rintro fg st fg0 fg1 hs
  refine o_add ?_
  show SX _ _ _ _ _
  refine sx_cons ?_
  refine s_asg0 C.c0 (lo 7 _ (by decide) rfl) ?_
  refine ex_nx ?_
  refine nx_lst ?_
  refine ax_cons ?_
  refine ex_bin ?_
  refine ex_var (v 2 _ (by decide) rfl) rfl ?_
  refine ex_int ?_
  refine o_sub ?_
  refine ax_cons ?_
  refine ex_bin ?_
  refine ex_var (v 3 _ (by decide) rfl) rfl ?_
  refine ex_int ?_
  refine o_add ?_
  refine ax_cons ?_
  refine ex_bl ?_
  refine ax_cons ?_
  refine ex_non ?_
  refine ax_cons ?_
  refine ex_str ?_
  refine ax_cons ?_
  refine ex_tup ?_
  refine ax_cons ?_
  refine ex_var (v 2 _ (by decide) rfl) rfl ?_
  refine ax_nil ?_
  refine ⟨show 1 ≤ sizeLine from by decide, ?_⟩
  refine ax_cons ?_
  refine ex_nx ?_
  refine nx_lst ?_
  refine ax_nil ?_
  refine ⟨show 0 ≤ sizeLine from by decide, ?_⟩
  refine ax_cons ?_
  refine ex_bin ?_
  refine ex_bin ?_
  refine ex_bin ?_
  refine ex_int ?_
  refine ex_int ?_
  refine o_pow (by decide) (by decide +kernel) ?_
  refine ex_int ?_
  refine o_pow (by decide) (by decide +kernel) ?_
  refine ex_int ?_
  refine o_sub ?_
  refine ax_cons ?_
  refine ex_var (v 6 _ (by decide) rfl) rfl ?_
  refine ax_cons ?_
  refine ex_var (v 6 _ (by decide) rfl) rfl ?_
  refine ax_nil ?_
  refine ⟨show 10 ≤ sizeLine from by decide, ?_⟩
  show SX _ _ _ _ _
  refine sx_cons ?_
  refine s_asg0 C.c0 (lo 8 _ (by decide) rfl) ?_
  refine ex_callS (glb0 C.c0 (by decide +kernel)) (A.fn (p__law_take E)) (C.room.mono (by decide)) (v 0 _ (by decide) rfl) ⟨_, _, rfl, rfl⟩ ?_
  refine ax_cons ?_
  refine ex_int ?_
  refine ax_nil ?_
  refine ⟨_, _, rfl, rfl, ?_⟩
  refine ⟨_, _, rfl, rfl, hs, sml_of (by decide), ?_⟩
  rintro k st k0 k1 hs
  show SX _ _ _ _ _
  refine sx_cons ?_
  refine s_if ?_
  refine tx_cmp ?_
  refine ex_var (v 8 _ (by decide) rfl) rfl ?_
  refine ex_int ?_
  refine o_eqI ⟨_, rfl, ?_⟩
  refine ⟨fun hc0 => ?_, fun hc0 => ?_⟩
  · -- kind == 0
    refine sx_frz 4 rfl ?_
    refine sx_cons ?_
    refine s_ret ?_
    refine ex_callS (glb0 C.c0 (by decide +kernel)) (A.fn (p__law_one E)) (C.room.mono (by decide)) (v 0 _ (by decide) rfl) ⟨_, _, rfl, rfl⟩ ?_
    refine ax_cons ?_
    refine ex_nx ?_
    refine nx_lst ?_
    refine ax_cons ?_
    refine ex_non ?_
    refine ax_cons ?_
    refine ex_bl ?_
    refine ax_cons ?_
    refine ex_int ?_
    refine ax_cons ?_
    refine ex_str ?_
    refine ax_cons ?_
    refine ex_str ?_
    refine ax_cons ?_
    refine ex_var (v 4 _ (by decide) rfl) rfl ?_
    refine ax_cons ?_
    refine ex_tupleOf b_tuple ?_
    refine ex_var (v 4 _ (by decide) rfl) rfl ?_
    refine ⟨_, rfl, ?_⟩
    refine ax_nil ?_
    refine ⟨show 7 ≤ sizeLine from by decide, ?_⟩
    refine ax_nil ?_
    refine ⟨_, _, rfl, rfl, ?_⟩
    refine ⟨_, _, rfl, rfl, hs, (show 0 < 7 from by decide), (show 7 < 2 ^ 60 from by decide), ?_⟩
    rintro d1 st hd1 hs
    have hf1 : Few 400 d1 := by
      simp only [List.mem_cons, List.not_mem_nil, or_false] at hd1
      rcases hd1 with rfl | rfl | rfl | rfl | rfl | rfl | rfl
      · exact ⟨rfl, by decide⟩
      · exact ⟨rfl, by decide⟩
      · exact ⟨rfl, by decide⟩
      · exact ⟨rfl, by decide⟩
      · exact ⟨rfl, by decide⟩
      · exact hok.lst.mono (by decide)
      · exact hok.tup.mono (by decide)
    exact ⟨_, ⟨_, rfl, rfl⟩, hk _ _ hf1 hs⟩
  · -- not kind == 0
    refine sx_nil ?_
    show SX _ _ _ _ _
    refine sx_cons ?_
    refine s_cut (fun ρ1 => ∃ st l2 s5 s6 s7 s8, ρ1 = [.ino pp st, .val (.tup l), .val (.int lw), .val (.int hi), .val (.lst l2), s5, s6, s7, s8] ∧ StOk st ∧ OkL 350 l2) ?_ ?_
    · -- if kind < 4:
      refine s_if ?_
      refine tx_cmp ?_
      refine ex_var (v 8 _ (by decide) rfl) rfl ?_
      refine ex_int ?_
      refine o_lt ⟨_, rfl, ?_⟩
      refine ⟨fun hc1 => ?_, fun hc1 => ?_⟩
      · -- kind < 4
        refine sx_cons ?_
        refine s_insert (v 4 _ (by decide) rfl) ⟨_, _, rfl, rfl⟩ ?_
        refine ex_var (v 5 _ (by decide) rfl) rfl ?_
        refine ex_callS (glb0 C.c0 (by decide +kernel)) (A.fn (p__law_one E)) (C.room.mono (by decide)) (v 0 _ (by decide) rfl) ⟨_, _, rfl, rfl⟩ ?_
        refine ax_cons ?_
        refine ex_var (v 7 _ (by decide) rfl) rfl ?_
        refine ax_nil ?_
        refine ⟨_, _, rfl, rfl, ?_⟩
        refine ⟨_, _, rfl, rfl, hs, (show 0 < 10 from by decide), (show 10 < 2 ^ 60 from by decide), ?_⟩
        rintro d1 st hd1 hs
        have hf1 : Few 10 d1 := few_mem (by rfl) hd1
        refine ⟨_, _, _, rfl, rfl, rfl, by rw [sizeLine_eq]; omega, by omega, by omega, ?_⟩
        show SX _ _ _ _ _
        refine sx_frz 4 rfl ?_
        refine sx_nil ?_
        exact ⟨_, _, _, _, _, _, rfl, hs, ((((okL_int (allInt_take hl.1 _) (by rw [List.length_take]; exact Nat.min_le_right _ _)).app (OkL.one hf1)).app (okL_int (allInt_drop hl.1 _) (by rw [List.length_drop]; exact Nat.sub_le _ _)))).mono (by omega)⟩
      · -- not kind < 4
        refine sx_cons ?_
        refine s_if ?_
        refine tx_cmp ?_
        refine ex_var (v 8 _ (by decide) rfl) rfl ?_
        refine ex_int ?_
        refine o_lt ⟨_, rfl, ?_⟩
        refine ⟨fun hc2 => ?_, fun hc2 => ?_⟩
        · -- kind < 6
          refine sx_cons ?_
          refine s_setSl (v 4 _ (by decide) rfl) ?_
          refine ex_nx ?_
          refine nx_lst ?_
          refine ax_cons ?_
          refine ex_callS (glb0 C.c0 (by decide +kernel)) (A.fn (p__law_one E)) (C.room.mono (by decide)) (v 0 _ (by decide) rfl) ⟨_, _, rfl, rfl⟩ ?_
          refine ax_cons ?_
          refine ex_var (v 7 _ (by decide) rfl) rfl ?_
          refine ax_nil ?_
          refine ⟨_, _, rfl, rfl, ?_⟩
          refine ⟨_, _, rfl, rfl, hs, (show 0 < 10 from by decide), (show 10 < 2 ^ 60 from by decide), ?_⟩
          rintro d1 st hd1 hs
          have hf1 : Few 10 d1 := few_mem (by rfl) hd1
          refine ax_nil ?_
          refine ⟨show 1 ≤ sizeLine from by decide, ?_⟩
          refine ⟨_, rfl, ⟨_, _, rfl, rfl⟩, ?_⟩
          refine ex_var (v 5 _ (by decide) rfl) rfl ?_
          refine ⟨sp, rfl, ?_⟩
          refine ex_bin ?_
          refine ex_var (v 5 _ (by decide) rfl) rfl ?_
          refine ex_int ?_
          refine o_add ?_
          refine ⟨sp + 1, _, _, rfl, rfl, rfl, by rw [sizeLine_eq]; show l.length + 1 ≤ _; omega, ?_⟩
          show SX _ _ _ _ _
          refine sx_frz 4 rfl ?_
          refine sx_nil ?_
          show SX _ _ _ _ _
          refine sx_nil ?_
          exact ⟨_, _, _, _, _, _, rfl, hs, ((((okL_int (allInt_take hl.1 _) (by rw [List.length_take]; exact Nat.min_le_right _ _)).app (OkL.one hf1)).app (okL_int (allInt_drop hl.1 _) (by rw [List.length_drop]; exact Nat.sub_le _ _)))).mono (by omega)⟩
        · -- not kind < 6
          refine sx_cons ?_
          refine s_if ?_
          refine tx_cmp ?_
          refine ex_var (v 8 _ (by decide) rfl) rfl ?_
          refine ex_int ?_
          refine o_eqI ⟨_, rfl, ?_⟩
          refine ⟨fun hc3 => ?_, fun hc3 => ?_⟩
          · -- kind == 6
            refine sx_cons ?_
            refine s_setSl (v 4 _ (by decide) rfl) ?_
            refine ex_nx ?_
            refine nx_revL ?_
            refine ex_nx ?_
            refine nx_slS (v 4 _ (by decide) rfl) ?_ ⟨_, _, rfl, rfl⟩
            refine ox_some ?_
            refine ex_var (v 5 _ (by decide) rfl) rfl ?_
            refine ⟨_, rfl, ?_⟩
            refine ox_some ?_
            refine ex_bin ?_
            refine ex_var (v 5 _ (by decide) rfl) rfl ?_
            refine ex_int ?_
            refine o_add ?_
            refine ⟨_, rfl, ?_⟩
            refine ⟨_, _, rfl, rfl, ?_⟩
            refine ⟨_, .inl rfl, ?_⟩
            refine ⟨_, rfl, ⟨_, _, rfl, rfl⟩, ?_⟩
            refine ex_var (v 5 _ (by decide) rfl) rfl ?_
            refine ⟨sp, rfl, ?_⟩
            refine ex_bin ?_
            refine ex_var (v 5 _ (by decide) rfl) rfl ?_
            refine ex_int ?_
            refine o_add ?_
            refine ⟨sp + 2, _, _, rfl, rfl, rfl, by rw [List.length_reverse, sizeLine_eq]; have := cut_le (ds := l) (a := some (sp : Int)) (b := some ((sp : Int) + 2)); omega, ?_⟩
            show SX _ _ _ _ _
            refine sx_frz 4 rfl ?_
            refine sx_nil ?_
            show SX _ _ _ _ _
            refine sx_nil ?_
            show SX _ _ _ _ _
            refine sx_nil ?_
            exact ⟨_, _, _, _, _, _, rfl, hs, ((((okL_int (allInt_take hl.1 _) (by rw [List.length_take]; exact Nat.min_le_right _ _)).app (okL_int (allInt_rev (cut_int hl.1)) (by rw [List.length_reverse]; exact cut_le))).app (okL_int (allInt_drop hl.1 _) (by rw [List.length_drop]; exact Nat.sub_le _ _)))).mono (by omega)⟩
          · -- not kind == 6
            refine sx_cons ?_
            refine s_asg0 C.c0 (lo 4 _ (by decide) rfl) ?_
            refine ex_bin ?_
            refine ex_nx ?_
            refine nx_slS (v 4 _ (by decide) rfl) ?_ ⟨_, _, rfl, rfl⟩
            refine ox_none ?_
            refine ox_some ?_
            refine ex_var (v 5 _ (by decide) rfl) rfl ?_
            refine ⟨_, rfl, ?_⟩
            refine ⟨_, _, rfl, rfl, ?_⟩
            refine ex_nx ?_
            refine nx_slS (v 4 _ (by decide) rfl) ?_ ⟨_, _, rfl, rfl⟩
            refine ox_some ?_
            refine ex_bin ?_
            refine ex_var (v 5 _ (by decide) rfl) rfl ?_
            refine ex_int ?_
            refine o_add ?_
            refine ⟨_, rfl, ?_⟩
            refine ox_none ?_
            refine ⟨_, _, rfl, rfl, ?_⟩
            refine o_addL (by rw [cut_to (by omega), cut_from (by omega), List.length_take, List.length_drop, sizeLine_eq]; omega) ?_
            show SX _ _ _ _ _
            refine sx_nil ?_
            show SX _ _ _ _ _
            refine sx_nil ?_
            show SX _ _ _ _ _
            refine sx_nil ?_
            exact ⟨_, _, _, _, _, _, rfl, hs, ((okL_int (cut_int hl.1) cut_le).app (okL_int (cut_int hl.1) cut_le)).mono (by omega)⟩
    rintro ρ1 ⟨st, l2, s5, s6, s7, s8, rfl, hs, hl2⟩
    show SX _ _ _ _ _
    refine sx_cons ?_
    refine s_ret ?_
    refine ex_ifExp ?_
    refine tx_is (true) ?_ ?_
    · -- isinstance(things, tuple)
      refine tx_truth ?_
      refine ex_isi (C := "tuple") b_isinstance ?_
      refine ex_var (v 1 _ (by decide) rfl) rfl ?_
      refine ex_bty b_tuple.g b_tuple.m b_tuple.v ?_
      refine ⟨"tuple", _, rfl, rfl, kit_is (d := .tup l) (T := "tuple") rfl (by simp), ?_⟩
      refine ⟨_, rfl, ?_⟩
      exact ⟨rfl, rfl⟩
    refine ⟨fun hi => ?_, fun hi => ?_⟩
    rotate_left
    · cases hi
    refine ex_tupleOf b_tuple ?_
    refine ex_var (v 4 _ (by decide) rfl) rfl ?_
    refine ⟨_, rfl, ?_⟩
    exact ⟨_, ⟨_, rfl, rfl⟩, hk _ _ (hl2.tup.mono (by decide)) hs⟩
def S__law_near : Spec := fun o as Φ => ∃ st lw hi, o = some st ∧ as = [.int lw, .int hi] ∧ StOk st ∧ (-(2 ^ 50) < lw ∧ lw < 2 ^ 50) ∧ (-(2 ^ 50) < hi ∧ hi < 2 ^ 50) ∧ ∀ d st2, Few 10 d → StOk st2 → Φ (.ret d (some st2))
theorem p__law_near (E : En K mg) : FnD P w K mg base 5 "_law_near" ["store", "least", "greatest"] S__law_near := by
  obtain ⟨fd, Fu⟩ := E.fn dd__law_near (fn_at 26 rfl)
  refine def_of (N := ["store", "least", "greatest", "odd"]) (st := st__law_near) (E.glo "_law_near" (fa_at 67 rfl)) Fu (FunD.bindsN (ps := ["store", "least", "greatest"]) Fu fun _ _ _ _ _ _ us hl => match us, hl with | [_, _, _], _ => rfl) ⟨rfl, rfl, rfl, by decide +kernel, rfl, by decide +kernel, by decide +kernel⟩ ?_ ?_
  · intro o as Φ hS
    obtain ⟨st, lw, hi, ho, ea, hs, hlo, hhi, hk⟩ := hS
    subst ea ho; rfl
  intro X A W o as Φ hS B
  obtain ⟨st, lw, hi, ho, ea, hs, hlo, hhi, hk⟩ := hS
  subst ea
  obtain ⟨pp, rfl⟩ := o_some ho
  have C := B.c
  have v := vars_m C.c0 4 (by decide +kernel)
  have lo := locs_m C.c0 B.fn 4 (by decide +kernel)
  show SX X W (defBody st__law_near) [.ino pp st, .val (.int lw), .val (.int hi), .no] (Fin (some (pp, _)) Φ)
  refine sx_cons ?_
  refine s_asg0 C.c0 (lo 3 _ (by decide) rfl) ?_
  refine ex_nx ?_
  refine nx_lst ?_
  refine ax_cons ?_
  refine ex_bin ?_
  refine ex_var (v 1 _ (by decide) rfl) rfl ?_
  refine ex_int ?_
  refine o_sub ?_
  refine ax_cons ?_
  refine ex_bin ?_
  refine ex_var (v 2 _ (by decide) rfl) rfl ?_
  refine ex_int ?_
  refine o_add ?_
  refine ax_cons ?_
  refine ex_non ?_
  refine ax_cons ?_
  refine ex_bl ?_
  refine ax_cons ?_
  refine ex_bl ?_
  refine ax_cons ?_
  refine ex_str ?_
  refine ax_cons ?_
  refine ex_str ?_
  refine ax_cons ?_
  refine ex_tup ?_
  refine ax_cons ?_
  refine ex_var (v 1 _ (by decide) rfl) rfl ?_
  refine ax_nil ?_
  refine ⟨show 1 ≤ sizeLine from by decide, ?_⟩
  refine ax_cons ?_
  refine ex_nx ?_
  refine nx_lst ?_
  refine ax_cons ?_
  refine ex_var (v 1 _ (by decide) rfl) rfl ?_
  refine ax_nil ?_
  refine ⟨show 1 ≤ sizeLine from by decide, ?_⟩
  refine ax_nil ?_
  refine ⟨show 9 ≤ sizeLine from by decide, ?_⟩
  show SX _ _ _ _ _
  refine sx_cons ?_
  refine s_asg0 C.c0 (lo 3 _ (by decide) rfl) ?_
  refine ex_bin ?_
  refine ex_var (v 3 _ (by decide) rfl) rfl ?_
  refine ex_nx ?_
  refine nx_lst ?_
  refine ax_cons ?_
  refine ex_bin ?_
  refine ex_int ?_
  refine ex_bin ?_
  refine ex_bin ?_
  refine ex_int ?_
  refine ex_int ?_
  refine o_pow (by decide) (by decide +kernel) ?_
  refine ex_int ?_
  refine o_pow (by decide) (by decide +kernel) ?_
  refine o_sub ?_
  refine ax_cons ?_
  refine ex_bin ?_
  refine ex_bin ?_
  refine ex_bin ?_
  refine ex_int ?_
  refine ex_int ?_
  refine o_pow (by decide) (by decide +kernel) ?_
  refine ex_int ?_
  refine o_pow (by decide) (by decide +kernel) ?_
  refine ex_int ?_
  refine o_sub ?_
  refine ax_nil ?_
  refine ⟨show 2 ≤ sizeLine from by decide, ?_⟩
  refine o_addL (show 9 + 2 ≤ sizeLine from by decide) ?_
  show SX _ _ _ _ _
  refine sx_cons ?_
  refine s_if ?_
  refine tx_truth ?_
  refine ex_callS (glb0 C.c0 (by decide +kernel)) (A.fn (p__law_rare E)) (C.room.mono (by decide)) (v 0 _ (by decide) rfl) ⟨_, _, rfl, rfl⟩ ?_
  refine ax_cons ?_
  refine ex_int ?_
  refine ax_nil ?_
  refine ⟨_, _, rfl, rfl, ?_⟩
  refine ⟨_, _, rfl, rfl, hs, sml_of (by decide), ?_⟩
  rintro b1 st hs
  refine ⟨_, rfl, ?_⟩
  refine ⟨fun hc0 => ?_, fun hc0 => ?_⟩
  · -- _law_rare(store, 3)
    refine sx_cons ?_
    refine s_ret ?_
    refine ex_callS (glb0 C.c0 (by decide +kernel)) (A.fn (p__law_one E)) (C.room.mono (by decide)) (v 0 _ (by decide) rfl) ⟨_, _, rfl, rfl⟩ ?_
    refine ax_cons ?_
    refine ex_var (v 3 _ (by decide) rfl) rfl ?_
    refine ax_nil ?_
    refine ⟨_, _, rfl, rfl, ?_⟩
    refine ⟨_, _, rfl, rfl, hs, (show 0 < 11 from by decide), (show 11 < 2 ^ 60 from by decide), ?_⟩
    rintro d1 st hd1 hs
    have hf1 : Few 10 d1 := few_mem (by rfl) hd1
    exact ⟨_, ⟨_, rfl, rfl⟩, hk _ _ hf1 hs⟩
  · -- not _law_rare(store, 3)
    refine sx_nil ?_
    show SX _ _ _ _ _
    refine sx_cons ?_
    refine s_ret ?_
    refine ex_bin ?_
    refine ex_var (v 1 _ (by decide) rfl) rfl ?_
    refine ex_callS (glb0 C.c0 (by decide +kernel)) (A.fn (p__law_edge E)) (C.room.mono (by decide)) (v 0 _ (by decide) rfl) ⟨_, _, rfl, rfl⟩ ?_
    refine ax_cons ?_
    refine ex_bin ?_
    refine ex_bin ?_
    refine ex_var (v 2 _ (by decide) rfl) rfl ?_
    refine ex_var (v 1 _ (by decide) rfl) rfl ?_
    refine o_sub ?_
    refine ex_int ?_
    refine o_add ?_
    refine ax_nil ?_
    refine ⟨_, _, rfl, rfl, ?_⟩
    refine ⟨_, _, rfl, rfl, hs, sml_abs (by omega) (by omega), ?_⟩
    rintro k st k0 k1 hs
    refine o_add ?_
    exact ⟨_, ⟨_, rfl, rfl⟩, hk _ _ ⟨rfl, show 1 ≤ 10 from by decide⟩ hs⟩
def otherL : List Str := [("BadWorld" : Str), ("BadCell" : Str), ("BadLetter" : Str), ("BadFilling" : Str), ("BadLot" : Str), ("BadOrder" : Str), ("BadStarts" : Str), ("BadTable" : Str), ("BadStep" : Str), ("BadMaps" : Str), ("BadMoves" : Str), ("BadMatrix" : Str), ("BadPrime" : Str), ("BadTie" : Str), ("BadFamily" : Str), ("BadText" : Str), ("BadSpeech" : Str), ("BadPaper" : Str), ("BadDeed" : Str), ("NotTold" : Str), ("NotOneToOne" : Str), ("NotIdle" : Str), ("NotCalm" : Str), ("NotHeld" : Str), ("NotSame" : Str), ("Still" : Str), ("Clash" : Str), ("Lost" : Str), ("Wrong" : Str), ("NoPlace" : Str), ("OtherWorld" : Str), ("TooManyTies" : Str), ("TooMany" : Str), ("TooLong" : Str), ("AtStart" : Str), ("AtEnd" : Str), ("NothingToUndo" : Str)]
def nameL : List D := [.str "BadNumber", .str "BadRow", .str "BadMoment"]
def markL (c : Str) : List D := [.bl (c == "BadNumber" || ("BadNumber" : Str) == "NoSpareError"), .bl (c == "BadRow" || ("BadRow" : Str) == "NoSpareError"), .bl (c == "BadMoment" || ("BadMoment" : Str) == "NoSpareError")]
def isT : D → Bool | .bl b => b | _ => false
theorem clsOwn (K : PySem.W.Frag) : ∀ L : List Str, ClsDs (L.map fun x => D.ref (He.ga K x)) (L.map fun x => Value.ref (He.ga K x))
  | [] => .nil
  | _ :: L => .cons (.own _) (clsOwn K L)
theorem kit_no {X : Cx} {P : Program} {w : World} {K : PySem.W.Frag} {mg : Str → Option Value} {base : Heap} {c : Str} (E : En K mg) (A : AtP X P w K mg base) (hr : c ∈ rs) : ∀ L : List Str, (L.all fun b => decide (b ∈ xs) && !(c == b || b == "NoSpareError")) = true → PySem.W.kitAny X.K (.ref (He.ga K c)) (L.map fun x => Value.ref (He.ga K x)) = some false
  | [], _ => rfl
  | b :: L, h => by
    rw [List.all_cons, Bool.and_eq_true, Bool.and_eq_true, decide_eq_true_eq, Bool.not_eq_true'] at h
    rw [List.map_cons, PySem.W.kitAny, E.kit A hr h.1.1, h.1.2]
    exact kit_no E A hr L h.2
theorem c3_rs {c : Str} (h : (c = "BadNumber" ∨ c = "BadRow" ∨ c = "BadMoment")) : c ∈ rs := by rcases h with rfl | rfl | rfl <;> decide +kernel
theorem c3_xs {c : Str} (h : (c = "BadNumber" ∨ c = "BadRow" ∨ c = "BadMoment")) : c ∈ xs := by rcases h with rfl | rfl | rfl <;> decide +kernel
theorem c3_no {c : Str} (h : (c = "BadNumber" ∨ c = "BadRow" ∨ c = "BadMoment")) : (otherL.all fun b => decide (b ∈ xs) && !(c == b || b == "NoSpareError")) = true := by rcases h with rfl | rfl | rfl <;> decide +kernel
theorem c3_res {c : Str} (h : (c = "BadNumber" ∨ c = "BadRow" ∨ c = "BadMoment")) : ((steps 0 1 3).filter fun d => isT ((markL c)[d.val.toNat]?.getD .non)).map (fun d => nameL[d.val.toNat]?.getD .non) = [.str c] := by rcases h with rfl | rfl | rfl <;> rfl
def S__law_kinds (K : PySem.W.Frag) : SpecH := fun C d a as Φ => ∃ c : Str, as = [.ref a] ∧ C = He.ga K c ∧ (c = "BadNumber" ∨ c = "BadRow" ∨ c = "BadMoment") ∧ Φ (.lst [.str c])
theorem p__law_kinds (E : En K mg) : FnDH P w K mg base 1 "_law_kinds" ["error"] (S__law_kinds K) := by
  obtain ⟨fd, Fu⟩ := E.fn dd__law_kinds (fn_at 27 rfl)
  refine fnH_of (N := ["error", "names", "marks", "place"]) (st := st__law_kinds) (E.glo "_law_kinds" (fa_at 68 rfl)) Fu (FunD.bindsN (ps := ["error"]) Fu fun _ _ _ _ _ _ us hl => match us, hl with | [_], _ => rfl) ⟨rfl, rfl, rfl, by decide +kernel, rfl, by decide +kernel, by decide +kernel⟩ ?_ ?_
  · intro Cc d a as Φ hS
    obtain ⟨c, ea, eC, hc, hk⟩ := hS
    subst ea; rfl
  intro X A W a Cc d as Φ hS B
  obtain ⟨c, ea, eC, hc, hk⟩ := hS
  subst ea
  subst eC
  have C := B.c
  have v := vars_m C.toCx0 3 (by decide +kernel)
  have lo := locs_m C.toCx0 B.fn 3 (by decide +kernel)
  have b_isinstance := blt0 (x := "isinstance") C.toCx0 (A.gl (E.free "isinstance" (fa_at 79 rfl))) bt_isinstance (by decide +kernel)
  have b_len := blt0 (x := "len") C.toCx0 (A.gl (E.free "len" (fa_at 80 rfl))) bt_len (by decide +kernel)
  have b_range := blt0 (x := "range") C.toCx0 (A.gl (E.free "range" (fa_at 84 rfl))) bt_range (by decide +kernel)
  have hx := B.x
  have T : ErrC X.K (He.ga K c) (fI K) := E.err A (c3_xs hc)
  have Gx := E.errG A
  show SX X W (defBody st__law_kinds) [.val (.ref a), .no, .no, .no] (FinH Φ)
  refine sx_cons ?_
  refine s_if ?_
  refine tx_truth ?_
  refine ex_isxT b_isinstance hx T Gx ?_
  refine ex_var (v 0 _ (by decide) rfl) rfl ?_
  refine ⟨rfl, ?_⟩
  refine ax_cons ?_
  refine ex_gref (glb0 C.toCx0 (by decide +kernel)) (A.gl (E.glo "BadWorld" (fa_at 1 rfl))) ?_
  refine ax_cons ?_
  refine ex_gref (glb0 C.toCx0 (by decide +kernel)) (A.gl (E.glo "BadCell" (fa_at 2 rfl))) ?_
  refine ax_cons ?_
  refine ex_gref (glb0 C.toCx0 (by decide +kernel)) (A.gl (E.glo "BadLetter" (fa_at 3 rfl))) ?_
  refine ax_cons ?_
  refine ex_gref (glb0 C.toCx0 (by decide +kernel)) (A.gl (E.glo "BadFilling" (fa_at 4 rfl))) ?_
  refine ax_cons ?_
  refine ex_gref (glb0 C.toCx0 (by decide +kernel)) (A.gl (E.glo "BadLot" (fa_at 5 rfl))) ?_
  refine ax_cons ?_
  refine ex_gref (glb0 C.toCx0 (by decide +kernel)) (A.gl (E.glo "BadOrder" (fa_at 6 rfl))) ?_
  refine ax_cons ?_
  refine ex_gref (glb0 C.toCx0 (by decide +kernel)) (A.gl (E.glo "BadStarts" (fa_at 8 rfl))) ?_
  refine ax_cons ?_
  refine ex_gref (glb0 C.toCx0 (by decide +kernel)) (A.gl (E.glo "BadTable" (fa_at 11 rfl))) ?_
  refine ax_cons ?_
  refine ex_gref (glb0 C.toCx0 (by decide +kernel)) (A.gl (E.glo "BadStep" (fa_at 12 rfl))) ?_
  refine ax_cons ?_
  refine ex_gref (glb0 C.toCx0 (by decide +kernel)) (A.gl (E.glo "BadMaps" (fa_at 13 rfl))) ?_
  refine ax_cons ?_
  refine ex_gref (glb0 C.toCx0 (by decide +kernel)) (A.gl (E.glo "BadMoves" (fa_at 14 rfl))) ?_
  refine ax_cons ?_
  refine ex_gref (glb0 C.toCx0 (by decide +kernel)) (A.gl (E.glo "BadMatrix" (fa_at 15 rfl))) ?_
  refine ax_cons ?_
  refine ex_gref (glb0 C.toCx0 (by decide +kernel)) (A.gl (E.glo "BadPrime" (fa_at 16 rfl))) ?_
  refine ax_cons ?_
  refine ex_gref (glb0 C.toCx0 (by decide +kernel)) (A.gl (E.glo "BadTie" (fa_at 17 rfl))) ?_
  refine ax_cons ?_
  refine ex_gref (glb0 C.toCx0 (by decide +kernel)) (A.gl (E.glo "BadFamily" (fa_at 18 rfl))) ?_
  refine ax_cons ?_
  refine ex_gref (glb0 C.toCx0 (by decide +kernel)) (A.gl (E.glo "BadText" (fa_at 19 rfl))) ?_
  refine ax_cons ?_
  refine ex_gref (glb0 C.toCx0 (by decide +kernel)) (A.gl (E.glo "BadSpeech" (fa_at 20 rfl))) ?_
  refine ax_cons ?_
  refine ex_gref (glb0 C.toCx0 (by decide +kernel)) (A.gl (E.glo "BadPaper" (fa_at 21 rfl))) ?_
  refine ax_cons ?_
  refine ex_gref (glb0 C.toCx0 (by decide +kernel)) (A.gl (E.glo "BadDeed" (fa_at 22 rfl))) ?_
  refine ax_cons ?_
  refine ex_gref (glb0 C.toCx0 (by decide +kernel)) (A.gl (E.glo "NotTold" (fa_at 23 rfl))) ?_
  refine ax_cons ?_
  refine ex_gref (glb0 C.toCx0 (by decide +kernel)) (A.gl (E.glo "NotOneToOne" (fa_at 24 rfl))) ?_
  refine ax_cons ?_
  refine ex_gref (glb0 C.toCx0 (by decide +kernel)) (A.gl (E.glo "NotIdle" (fa_at 25 rfl))) ?_
  refine ax_cons ?_
  refine ex_gref (glb0 C.toCx0 (by decide +kernel)) (A.gl (E.glo "NotCalm" (fa_at 26 rfl))) ?_
  refine ax_cons ?_
  refine ex_gref (glb0 C.toCx0 (by decide +kernel)) (A.gl (E.glo "NotHeld" (fa_at 27 rfl))) ?_
  refine ax_cons ?_
  refine ex_gref (glb0 C.toCx0 (by decide +kernel)) (A.gl (E.glo "NotSame" (fa_at 28 rfl))) ?_
  refine ax_cons ?_
  refine ex_gref (glb0 C.toCx0 (by decide +kernel)) (A.gl (E.glo "Still" (fa_at 29 rfl))) ?_
  refine ax_cons ?_
  refine ex_gref (glb0 C.toCx0 (by decide +kernel)) (A.gl (E.glo "Clash" (fa_at 30 rfl))) ?_
  refine ax_cons ?_
  refine ex_gref (glb0 C.toCx0 (by decide +kernel)) (A.gl (E.glo "Lost" (fa_at 31 rfl))) ?_
  refine ax_cons ?_
  refine ex_gref (glb0 C.toCx0 (by decide +kernel)) (A.gl (E.glo "Wrong" (fa_at 32 rfl))) ?_
  refine ax_cons ?_
  refine ex_gref (glb0 C.toCx0 (by decide +kernel)) (A.gl (E.glo "NoPlace" (fa_at 33 rfl))) ?_
  refine ax_cons ?_
  refine ex_gref (glb0 C.toCx0 (by decide +kernel)) (A.gl (E.glo "OtherWorld" (fa_at 34 rfl))) ?_
  refine ax_cons ?_
  refine ex_gref (glb0 C.toCx0 (by decide +kernel)) (A.gl (E.glo "TooManyTies" (fa_at 35 rfl))) ?_
  refine ax_cons ?_
  refine ex_gref (glb0 C.toCx0 (by decide +kernel)) (A.gl (E.glo "TooMany" (fa_at 36 rfl))) ?_
  refine ax_cons ?_
  refine ex_gref (glb0 C.toCx0 (by decide +kernel)) (A.gl (E.glo "TooLong" (fa_at 37 rfl))) ?_
  refine ax_cons ?_
  refine ex_gref (glb0 C.toCx0 (by decide +kernel)) (A.gl (E.glo "AtStart" (fa_at 38 rfl))) ?_
  refine ax_cons ?_
  refine ex_gref (glb0 C.toCx0 (by decide +kernel)) (A.gl (E.glo "AtEnd" (fa_at 39 rfl))) ?_
  refine ax_cons ?_
  refine ex_gref (glb0 C.toCx0 (by decide +kernel)) (A.gl (E.glo "NothingToUndo" (fa_at 40 rfl))) ?_
  refine ax_nil ?_
  refine ⟨_, false, clsOwn K otherL, (show 37 ≤ sizeLine from by decide), kit_no E A (c3_rs hc) otherL (c3_no hc), ?_⟩
  refine ⟨_, rfl, ?_⟩
  refine ⟨fun hc0 => ?_, fun hc0 => ?_⟩
  · -- isinstance(error, (BadWorld, BadCell, BadLetter, BadFilling, BadLot, BadOrder, BadStarts, BadTable, BadStep, BadMaps, BadMoves, BadMatrix, BadPrime, BadTie, BadFamily, BadText, BadSpeech, BadPaper, BadDeed, NotTold, NotOneToOne, NotIdle, NotCalm, NotHeld, NotSame, Still, Clash, Lost, Wrong, NoPlace, OtherWorld, TooManyTies, TooMany, TooLong, AtStart, AtEnd, NothingToUndo))
    cases hc0
  · -- not isinstance(error, (BadWorld, BadCell, BadLetter, BadFilling, BadLot, BadOrder, BadStarts, BadTable, BadStep, BadMaps, BadMoves, BadMatrix, BadPrime, BadTie, BadFamily, BadText, BadSpeech, BadPaper, BadDeed, NotTold, NotOneToOne, NotIdle, NotCalm, NotHeld, NotSame, Still, Clash, Lost, Wrong, NoPlace, OtherWorld, TooManyTies, TooMany, TooLong, AtStart, AtEnd, NothingToUndo))
    refine sx_nil ?_
    show SX _ _ _ _ _
    refine sx_cons ?_
    refine s_asg0 C.toCx0 (lo 1 _ (by decide) rfl) ?_
    refine ex_nx ?_
    refine nx_lst ?_
    refine ax_cons ?_
    refine ex_str ?_
    refine ax_cons ?_
    refine ex_str ?_
    refine ax_cons ?_
    refine ex_str ?_
    refine ax_nil ?_
    refine ⟨show 3 ≤ sizeLine from by decide, ?_⟩
    show SX _ _ _ _ _
    refine sx_cons ?_
    refine s_asg0 C.toCx0 (lo 2 _ (by decide) rfl) ?_
    refine ex_nx ?_
    refine nx_lst ?_
    refine ax_cons ?_
    refine ex_isx b_isinstance hx T Gx ?_
    refine ex_var (v 0 _ (by decide) rfl) rfl ?_
    refine ⟨rfl, ?_⟩
    refine ex_gref (glb0 C.toCx0 (by decide +kernel)) (A.gl (E.glo "BadNumber" (fa_at 10 rfl))) ?_
    refine ⟨_, _, .own _, E.kit A (c3_rs hc) (by decide +kernel), ?_⟩
    refine ax_cons ?_
    refine ex_isx b_isinstance hx T Gx ?_
    refine ex_var (v 0 _ (by decide) rfl) rfl ?_
    refine ⟨rfl, ?_⟩
    refine ex_gref (glb0 C.toCx0 (by decide +kernel)) (A.gl (E.glo "BadRow" (fa_at 7 rfl))) ?_
    refine ⟨_, _, .own _, E.kit A (c3_rs hc) (by decide +kernel), ?_⟩
    refine ax_cons ?_
    refine ex_isx b_isinstance hx T Gx ?_
    refine ex_var (v 0 _ (by decide) rfl) rfl ?_
    refine ⟨rfl, ?_⟩
    refine ex_gref (glb0 C.toCx0 (by decide +kernel)) (A.gl (E.glo "BadMoment" (fa_at 9 rfl))) ?_
    refine ⟨_, _, .own _, E.kit A (c3_rs hc) (by decide +kernel), ?_⟩
    refine ax_nil ?_
    refine ⟨show 3 ≤ sizeLine from by decide, ?_⟩
    show SX _ _ _ _ _
    refine sx_cons ?_
    refine s_ret ?_
    refine ex_nx ?_
    refine nx_mapH (j := 3) C (blkOk_of C.toCx0 ⟨rfl, by decide +kernel, by decide +kernel, by decide +kernel, by decide +kernel⟩) rfl (by decide +kernel) (fun d => nameL[d.val.toNat]?.getD .non) (fun d => isT ((markL c)[d.val.toNat]?.getD .non)) ?_
    refine ixH_range1 b_range ?_
    refine ex_len b_len ?_
    refine ex_var (v 1 _ (by decide) rfl) rfl ?_
    refine ⟨_, rfl, ?_⟩
    refine ⟨_, rfl, by decide, by decide, ?_⟩
    refine ⟨by rw [steps_len, sizeLine_eq]; decide, (show 3 < 4 from by decide), id, ?_, ?_⟩
    · -- an item
      intro d0 hd0 X2 blk2 C2
      obtain ⟨j, hj, rfl⟩ := mem_steps hd0
      have hj3 : j < 3 := hj
      rw [show (0 : Int) + (j : Int) * 1 = (j : Int) by omega]
      have hj4 : ∃ e, (markL c)[j]? = some (.bl e) := by rcases (show j = 0 ∨ j = 1 ∨ j = 2 by omega) with rfl | rfl | rfl <;> exact ⟨_, rfl⟩
      obtain ⟨em, hem⟩ := hj4
      obtain ⟨en, hen⟩ : ∃ e, nameL[j]? = some e := ⟨_, List.getElem?_eq_getElem hj3⟩
      refine ⟨?_, fun ht0 => ?_⟩
      · -- its test
        show TX _ _ _ _ _
        refine tx_truth ?_
        refine ex_ix ?_
        refine ex_var (vr C2.toCx0 2 rfl (by decide +kernel)) rfl ?_
        refine ex_var (vr C2.toCx0 3 rfl (by decide +kernel)) rfl ?_
        refine ⟨_, _, _, rfl, rfl, atI_nat hem, ?_⟩
        refine ⟨_, rfl, ?_⟩
        exact ⟨by show em = isT ((markL c)[((j : Nat) : Int).toNat]?.getD .non); rw [Int.toNat_natCast, hem]; rfl, rfl⟩
      refine ex_ix ?_
      refine ex_var (vr C2.toCx0 1 rfl (by decide +kernel)) rfl ?_
      refine ex_var (vr C2.toCx0 3 rfl (by decide +kernel)) rfl ?_
      refine ⟨_, _, _, rfl, rfl, atI_nat hen, ?_⟩
      exact ⟨by show en = nameL[((j : Nat) : Int).toNat]?.getD .non; rw [Int.toNat_natCast, hen]; rfl, rfl⟩
    rw [show ((steps 0 1 ([D.str "BadNumber", D.str "BadRow", D.str "BadMoment"].length : Int).toNat).filter fun d => isT ((markL c)[d.val.toNat]?.getD .non)).map (fun d => nameL[d.val.toNat]?.getD .non) = [.str c] from c3_res hc]
    exact hk
def pL (w : Int) (ds : List D) (m : Int) : D → Bool := fun c => if w = 0 then !c.inL (ds.drop m.toNat) else (c.inL (ds.drop m.toNat) && !c.inL (ds.take m.toNat))
def lotL (w n : Int) (ds : List D) (m : Int) : List D := (steps 1 1 n.toNat).filter (pL w ds m)
theorem pL_eq {w : Int} {ds : List D} {m c : Int} (hw : w = 0 ∨ w = 1) (hi : D.allInt ds = true) (hm : 0 ≤ m) : pL w ds m (.int c) = ((decide (w = 0) && decide (lastP ds c ≤ m)) || (decide (w = 1) && decide (m < firstP ds c))) := by
  unfold pL
  rcases hw with rfl | rfl
  · rw [if_pos rfl, done_by hi hm]; simp
  · rw [if_neg (by decide), wait_by hi hm]; simp
def dueD (w : Int) (d1 d2 d3 : D) : D := match momFault d1 d2 d3 with
  | some (c, z) => .tup [.str "refused", .lst [.str c], z, .bl true]
  | none => match d1, d2, d3 with
    | .int n, .tup ds, .int m => .tup [.str "told", .tup (lotL w n ds m)]
    | _, _, _ => .non
theorem dueD_some {w : Int} {d1 d2 d3 z : D} {c : Str} (h : momFault d1 d2 d3 = some (c, z)) : dueD w d1 d2 d3 = .tup [.str "refused", .lst [.str c], z, .bl true] := by unfold dueD; rw [h]
theorem dueD_none {w n m : Int} {ds : List D} (h : momFault (.int n) (.tup ds) (.int m) = none) : dueD w (.int n) (.tup ds) (.int m) = .tup [.str "told", .tup (lotL w n ds m)] := by unfold dueD; rw [h]
theorem momFault_cls {d1 d2 d3 z : D} {c : Str} (h : momFault d1 d2 d3 = some (c, z)) : (c = "BadNumber" ∨ c = "BadRow" ∨ c = "BadMoment") := by
  unfold momFault at h
  split at h
  · cases h; exact .inl rfl
  · split at h
    · cases h; exact .inr (.inl rfl)
    · split at h
      · split at h
        · cases h
        · cases h; exact .inr (.inr rfl)
      · cases h
theorem lotL_0 {n m : Int} {ds : List D} : lotL 0 n ds m = doneL n ds m := by unfold lotL doneL pL; simp
theorem lotL_1 {n m : Int} {ds : List D} : lotL 1 n ds m = waitL n ds m := by unfold lotL waitL pL; simp
theorem En.exmK {K : PySem.W.Frag} {mg : Str → Option Value} (E : En K mg) {a : Str} (ha : a ∈ rs) : PySem.W.exmOne K (.ref (He.ga K a)) (.ref (He.ga K "NoSpareError")) = some true := by
  obtain ⟨e1, e2⟩ := He.ba (show (excG _ "NoSpareError" && ((xs.all fun x => excB _ "NoSpareError" x) && (kitsAB _ "NoSpareError" rs xs && exmsB _ rs ["NoSpareError"] "NoSpareError"))) = true from E.ex)
  obtain ⟨e2, e3⟩ := He.ba e2
  obtain ⟨e3, e4⟩ := He.ba e3
  rw [exmsB_ok e4 ha (b := "NoSpareError") (by simp)]
  simp
def S__law_ask : Spec := fun o as Φ => o = none ∧ ∃ w d1 d2 d3, as = [.int w, d1, d2, d3] ∧ (w = 0 ∨ w = 1) ∧ d1.gd = true ∧ d2.gd = true ∧ d3.gd = true ∧ Φ (.ret (dueD w d1 d2 d3) none)
theorem p__law_ask (E : En K mg) : FnD P w K mg base 6 "_law_ask" ["which", "n", "row", "moment"] S__law_ask := by
  obtain ⟨fd, Fu⟩ := E.fn dd__law_ask (fn_at 28 rfl)
  refine def_of (N := ["which", "n", "row", "moment", "e"]) (st := st__law_ask) (E.glo "_law_ask" (fa_at 69 rfl)) Fu (FunD.bindsN (ps := ["which", "n", "row", "moment"]) Fu fun _ _ _ _ _ _ us hl => match us, hl with | [_, _, _, _], _ => rfl) ⟨rfl, rfl, rfl, by decide +kernel, rfl, by decide +kernel, by decide +kernel⟩ ?_ ?_
  · intro o as Φ hS
    obtain ⟨ho, w, d1, d2, d3, ea, hw, hg1, hg2, hg3, hk⟩ := hS
    subst ea ho; rfl
  intro X A W o as Φ hS B
  obtain ⟨ho, w, d1, d2, d3, ea, hw, hg1, hg2, hg3, hk⟩ := hS
  subst ea
  obtain rfl := o_none ho
  have C := B.c
  have v := vars_m C.c0 5 (by decide +kernel)
  have lo := locs_m C.c0 B.fn 5 (by decide +kernel)
  show SX X W (defBody st__law_ask) [.val (.int w), .val d1, .val d2, .val d3, .no] (Fin none Φ)
  refine sx_cons ?_
  refine s_try C B.hs B.hf (by intro s hs; simp only [List.mem_cons, List.not_mem_nil, or_false] at hs; rcases hs with rfl | rfl | rfl | rfl | rfl <;> exact id) (glb0 C.c0 (by decide +kernel)) (A.gl (E.glo "NoSpareError" (fa_at 0 rfl))) (i := 4) rfl (by decide +kernel) ?_
  intro Xt W2 tr2 Ct T2
  have At := tr2.at A
  refine sx_cons ?_
  refine s_if ?_
  refine tx_cmp ?_
  refine ex_var (vr Ct.c0 0 rfl (by decide +kernel)) rfl ?_
  refine ex_int ?_
  refine o_eqI ⟨_, rfl, ?_⟩
  refine ⟨fun hc0 => ?_, fun hc0 => ?_⟩
  · -- which == 0
    refine sx_cons ?_
    refine s_ret ?_
    refine ex_tup ?_
    refine ax_cons ?_
    refine ex_str ?_
    refine ax_cons ?_
    refine ex_callX T2 (glb0 Ct.c0 (by decide +kernel)) (At.fn (p_done_lot E)) (Ct.room.mono (by decide)) ?_
    refine ax_cons ?_
    refine ex_var (vr Ct.c0 1 rfl (by decide +kernel)) rfl ?_
    refine ax_cons ?_
    refine ex_var (vr Ct.c0 2 rfl (by decide +kernel)) rfl ?_
    refine ax_cons ?_
    refine ex_var (vr Ct.c0 3 rfl (by decide +kernel)) rfl ?_
    refine ax_nil ?_
    refine ⟨rfl, _, _, _, rfl, hg1, hg2, hg3, ?_⟩
    rcases hmf : momFault d1 d2 d3 with _ | ⟨c, z⟩
    rotate_left
    · have hcls := momFault_cls hmf
      rw [dueD_some hmf] at hk
      refine ⟨(by intro s hs; simp only [List.mem_cons, List.not_mem_nil, or_false] at hs; rcases hs with rfl | rfl | rfl | rfl | rfl <;> exact id), by rw [(show X.K = K from A.k)] ; exact E.exmK (c3_rs hcls), fun Xh Wh ah sh Ch hx => ?_⟩
      have Ah := sh.at A
      have T : ErrC Xh.K (He.ga K c) (fI K) := E.err Ah (c3_xs hcls)
      have Gx := E.errG Ah
      show SX _ _ _ [.val (.int w), .val d1, .val d2, .val d3, .val (.ref ah)] _
      refine sx_cons ?_
      refine s_ret ?_
      refine ex_tup ?_
      refine ax_cons ?_
      refine ex_str ?_
      refine ax_cons ?_
      refine ex_callH Ah Ch hx (glb0 Ch.toCx0 (by decide +kernel)) (p__law_kinds E) (by decide) ?_
      refine ax_cons ?_
      refine ex_var (vr Ch.toCx0 4 rfl (by decide +kernel)) rfl ?_
      refine ax_nil ?_
      refine ⟨c, rfl, rfl, hcls, ?_⟩
      refine ax_cons ?_
      refine ex_at hx T ?_
      refine ex_var (vr Ch.toCx0 4 rfl (by decide +kernel)) rfl ?_
      refine ⟨rfl, ?_⟩
      refine ax_cons ?_
      refine ex_isx (blt0 Ch.toCx0 (Ah.gl (E.free "isinstance" (fa_at 79 rfl))) bt_isinstance (by decide +kernel)) hx T Gx ?_
      refine ex_var (vr Ch.toCx0 4 rfl (by decide +kernel)) rfl ?_
      refine ⟨rfl, ?_⟩
      refine ex_bty (blt0 Ch.toCx0 (Ah.gl (E.free "ValueError" (fa_at 75 rfl))) bt_ValueError (by decide +kernel)).g (blt0 Ch.toCx0 (Ah.gl (E.free "ValueError" (fa_at 75 rfl))) bt_ValueError (by decide +kernel)).m (blt0 Ch.toCx0 (Ah.gl (E.free "ValueError" (fa_at 75 rfl))) bt_ValueError (by decide +kernel)).v ?_
      refine ⟨_, true, .ty _, T.ve, ?_⟩
      refine ax_nil ?_
      refine ⟨show 4 ≤ sizeLine from by decide, ?_⟩
      exact ⟨none, rfl, hk⟩
    rintro n ds m rfl rfl rfl
    rw [dueD_none hmf] at hk
    refine ax_nil ?_
    refine ⟨show 2 ≤ sizeLine from by decide, ?_⟩
    have hw0 : w = 0 := of_decide_eq_true hc0
    subst hw0
    rw [lotL_0] at hk
    exact ⟨none, rfl, hk⟩
  · -- not which == 0
    refine sx_nil ?_
    show SX _ _ _ _ _
    refine sx_cons ?_
    refine s_ret ?_
    refine ex_tup ?_
    refine ax_cons ?_
    refine ex_str ?_
    refine ax_cons ?_
    refine ex_callX T2 (glb0 Ct.c0 (by decide +kernel)) (At.fn (p_waiting_lot E)) (Ct.room.mono (by decide)) ?_
    refine ax_cons ?_
    refine ex_var (vr Ct.c0 1 rfl (by decide +kernel)) rfl ?_
    refine ax_cons ?_
    refine ex_var (vr Ct.c0 2 rfl (by decide +kernel)) rfl ?_
    refine ax_cons ?_
    refine ex_var (vr Ct.c0 3 rfl (by decide +kernel)) rfl ?_
    refine ax_nil ?_
    refine ⟨rfl, _, _, _, rfl, hg1, hg2, hg3, ?_⟩
    rcases hmf : momFault d1 d2 d3 with _ | ⟨c, z⟩
    rotate_left
    · have hcls := momFault_cls hmf
      rw [dueD_some hmf] at hk
      refine ⟨(by intro s hs; simp only [List.mem_cons, List.not_mem_nil, or_false] at hs; rcases hs with rfl | rfl | rfl | rfl | rfl <;> exact id), by rw [(show X.K = K from A.k)] ; exact E.exmK (c3_rs hcls), fun Xh Wh ah sh Ch hx => ?_⟩
      have Ah := sh.at A
      have T : ErrC Xh.K (He.ga K c) (fI K) := E.err Ah (c3_xs hcls)
      have Gx := E.errG Ah
      show SX _ _ _ [.val (.int w), .val d1, .val d2, .val d3, .val (.ref ah)] _
      refine sx_cons ?_
      refine s_ret ?_
      refine ex_tup ?_
      refine ax_cons ?_
      refine ex_str ?_
      refine ax_cons ?_
      refine ex_callH Ah Ch hx (glb0 Ch.toCx0 (by decide +kernel)) (p__law_kinds E) (by decide) ?_
      refine ax_cons ?_
      refine ex_var (vr Ch.toCx0 4 rfl (by decide +kernel)) rfl ?_
      refine ax_nil ?_
      refine ⟨c, rfl, rfl, hcls, ?_⟩
      refine ax_cons ?_
      refine ex_at hx T ?_
      refine ex_var (vr Ch.toCx0 4 rfl (by decide +kernel)) rfl ?_
      refine ⟨rfl, ?_⟩
      refine ax_cons ?_
      refine ex_isx (blt0 Ch.toCx0 (Ah.gl (E.free "isinstance" (fa_at 79 rfl))) bt_isinstance (by decide +kernel)) hx T Gx ?_
      refine ex_var (vr Ch.toCx0 4 rfl (by decide +kernel)) rfl ?_
      refine ⟨rfl, ?_⟩
      refine ex_bty (blt0 Ch.toCx0 (Ah.gl (E.free "ValueError" (fa_at 75 rfl))) bt_ValueError (by decide +kernel)).g (blt0 Ch.toCx0 (Ah.gl (E.free "ValueError" (fa_at 75 rfl))) bt_ValueError (by decide +kernel)).m (blt0 Ch.toCx0 (Ah.gl (E.free "ValueError" (fa_at 75 rfl))) bt_ValueError (by decide +kernel)).v ?_
      refine ⟨_, true, .ty _, T.ve, ?_⟩
      refine ax_nil ?_
      refine ⟨show 4 ≤ sizeLine from by decide, ?_⟩
      exact ⟨none, rfl, hk⟩
    rintro n ds m rfl rfl rfl
    rw [dueD_none hmf] at hk
    refine ax_nil ?_
    refine ⟨show 2 ≤ sizeLine from by decide, ?_⟩
    have hw1 : w = 1 := hw.resolve_left (of_decide_eq_false hc0)
    subst hw1
    rw [lotL_1] at hk
    exact ⟨none, rfl, hk⟩
def S__law_lot_due : Spec := fun o as Φ => o = none ∧ ∃ w n ds m, as = [.int w, .int n, .tup ds, .int m] ∧ (w = 0 ∨ w = 1) ∧ (1 ≤ n ∧ n ≤ 6) ∧ 0 ≤ m ∧ D.allInt ds = true ∧ ds.length ≤ 40 ∧ Φ (.ret (.tup (lotL w n ds m)) none)
theorem p__law_lot_due (E : En K mg) : FnD P w K mg base 1 "_law_lot_due" ["which", "n", "row", "moment"] S__law_lot_due := by
  obtain ⟨fd, Fu⟩ := E.fn dd__law_lot_due (fn_at 29 rfl)
  refine def_of (N := ["which", "n", "row", "moment", "out", "cell", "places", "first", "last", "place"]) (st := st__law_lot_due) (E.glo "_law_lot_due" (fa_at 70 rfl)) Fu (FunD.bindsN (ps := ["which", "n", "row", "moment"]) Fu fun _ _ _ _ _ _ us hl => match us, hl with | [_, _, _, _], _ => rfl) ⟨rfl, rfl, rfl, by decide +kernel, rfl, by decide +kernel, by decide +kernel⟩ ?_ ?_
  · intro o as Φ hS
    obtain ⟨ho, w, n, ds, m, ea, hw, hn, hm, hi2, hl, hk⟩ := hS
    subst ea ho; rfl
  intro X A W o as Φ hS B
  obtain ⟨ho, w, n, ds, m, ea, hw, hn, hm, hi2, hl, hk⟩ := hS
  subst ea
  obtain rfl := o_none ho
  have C := B.c
  have v := vars_m C.c0 9 (by decide +kernel)
  have lo := locs_m C.c0 B.fn 9 (by decide +kernel)
  have b_len := blt0 (x := "len") C.c0 (A.gl (E.free "len" (fa_at 80 rfl))) bt_len (by decide +kernel)
  have b_range := blt0 (x := "range") C.c0 (A.gl (E.free "range" (fa_at 84 rfl))) bt_range (by decide +kernel)
  have b_tuple := blt0 (x := "tuple") C.c0 (A.gl (E.free "tuple" (fa_at 86 rfl))) bt_tuple (by decide +kernel)
  show SX X W (defBody st__law_lot_due) [.val (.int w), .val (.int n), .val (.tup ds), .val (.int m), .no, .no, .no, .no, .no, .no] (Fin none Φ)
  refine sx_cons ?_
  refine s_asgN0 C.c0 (lo 4 _ (by decide) rfl) ?_
  refine nx_lst ?_
  refine ax_nil ?_
  refine ⟨show 0 ≤ sizeLine from by decide, ?_⟩
  show SX _ _ _ _ _
  refine sx_cons ?_
  refine s_for C ?_
  refine ix_range2 b_range ?_
  refine ax_cons ?_
  refine ex_int ?_
  refine ax_cons ?_
  refine ex_bin ?_
  refine ex_var (v 1 _ (by decide) rfl) rfl ?_
  refine ex_int ?_
  refine o_add ?_
  refine ax_nil ?_
  refine ⟨_, _, rfl, ⟨by omega, by omega, by omega, by omega⟩, ?_⟩
  refine ⟨fun i ρ' => ∃ o s5 s6 s7 s8, ρ' = [.val (.int w), .val (.int n), .val (.tup ds), .val (.int m), .own o, s5, s6, s7, s8, .no] ∧ o = (steps 1 1 i).filter (pL w ds m), ⟨_, _, _, _, _, rfl, rfl⟩, ?_, ?_⟩
  · -- a turn
    rintro i d0 ρ' hd ⟨o, s5, s6, s7, s8, rfl, hout⟩
    have hi := (List.getElem?_eq_some_iff.mp hd).1
    rw [steps_len] at hi
    rw [steps_get (by omega)] at hd
    cases hd
    have hst : steps 1 1 (i + 1) = steps 1 1 i ++ [.int (1 + (i : Int) * 1)] := steps_succ
    have hol : o.length ≤ i := by rw [hout]; exact Nat.le_trans (List.length_filter_le _ _) (by rw [steps_len]; exact Nat.le_refl _)
    generalize (1 : Int) + (i : Int) * 1 = c at hst ⊢
    refine gx_name C (lo 5 _ (by decide) rfl) ?_
    refine sx_cons ?_
    refine s_asgMap (j := 9) (lo 6 _ (by decide) rfl) (by rw [C.s]; decide +kernel) C (blkOk_of C.c0 ⟨rfl, by decide +kernel, by decide +kernel, by decide +kernel, by decide +kernel⟩) rfl (by decide +kernel) (fun d => .int (d.val + 1)) (fun d => decide (ds[d.val.toNat]?.map D.val = some c)) ?_ (sw_true (by rw [C.s]; rfl) (by rw [C.s]; decide +kernel) rfl (by decide +kernel))
    refine ix_range1 b_range ?_
    refine ex_len b_len ?_
    refine ex_var (v 2 _ (by decide) rfl) rfl ?_
    refine ⟨_, rfl, ?_⟩
    refine ⟨_, rfl, by omega, by omega, ?_⟩
    refine ⟨by rw [steps_len, sizeLine_eq]; omega, (show 9 < 10 from by decide), id, ?_, ?_⟩
    · -- an item
      intro d0 hd0 X2 blk2 C2
      have A2 := A.blk blk2
      obtain ⟨j, hj, rfl⟩ := mem_steps hd0
      rw [show (0 : Int) + (j : Int) * 1 = (j : Int) by omega]
      have hj2 : j < ds.length := by omega
      obtain ⟨ea, he⟩ : ∃ ea : Int, ds[j]? = some (.int ea) := by
        obtain ⟨a, ha⟩ := allInt_mem.mp hi2 _ (List.getElem_mem hj2)
        exact ⟨a, by rw [List.getElem?_eq_getElem hj2, ha]⟩
      refine ⟨?_, fun ht0 => ?_⟩
      · -- its test
        show TX _ _ _ _ _
        refine tx_cmp ?_
        refine ex_ix ?_
        refine ex_var (vr C2.c0 2 rfl (by decide +kernel)) rfl ?_
        refine ex_var (vr C2.c0 9 rfl (by decide +kernel)) rfl ?_
        refine ⟨_, _, _, rfl, rfl, atI_nat he, ?_⟩
        refine ex_var (vr C2.c0 5 rfl (by decide +kernel)) rfl ?_
        refine o_eqI ⟨_, rfl, ?_⟩
        exact ⟨by show decide (ea = c) = decide (ds[((j : Nat) : Int).toNat]?.map D.val = some c); rw [Int.toNat_natCast, he]; simp [D.val], rfl⟩
      refine ex_bin ?_
      refine ex_var (vr C2.c0 9 rfl (by decide +kernel)) rfl ?_
      refine ex_int ?_
      refine o_add ?_
      exact ⟨rfl, rfl⟩
    show SX _ _ _ _ _
    rw [Int.toNat_natCast, places_eq (c := c) (fun _ => rfl) (fun _ => rfl)]
    refine sx_cons ?_
    refine s_asg0 C.c0 (lo 7 _ (by decide) rfl) ?_
    refine ex_is (.int (firstP ds c)) ?_ ?_
    · -- places[0] if places else 0
      refine ex_ifExp ?_
      refine tx_truthS (v 6 _ (by decide) rfl) rfl rfl ?_
      refine ⟨fun hi => ?_, fun hi => ?_⟩
      · -- then
        refine ex_ixS (v 6 _ (by decide) rfl) ?_ ⟨_, _, rfl, rfl⟩
        refine ex_int ?_
        refine ⟨_, _, _, _, rfl, rfl, rfl, pl_first hi, ?_⟩
        exact ⟨rfl, rfl⟩
      · -- else
        refine ex_int ?_
        exact ⟨by rw [(pl_none hi).1], rfl⟩
      skip
    show SX _ _ _ _ _
    refine sx_cons ?_
    refine s_asg0 C.c0 (lo 8 _ (by decide) rfl) ?_
    refine ex_is (.int (lastP ds c)) ?_ ?_
    · -- places[-1] if places else 0
      refine ex_ifExp ?_
      refine tx_truthS (v 6 _ (by decide) rfl) rfl rfl ?_
      refine ⟨fun hi => ?_, fun hi => ?_⟩
      · -- then
        refine ex_ixS (v 6 _ (by decide) rfl) ?_ ⟨_, _, rfl, rfl⟩
        refine ex_neg ?_
        refine ex_int ?_
        refine ⟨_, rfl, ?_⟩
        refine ⟨_, _, _, _, rfl, rfl, rfl, pl_last hi, ?_⟩
        exact ⟨rfl, rfl⟩
      · -- else
        refine ex_int ?_
        exact ⟨by rw [(pl_none hi).2], rfl⟩
      skip
    show SX _ _ _ _ _
    refine sx_cons ?_
    refine s_if ?_
    refine tx_is (pL w ds m (.int c)) ?_ ?_
    · -- which == 0 and last <= moment or (which == 1 and first > moment)
      refine tx_w ?_
      refine wx_or ?_
      refine tx_is ((decide (w = 0) && decide (lastP ds c ≤ m))) ?_ ?_
      · -- which == 0 and last <= moment
        refine tx_w ?_
        refine wx_and ?_
        refine tx_cmp ?_
        refine ex_var (v 0 _ (by decide) rfl) rfl ?_
        refine ex_int ?_
        refine o_eqI ⟨_, rfl, ?_⟩
        refine ⟨fun hb0 => ?_, fun hb0 => ?_⟩
        rotate_left
        · exact ⟨by rw [hb0]; rfl, rfl⟩
        refine wx_and1 ?_
        refine tx_cmp ?_
        refine ex_var (v 8 _ (by decide) rfl) rfl ?_
        refine ex_var (v 3 _ (by decide) rfl) rfl ?_
        refine o_le ⟨_, rfl, ?_⟩
        exact ⟨by rw [hb0]; rfl, rfl⟩
      refine ⟨fun hb0 => ?_, fun hb0 => ?_⟩
      rotate_left
      · exact ⟨by rw [pL_eq hw hi2 hm, hb0]; rfl, rfl⟩
      refine wx_or1 ?_
      refine tx_is ((decide (w = 1) && decide (m < firstP ds c))) ?_ ?_
      · -- which == 1 and first > moment
        refine tx_w ?_
        refine wx_and ?_
        refine tx_cmp ?_
        refine ex_var (v 0 _ (by decide) rfl) rfl ?_
        refine ex_int ?_
        refine o_eqI ⟨_, rfl, ?_⟩
        refine ⟨fun hb0 => ?_, fun hb0 => ?_⟩
        rotate_left
        · exact ⟨by rw [hb0]; rfl, rfl⟩
        refine wx_and1 ?_
        refine tx_cmp ?_
        refine ex_var (v 7 _ (by decide) rfl) rfl ?_
        refine ex_var (v 3 _ (by decide) rfl) rfl ?_
        refine o_gt ⟨_, rfl, ?_⟩
        exact ⟨by rw [hb0]; rfl, rfl⟩
      exact ⟨by rw [pL_eq hw hi2 hm, hb0]; rfl, rfl⟩
    refine ⟨fun hc0 => ?_, fun hc0 => ?_⟩
    · -- which == 0 and last <= moment or (which == 1 and first > moment)
      refine sx_cons ?_
      refine s_append (v 4 _ (by decide) rfl) ⟨_, _, rfl, rfl⟩ ?_
      refine ex_var (v 5 _ (by decide) rfl) rfl ?_
      refine ⟨_, _, rfl, rfl, by rw [sizeLine_eq]; omega, ?_⟩
      show SX _ _ _ _ _
      refine sx_nil ?_
      show SX _ _ _ _ _
      refine sx_nil ?_
      exact ⟨_, _, _, _, _, rfl, by rw [hst, List.filter_append, hout]; simp [hc0]⟩
    · -- not which == 0 and last <= moment or (which == 1 and first > moment)
      refine sx_nil ?_
      show SX _ _ _ _ _
      refine sx_nil ?_
      exact ⟨_, _, _, _, _, rfl, by rw [hst, List.filter_append, hout]; simp [hc0]⟩
  · -- behind it
    rintro ρ' ⟨o, s5, s6, s7, s8, rfl, hout⟩
    rw [steps_len, show (n + 1 - 1).toNat = n.toNat by congr 1; omega] at hout
    show SX _ _ _ _ _
    refine sx_cons ?_
    refine s_ret ?_
    refine ex_tupleS b_tuple (v 4 _ (by decide) rfl) rfl rfl ?_
    exact ⟨none, rfl, by rw [hout]; exact hk⟩
def S__law_due : Spec := fun o as Φ => o = none ∧ ∃ w d1 d2 d3, as = [.int w, d1, d2, d3] ∧ (w = 0 ∨ w = 1) ∧ d1.gd = true ∧ d2.gd = true ∧ d3.gd = true ∧ Φ (.ret (dueD w d1 d2 d3) none)
theorem p__law_due (E : En K mg) : FnD P w K mg base 4 "_law_due" ["which", "n", "row", "moment"] S__law_due := by
  obtain ⟨fd, Fu⟩ := E.fn dd__law_due (fn_at 30 rfl)
  refine def_of (N := ["which", "n", "row", "moment", "at"]) (st := st__law_due) (E.glo "_law_due" (fa_at 71 rfl)) Fu (FunD.bindsN (ps := ["which", "n", "row", "moment"]) Fu fun _ _ _ _ _ _ us hl => match us, hl with | [_, _, _, _], _ => rfl) ⟨rfl, rfl, rfl, by decide +kernel, rfl, by decide +kernel, by decide +kernel⟩ ?_ ?_
  · intro o as Φ hS
    obtain ⟨ho, w, d1, d2, d3, ea, hw, hg1, hg2, hg3, hk⟩ := hS
    subst ea ho; rfl
  intro X A W o as Φ hS B
  obtain ⟨ho, w, d1, d2, d3, ea, hw, hg1, hg2, hg3, hk⟩ := hS
  subst ea
  obtain rfl := o_none ho
  have C := B.c
  have v := vars_m C.c0 5 (by decide +kernel)
  have lo := locs_m C.c0 B.fn 5 (by decide +kernel)
  have b_len := blt0 (x := "len") C.c0 (A.gl (E.free "len" (fa_at 80 rfl))) bt_len (by decide +kernel)
  obtain ⟨T, ht⟩ := gd_tyn hg1
  obtain ⟨T3, ht3⟩ := gd_tyn hg3
  show SX X W (defBody st__law_due) [.val (.int w), .val d1, .val d2, .val d3, .no] (Fin none Φ)
  refine sx_cons ?_
  refine s_if ?_
  refine tx_not ?_
  refine tx_truth ?_
  refine ex_call (glb0 C.c0 (by decide +kernel)) (A.fn (p__law_within E)) (C.room.mono (by decide)) ?_
  refine ax_cons ?_
  refine ex_var (v 1 _ (by decide) rfl) rfl ?_
  refine ax_cons ?_
  refine ex_int ?_
  refine ax_cons ?_
  refine ex_int ?_
  refine ax_nil ?_
  refine ⟨rfl, d1, T, _, _, rfl, ht, ?_⟩
  refine ⟨_, rfl, ?_⟩
  refine ⟨fun hc0 => ?_, fun hc0 => ?_⟩
  · -- not _law_within(n, 1, 6)
    have hf : d1.within 1 6 = false := by simpa using hc0
    rw [dueD_some (momFault_n hf)] at hk
    refine sx_cons ?_
    refine s_ret ?_
    refine ex_tup ?_
    refine ax_cons ?_
    refine ex_str ?_
    refine ax_cons ?_
    refine ex_nx ?_
    refine nx_lst ?_
    refine ax_cons ?_
    refine ex_str ?_
    refine ax_nil ?_
    refine ⟨show 1 ≤ sizeLine from by decide, ?_⟩
    refine ax_cons ?_
    refine ex_var (v 1 _ (by decide) rfl) rfl ?_
    refine ax_cons ?_
    refine ex_bl ?_
    refine ax_nil ?_
    refine ⟨show 4 ≤ sizeLine from by decide, ?_⟩
    exact ⟨none, rfl, hk⟩
  · -- not not _law_within(n, 1, 6)
    have hf : d1.within 1 6 = true := by simpa using hc0
    obtain ⟨n, rfl, hn⟩ := within_iff.mp hf
    refine sx_nil ?_
    show SX _ _ _ _ _
    refine sx_cons ?_
    refine s_asg0 C.c0 (lo 4 _ (by decide) rfl) ?_
    refine ex_call (glb0 C.c0 (by decide +kernel)) (A.fn (p__law_row_at E)) (C.room.mono (by decide)) ?_
    refine ax_cons ?_
    refine ex_var (v 1 _ (by decide) rfl) rfl ?_
    refine ax_cons ?_
    refine ex_var (v 2 _ (by decide) rfl) rfl ?_
    refine ax_nil ?_
    refine ⟨rfl, _, _, rfl, hg2, ?_⟩
    show SX _ _ _ _ _
    refine sx_cons ?_
    refine s_if ?_
    refine tx_is ((rowFault n d2).isSome) ?_ ?_
    · -- at is not None
      refine tx_cmp ?_
      refine ex_var (v 4 _ (by decide) rfl) rfl ?_
      refine ex_non ?_
      refine o_notN ⟨_, rfl, ?_⟩
      exact ⟨by cases rowFault n d2 <;> rfl, rfl⟩
    refine ⟨fun hc1 => ?_, fun hc1 => ?_⟩
    · -- at is not None
      obtain ⟨z, hr⟩ := Option.isSome_iff_exists.mp hc1
      rw [dueD_some (momFault_r hf hr)] at hk
      rw [hr]
      refine sx_cons ?_
      refine s_ret ?_
      refine ex_tup ?_
      refine ax_cons ?_
      refine ex_str ?_
      refine ax_cons ?_
      refine ex_nx ?_
      refine nx_lst ?_
      refine ax_cons ?_
      refine ex_str ?_
      refine ax_nil ?_
      refine ⟨show 1 ≤ sizeLine from by decide, ?_⟩
      refine ax_cons ?_
      refine ex_var (v 4 _ (by decide) rfl) rfl ?_
      refine ax_cons ?_
      refine ex_bl ?_
      refine ax_nil ?_
      refine ⟨show 4 ≤ sizeLine from by decide, ?_⟩
      exact ⟨none, rfl, hk⟩
    · -- not at is not None
      have hr : rowFault n d2 = none := by cases h : rowFault n d2 with | none => rfl | some z => rw [h] at hc1; cases hc1
      obtain ⟨ds, rfl, hl, hww⟩ := rowFault_none hr
      have hmf := momFault_m (d3 := d3) hf hr
      refine sx_nil ?_
      show SX _ _ _ _ _
      refine sx_cons ?_
      refine s_if ?_
      refine tx_not ?_
      refine tx_truth ?_
      refine ex_call (glb0 C.c0 (by decide +kernel)) (A.fn (p__law_within E)) (C.room.mono (by decide)) ?_
      refine ax_cons ?_
      refine ex_var (v 3 _ (by decide) rfl) rfl ?_
      refine ax_cons ?_
      refine ex_int ?_
      refine ax_cons ?_
      refine ex_len b_len ?_
      refine ex_var (v 2 _ (by decide) rfl) rfl ?_
      refine ⟨_, rfl, ?_⟩
      refine ax_nil ?_
      refine ⟨rfl, d3, T3, _, _, rfl, ht3, ?_⟩
      refine ⟨_, rfl, ?_⟩
      refine ⟨fun hc2 => ?_, fun hc2 => ?_⟩
      · -- not _law_within(moment, 0, len(row))
        have h3 : d3.within 0 ds.length = false := by simpa using hc2
        rw [if_neg (by rw [h3]; decide)] at hmf
        rw [dueD_some hmf] at hk
        refine sx_cons ?_
        refine s_ret ?_
        refine ex_tup ?_
        refine ax_cons ?_
        refine ex_str ?_
        refine ax_cons ?_
        refine ex_nx ?_
        refine nx_lst ?_
        refine ax_cons ?_
        refine ex_str ?_
        refine ax_nil ?_
        refine ⟨show 1 ≤ sizeLine from by decide, ?_⟩
        refine ax_cons ?_
        refine ex_var (v 3 _ (by decide) rfl) rfl ?_
        refine ax_cons ?_
        refine ex_bl ?_
        refine ax_nil ?_
        refine ⟨show 4 ≤ sizeLine from by decide, ?_⟩
        exact ⟨none, rfl, hk⟩
      · -- not not _law_within(moment, 0, len(row))
        have h3 : d3.within 0 ds.length = true := by simpa using hc2
        rw [if_pos h3] at hmf
        obtain ⟨m, rfl, m1, m2⟩ := within_iff.mp h3
        rw [dueD_none hmf] at hk
        refine sx_nil ?_
        show SX _ _ _ _ _
        refine sx_cons ?_
        refine s_ret ?_
        refine ex_tup ?_
        refine ax_cons ?_
        refine ex_str ?_
        refine ax_cons ?_
        refine ex_call (glb0 C.c0 (by decide +kernel)) (A.fn (p__law_lot_due E)) (C.room.mono (by decide)) ?_
        refine ax_cons ?_
        refine ex_var (v 0 _ (by decide) rfl) rfl ?_
        refine ax_cons ?_
        refine ex_var (v 1 _ (by decide) rfl) rfl ?_
        refine ax_cons ?_
        refine ex_var (v 2 _ (by decide) rfl) rfl ?_
        refine ax_cons ?_
        refine ex_var (v 3 _ (by decide) rfl) rfl ?_
        refine ax_nil ?_
        refine ⟨rfl, _, _, _, _, rfl, hw, hn, m1, allInt_of hww, hl, ?_⟩
        refine ax_nil ?_
        refine ⟨show 2 ≤ sizeLine from by decide, ?_⟩
        exact ⟨none, rfl, hk⟩
def S__law_bent_places : Spec := fun o as Φ => ∃ st n l, o = some st ∧ as = [.int n, .tup l] ∧ StOk st ∧ (1 ≤ n ∧ n ≤ 6) ∧ (D.allInt l = true ∧ l.length ≤ 80) ∧ ∀ d st2, Few 1000 d → StOk st2 → Φ (.ret d (some st2))
theorem p__law_bent_places (E : En K mg) : FnD P w K mg base 6 "_law_bent_places" ["store", "n", "row"] S__law_bent_places := by
  obtain ⟨fd, Fu⟩ := E.fn dd__law_bent_places (fn_at 31 rfl)
  refine def_of (N := ["store", "n", "row", "parts"]) (st := st__law_bent_places) (E.glo "_law_bent_places" (fa_at 72 rfl)) Fu (FunD.bindsN (ps := ["store", "n", "row"]) Fu fun _ _ _ _ _ _ us hl => match us, hl with | [_, _, _], _ => rfl) ⟨rfl, rfl, rfl, by decide +kernel, rfl, by decide +kernel, by decide +kernel⟩ ?_ ?_
  · intro o as Φ hS
    obtain ⟨st, n, l, ho, ea, hs, hn, hl, hk⟩ := hS
    subst ea ho; rfl
  intro X A W o as Φ hS B
  obtain ⟨st, n, l, ho, ea, hs, hn, hl, hk⟩ := hS
  subst ea
  obtain ⟨pp, rfl⟩ := o_some ho
  have C := B.c
  have v := vars_m C.c0 4 (by decide +kernel)
  have lo := locs_m C.c0 B.fn 4 (by decide +kernel)
  have b_len := blt0 (x := "len") C.c0 (A.gl (E.free "len" (fa_at 80 rfl))) bt_len (by decide +kernel)
  have b_list := blt0 (x := "list") C.c0 (A.gl (E.free "list" (fa_at 81 rfl))) bt_list (by decide +kernel)
  have b_tuple := blt0 (x := "tuple") C.c0 (A.gl (E.free "tuple" (fa_at 86 rfl))) bt_tuple (by decide +kernel)
  have hok : OkL 80 l := okL_int hl.1 hl.2
  have hll := hl.2
  show SX X W (defBody st__law_bent_places) [.ino pp st, .val (.int n), .val (.tup l), .no] (Fin (some (pp, _)) Φ)
  refine sx_cons ?_
  refine s_if ?_
  refine tx_truth ?_
  refine ex_callS (glb0 C.c0 (by decide +kernel)) (A.fn (p__law_rare E)) (C.room.mono (by decide)) (v 0 _ (by decide) rfl) ⟨_, _, rfl, rfl⟩ ?_
  refine ax_cons ?_
  refine ex_int ?_
  refine ax_nil ?_
  refine ⟨_, _, rfl, rfl, ?_⟩
  refine ⟨_, _, rfl, rfl, hs, sml_of (by decide), ?_⟩
  rintro b1 st hs
  refine ⟨_, rfl, ?_⟩
  refine ⟨fun hc0 => ?_, fun hc0 => ?_⟩
  · -- _law_rare(store, 3)
    refine sx_cons ?_
    refine s_asgN0 C.c0 (lo 3 _ (by decide) rfl) ?_
    refine nx_slL ?_
    refine ex_bin ?_
    refine ex_nx ?_
    refine nx_listOf b_list ?_
    refine ex_var (v 2 _ (by decide) rfl) rfl ?_
    refine ⟨_, rfl, ?_⟩
    refine ex_bin ?_
    refine ex_nx ?_
    refine nx_lst ?_
    refine ax_cons ?_
    refine ex_int ?_
    refine ax_nil ?_
    refine ⟨show 1 ≤ sizeLine from by decide, ?_⟩
    refine ex_int ?_
    refine o_rep (by decide) (by decide) (show 1 * 42 ≤ sizeLine from by decide) ?_
    refine o_addL (by rw [sizeLine_eq]; show l.length + 42 ≤ 16777216; omega) ?_
    refine ox_none ?_
    refine ox_some ?_
    refine ex_bin ?_
    refine ex_int ?_
    refine ex_callS (glb0 C.c0 (by decide +kernel)) (A.fn (p__law_take E)) (C.room.mono (by decide)) (v 0 _ (by decide) rfl) ⟨_, _, rfl, rfl⟩ ?_
    refine ax_cons ?_
    refine ex_int ?_
    refine ax_nil ?_
    refine ⟨_, _, rfl, rfl, ?_⟩
    refine ⟨_, _, rfl, rfl, hs, sml_of (by decide), ?_⟩
    rintro q st q0 q1 hs
    have hp1 : OkL 122 (l ++ (List.replicate (42 : Int).toNat [D.int 1]).flatten) := hok.app (b := 42) ⟨rfl, by decide⟩
    have hp2 : 42 ≤ (l ++ (List.replicate (42 : Int).toNat [D.int 1]).flatten).length := by rw [List.length_append]; exact Nat.le_add_left 42 _
    generalize (l ++ (List.replicate (42 : Int).toNat [D.int 1]).flatten) = l1 at hp1 hp2
    refine o_add ?_
    refine ⟨_, rfl, ?_⟩
    refine ⟨_, .inl rfl, ?_⟩
    show SX _ _ _ _ _
    rw [cut_to (by omega)]
    have hp3 : OkL 122 (l1.take (40 + q).toNat) := hp1.take
    have hp4 : 40 ≤ (l1.take (40 + q).toNat).length := by rw [List.length_take]; omega
    have hp5 := hp3.len
    generalize l1.take (40 + q).toNat = l2 at hp3 hp4 hp5
    refine sx_cons ?_
    refine s_cut (fun ρ1 => ∃ st l3, ρ1 = [.ino pp st, .val (.int n), .val (.tup l), .own l3] ∧ StOk st ∧ OkL 132 l3) ?_ ?_
    · -- if _law_rare(store, 2):
      refine s_if ?_
      refine tx_truth ?_
      refine ex_callS (glb0 C.c0 (by decide +kernel)) (A.fn (p__law_rare E)) (C.room.mono (by decide)) (v 0 _ (by decide) rfl) ⟨_, _, rfl, rfl⟩ ?_
      refine ax_cons ?_
      refine ex_int ?_
      refine ax_nil ?_
      refine ⟨_, _, rfl, rfl, ?_⟩
      refine ⟨_, _, rfl, rfl, hs, sml_of (by decide), ?_⟩
      rintro b1 st hs
      refine ⟨_, rfl, ?_⟩
      refine ⟨fun hc1 => ?_, fun hc1 => ?_⟩
      · -- _law_rare(store, 2)
        refine sx_cons ?_
        refine s_setS (v 3 _ (by decide) rfl) ?_
        refine ex_callS (glb0 C.c0 (by decide +kernel)) (A.fn (p__law_one E)) (C.room.mono (by decide)) (v 0 _ (by decide) rfl) ⟨_, _, rfl, rfl⟩ ?_
        refine ax_cons ?_
        refine ex_nx ?_
        refine nx_lst ?_
        refine ax_cons ?_
        refine ex_int ?_
        refine ax_cons ?_
        refine ex_bin ?_
        refine ex_var (v 1 _ (by decide) rfl) rfl ?_
        refine ex_int ?_
        refine o_add ?_
        refine ax_cons ?_
        refine ex_bl ?_
        refine ax_cons ?_
        refine ex_non ?_
        refine ax_cons ?_
        refine ex_str ?_
        refine ax_cons ?_
        refine ex_neg ?_
        refine ex_int ?_
        refine ⟨_, rfl, ?_⟩
        refine ax_nil ?_
        refine ⟨show 6 ≤ sizeLine from by decide, ?_⟩
        refine ax_nil ?_
        refine ⟨_, _, rfl, rfl, ?_⟩
        refine ⟨_, _, rfl, rfl, hs, (show 0 < 6 from by decide), (show 6 < 2 ^ 60 from by decide), ?_⟩
        rintro d1 st hd1 hs
        have hf1 : Few 10 d1 := few_mem (by rfl) hd1
        refine ⟨⟨_, _, rfl, rfl⟩, ?_⟩
        refine ex_callS (glb0 C.c0 (by decide +kernel)) (A.fn (p__law_edge E)) (C.room.mono (by decide)) (v 0 _ (by decide) rfl) ⟨_, _, rfl, rfl⟩ ?_
        refine ax_cons ?_
        refine ex_lenS b_len (v 3 _ (by decide) rfl) rfl rfl ?_
        refine ax_nil ?_
        refine ⟨_, _, rfl, rfl, ?_⟩
        refine ⟨_, _, rfl, rfl, hs, sml_abs (by omega) (by omega), ?_⟩
        rintro z st z0 z1 hs
        refine ⟨_, _, _, _, rfl, rfl, rfl, ixN_z z0 (by omega), ?_⟩
        show SX _ _ _ _ _
        refine sx_nil ?_
        exact ⟨_, _, rfl, hs, hp3.set hf1⟩
      · -- not _law_rare(store, 2)
        refine sx_nil ?_
        exact ⟨_, _, rfl, hs, hp3.mono (by decide)⟩
    rintro ρ1 ⟨st, l2, rfl, hs, hl2⟩
    show SX _ _ _ _ _
    refine sx_frz 3 rfl ?_
    refine sx_cons ?_
    refine s_ret ?_
    refine ex_callS (glb0 C.c0 (by decide +kernel)) (A.fn (p__law_one E)) (C.room.mono (by decide)) (v 0 _ (by decide) rfl) ⟨_, _, rfl, rfl⟩ ?_
    refine ax_cons ?_
    refine ex_nx ?_
    refine nx_lst ?_
    refine ax_cons ?_
    refine ex_tupleOf b_tuple ?_
    refine ex_var (v 3 _ (by decide) rfl) rfl ?_
    refine ⟨_, rfl, ?_⟩
    refine ax_cons ?_
    refine ex_tupleOf b_tuple ?_
    refine ex_var (v 3 _ (by decide) rfl) rfl ?_
    refine ⟨_, rfl, ?_⟩
    refine ax_cons ?_
    refine ex_var (v 3 _ (by decide) rfl) rfl ?_
    refine ax_nil ?_
    refine ⟨show 3 ≤ sizeLine from by decide, ?_⟩
    refine ax_nil ?_
    refine ⟨_, _, rfl, rfl, ?_⟩
    refine ⟨_, _, rfl, rfl, hs, (show 0 < 3 from by decide), (show 3 < 2 ^ 60 from by decide), ?_⟩
    rintro d1 st hd1 hs
    have hf1 : Few 1000 d1 := by
      simp only [List.mem_cons, List.not_mem_nil, or_false] at hd1
      rcases hd1 with rfl | rfl | rfl
      · exact hl2.tup.mono (by decide)
      · exact hl2.tup.mono (by decide)
      · exact hl2.lst.mono (by decide)
    exact ⟨_, ⟨_, rfl, rfl⟩, hk _ _ hf1 hs⟩
  · -- not _law_rare(store, 3)
    refine sx_nil ?_
    show SX _ _ _ _ _
    refine sx_cons ?_
    refine s_ret ?_
    refine ex_callS (glb0 C.c0 (by decide +kernel)) (A.fn (p__law_odd E)) (C.room.mono (by decide)) (v 0 _ (by decide) rfl) ⟨_, _, rfl, rfl⟩ ?_
    refine ax_cons ?_
    refine ex_var (v 2 _ (by decide) rfl) rfl ?_
    refine ax_cons ?_
    refine ex_int ?_
    refine ax_cons ?_
    refine ex_var (v 1 _ (by decide) rfl) rfl ?_
    refine ax_nil ?_
    refine ⟨_, _, rfl, rfl, ?_⟩
    refine ⟨_, _, _, _, rfl, rfl, hs, ⟨hl.1, by omega⟩, ⟨by omega, by omega⟩, ⟨by omega, by omega⟩, ?_⟩
    rintro d1 st hf1 hs
    exact ⟨_, ⟨_, rfl, rfl⟩, hk _ _ (hf1.mono (by decide)) hs⟩
def S__law_rows : Spec := fun o as Φ => ∃ st n, o = some st ∧ as = [.int n] ∧ StOk st ∧ (1 ≤ n ∧ n ≤ 6) ∧ ∀ rs st2, (∀ d ∈ rs, ∃ l, d = .tup l ∧ D.allInt l = true ∧ l.length ≤ 80) → rs.length = 5 → StOk st2 → Φ (.retl rs (some st2))
theorem p__law_rows (E : En K mg) : FnD P w K mg base 6 "_law_rows" ["store", "n"] S__law_rows := by
  obtain ⟨fd, Fu⟩ := E.fn dd__law_rows (fn_at 32 rfl)
  refine def_of (N := ["store", "n", "row", "full", "less", "turn", "cell"]) (st := st__law_rows) (E.glo "_law_rows" (fa_at 73 rfl)) Fu (FunD.bindsN (ps := ["store", "n"]) Fu fun _ _ _ _ _ _ us hl => match us, hl with | [_, _], _ => rfl) ⟨rfl, rfl, rfl, by decide +kernel, rfl, by decide +kernel, by decide +kernel⟩ ?_ ?_
  · intro o as Φ hS
    obtain ⟨st, n, ho, ea, hs, hn, hk⟩ := hS
    subst ea ho; rfl
  intro X A W o as Φ hS B
  obtain ⟨st, n, ho, ea, hs, hn, hk⟩ := hS
  subst ea
  obtain ⟨pp, rfl⟩ := o_some ho
  have C := B.c
  have v := vars_m C.c0 5 (by decide +kernel)
  have lo := locs_m C.c0 B.fn 5 (by decide +kernel)
  have b_range := blt0 (x := "range") C.c0 (A.gl (E.free "range" (fa_at 84 rfl))) bt_range (by decide +kernel)
  have b_tuple := blt0 (x := "tuple") C.c0 (A.gl (E.free "tuple" (fa_at 86 rfl))) bt_tuple (by decide +kernel)
  show SX X W (defBody st__law_rows) [.ino pp st, .val (.int n), .no, .no, .no, .no, .no] (Fin (some (pp, _)) Φ)
  refine sx_cons ?_
  refine s_asg0 C.c0 (lo 2 _ (by decide) rfl) ?_
  refine ex_callS (glb0 C.c0 (by decide +kernel)) (A.fn (p__law_row E)) (C.room.mono (by decide)) (v 0 _ (by decide) rfl) ⟨_, _, rfl, rfl⟩ ?_
  refine ax_cons ?_
  refine ex_var (v 1 _ (by decide) rfl) rfl ?_
  refine ax_cons ?_
  refine ex_int ?_
  refine ax_nil ?_
  refine ⟨_, _, rfl, rfl, ?_⟩
  refine ⟨_, _, _, rfl, rfl, hs, hn.1, hn.2, by decide, by decide, ?_⟩
  rintro l1 st g1 g1l hs
  show SX _ _ _ _ _
  refine sx_cons ?_
  refine s_asg0 C.c0 (lo 3 _ (by decide) rfl) ?_
  refine ex_tupleOf b_tuple ?_
  refine ex_nx ?_
  refine nx_mapJ (j := 5) C (blkOk_of C.c0 ⟨rfl, by decide +kernel, by decide +kernel, by decide +kernel, by decide +kernel⟩) rfl (by decide +kernel) ?_
  refine ix_range1 b_range ?_
  refine ex_int ?_
  refine ⟨_, rfl, by omega, by omega, ?_⟩
  refine ⟨by rw [steps_len, sizeLine_eq]; decide, id, fun i acc ρ' => ∃ st, ρ' = [.ino pp st, .val (.int n), .val (.tup l1), .no, .no, .no, .no] ∧ StOk st ∧ D.allInt acc = true ∧ acc.length ≤ i, ⟨_, rfl, hs, rfl, Nat.le_refl _⟩, ?_, ?_⟩
  · -- an item
    intro i d0 acc ρ' hd0 hJ0 X2 blk2 C2
    have A2 := A.blk blk2
    obtain ⟨st, rfl, hs, ga, gl⟩ := hJ0
    show _ ∧ _
    refine ⟨fun ht0 X3 blk3 C3 => ?_, fun ht0 => ?_⟩
    rotate_left
    · cases ht0
    have A3 := A.blk blk3
    refine ex_bin ?_
    refine ex_int ?_
    refine ex_callS (glb0 C3.c0 (by decide +kernel)) (A3.fn (p__law_take E)) (C3.room.mono (by decide)) (vr C3.c0 0 rfl (by decide +kernel)) ⟨_, _, rfl, rfl⟩ ?_
    refine ax_cons ?_
    refine ex_var (vr C3.c0 1 rfl (by decide +kernel)) rfl ?_
    refine ax_nil ?_
    refine ⟨_, _, rfl, rfl, ?_⟩
    refine ⟨_, _, rfl, rfl, hs, sml_abs (by omega) (by omega), ?_⟩
    rintro q st q0 q1 hs
    refine o_add ?_
    exact ⟨_, rfl, hs, by rw [allInt_app, ga]; rfl, by rw [List.length_append]; exact Nat.succ_le_succ gl⟩
  rintro l2 ρ' ⟨st, rfl, hs, g2, g2l⟩
  rw [steps_len] at g2l
  refine ⟨_, rfl, ?_⟩
  show SX _ _ _ _ _
  refine sx_cons ?_
  refine s_asg0 C.c0 (lo 4 _ (by decide) rfl) ?_
  refine ex_tupleOf b_tuple ?_
  refine ex_nx ?_
  refine nx_mapJ (j := 6) C (blkOk_of C.c0 ⟨rfl, by decide +kernel, by decide +kernel, by decide +kernel, by decide +kernel⟩) rfl (by decide +kernel) ?_
  refine ix_tup ?_
  refine ex_callS (glb0 C.c0 (by decide +kernel)) (A.fn (p__law_row E)) (C.room.mono (by decide)) (v 0 _ (by decide) rfl) ⟨_, _, rfl, rfl⟩ ?_
  refine ax_cons ?_
  refine ex_var (v 1 _ (by decide) rfl) rfl ?_
  refine ax_cons ?_
  refine ex_int ?_
  refine ax_nil ?_
  refine ⟨_, _, rfl, rfl, ?_⟩
  refine ⟨_, _, _, rfl, rfl, hs, hn.1, hn.2, by decide, by decide, ?_⟩
  rintro l3 st g3 g3l hs
  refine ⟨_, rfl, ?_⟩
  refine ⟨by rw [sizeLine_eq]; omega, id, fun i acc ρ' => ∃ st, ρ' = [.ino pp st, .val (.int n), .val (.tup l1), .val (.tup l2), .no, .no, .no] ∧ StOk st ∧ D.allInt acc = true ∧ acc.length ≤ i, ⟨_, rfl, hs, rfl, Nat.le_refl _⟩, ?_, ?_⟩
  · -- an item
    intro i d0 acc ρ' hd0 hJ0 X2 blk2 C2
    have A2 := A.blk blk2
    obtain ⟨st, rfl, hs, ga, gl⟩ := hJ0
    obtain ⟨c, rfl⟩ := allInt_mem.mp g3 d0 (List.mem_of_getElem? hd0)
    show TX _ _ _ _ _
    refine tx_cmp ?_
    refine ex_var (vr C2.c0 6 rfl (by decide +kernel)) rfl ?_
    refine ex_bin ?_
    refine ex_int ?_
    refine ex_callS (glb0 C2.c0 (by decide +kernel)) (A2.fn (p__law_take E)) (C2.room.mono (by decide)) (vr C2.c0 0 rfl (by decide +kernel)) ⟨_, _, rfl, rfl⟩ ?_
    refine ax_cons ?_
    refine ex_var (vr C2.c0 1 rfl (by decide +kernel)) rfl ?_
    refine ax_nil ?_
    refine ⟨_, _, rfl, rfl, ?_⟩
    refine ⟨_, _, rfl, rfl, hs, sml_abs (by omega) (by omega), ?_⟩
    rintro q st q0 q1 hs
    refine o_add ?_
    refine o_neI ⟨_, rfl, ?_⟩
    refine ⟨fun ht0 X3 blk3 C3 => ?_, fun ht0 => ?_⟩
    rotate_left
    · exact ⟨_, rfl, hs, ga, Nat.le_succ_of_le gl⟩
    have A3 := A.blk blk3
    refine ex_var (vr C3.c0 6 rfl (by decide +kernel)) rfl ?_
    exact ⟨_, rfl, hs, by rw [allInt_app, ga]; rfl, by rw [List.length_append]; exact Nat.succ_le_succ gl⟩
  rintro l4 ρ' ⟨st, rfl, hs, g4, g4l⟩
  refine ⟨_, rfl, ?_⟩
  show SX _ _ _ _ _
  refine sx_cons ?_
  refine s_retNX ?_
  refine nx_lst ?_
  refine ax_cons ?_
  refine ex_callS (glb0 C.c0 (by decide +kernel)) (A.fn (p__law_row E)) (C.room.mono (by decide)) (v 0 _ (by decide) rfl) ⟨_, _, rfl, rfl⟩ ?_
  refine ax_cons ?_
  refine ex_var (v 1 _ (by decide) rfl) rfl ?_
  refine ax_cons ?_
  refine ex_int ?_
  refine ax_nil ?_
  refine ⟨_, _, rfl, rfl, ?_⟩
  refine ⟨_, _, _, rfl, rfl, hs, hn.1, hn.2, by decide, by decide, ?_⟩
  rintro l3 st g3 g3l hs
  refine ax_cons ?_
  refine ex_var (v 3 _ (by decide) rfl) rfl ?_
  refine ax_cons ?_
  refine ex_bin ?_
  refine ex_var (v 2 _ (by decide) rfl) rfl ?_
  refine ex_revT ?_
  refine ex_var (v 2 _ (by decide) rfl) rfl ?_
  refine ⟨_, rfl, ?_⟩
  refine o_addT (by rw [List.length_reverse, sizeLine_eq]; omega) ?_
  refine ax_cons ?_
  refine ex_var (v 4 _ (by decide) rfl) rfl ?_
  refine ax_cons ?_
  refine ex_callS (glb0 C.c0 (by decide +kernel)) (A.fn (p__law_full_order E)) (C.room.mono (by decide)) (v 0 _ (by decide) rfl) ⟨_, _, rfl, rfl⟩ ?_
  refine ax_cons ?_
  refine ex_var (v 1 _ (by decide) rfl) rfl ?_
  refine ax_nil ?_
  refine ⟨_, _, rfl, rfl, ?_⟩
  refine ⟨_, _, rfl, rfl, hs, hn.1, hn.2, ?_⟩
  rintro l5 st g5 g5l hs
  refine ax_nil ?_
  refine ⟨show 5 ≤ sizeLine from by decide, ?_⟩
  exact ⟨_, ⟨_, rfl, rfl⟩, hk _ _ (fun d hd => by
    simp only [List.mem_cons, List.not_mem_nil, or_false] at hd
    rcases hd with rfl | rfl | rfl | rfl | rfl
    · exact ⟨_, rfl, by assumption, by omega⟩
    · exact ⟨_, rfl, g2, by omega⟩
    · exact ⟨_, rfl, by rw [allInt_app, g1, allInt_rev g1]; rfl, by rw [List.length_append, List.length_reverse]; omega⟩
    · exact ⟨_, rfl, g4, by omega⟩
    · exact ⟨_, rfl, g5, by omega⟩) rfl hs⟩
theorem dueD_few {w : Int} {d1 d2 d3 : D} (h1 : Few 1000 d1) (h3 : Few 1000 d3) : (dueD w d1 d2 d3).gd = true ∧ (dueD w d1 d2 d3).nodes < 1000000 := by
  cases hm : momFault d1 d2 d3 with
  | some cz =>
    obtain ⟨c, z⟩ := cz
    rw [dueD_some hm]
    have hz : Few 1000 z := by
      unfold momFault at hm
      split at hm
      · cases hm; exact h1
      · split at hm
        · cases hm; exact ⟨rfl, show 1 ≤ 1000 from by decide⟩
        · split at hm
          · split at hm
            · cases hm
            · cases hm; exact h3
          · cases hm
    have h2 := hz.2
    exact ⟨by simp [D.gd, D.gdL, hz.1], by simp only [D.nodes, D.nodesL]; omega⟩
  | none =>
    obtain ⟨n, ds, m, rfl, rfl, rfl, hn, hl, hw, hmm⟩ := momFault_none hm
    rw [dueD_none hm]
    have ha : D.allInt (lotL w n ds m) = true := allInt_mem.mpr fun d hd => by
      obtain ⟨j, _, e⟩ := mem_steps (List.mem_filter.mp hd).1
      exact ⟨_, e⟩
    have hle : (lotL w n ds m).length ≤ 6 := by
      refine Nat.le_trans (List.length_filter_le _ _) ?_
      rw [steps_len]
      omega
    have h2 := nodes_int ha
    exact ⟨by simp [D.gd, D.gdL, gd_int ha], by simp only [D.nodes, D.nodesL]; omega⟩
theorem few_int {i : Int} : Few 1000 (.int i) := ⟨rfl, show 1 ≤ 1000 from by decide⟩
def S_law : Spec := fun o as Φ => o = none ∧ ∃ ns : List D, as = [.frz ns] ∧ D.allInt ns = true ∧ Φ (.ret (.bl true) none)
theorem o_law (E : En K mg) {fd : FuncData} (Fu : FunD K dd_law.name dd_law.qual dd_law.params dd_law.body dd_law.scope (dd_law.dvs K) (dd_law.kws K) (He.fAd K dd_law.at_) fd) : FnOk P w K mg base (L2N.CX P w) 8 (He.fAd K dd_law.at_) fd ["script"] (spD K S_law) := by
  refine def_ok (N := ["script", "store", "n", "rows", "turn", "row", "moment", "which", "many"]) (st := st_law) Fu ⟨rfl, rfl, rfl, by decide +kernel, rfl, by decide +kernel, by decide +kernel⟩ ?_ ?_
  · intro o as Φ hS
    obtain ⟨ho, ns, ea, hns, hk⟩ := hS
    subst ea ho; rfl
  intro X A W o as Φ hS B
  obtain ⟨ho, ns, ea, hns, hk⟩ := hS
  subst ea
  obtain rfl := o_none ho
  have C := B.c
  have v := vars_m C.c0 9 (by decide +kernel)
  have lo := locs_m C.c0 B.fn 9 (by decide +kernel)
  have b_int := blt0 (x := "int") C.c0 (A.gl (E.free "int" (fa_at 78 rfl))) bt_int (by decide +kernel)
  have b_isinstance := blt0 (x := "isinstance") C.c0 (A.gl (E.free "isinstance" (fa_at 79 rfl))) bt_isinstance (by decide +kernel)
  have b_len := blt0 (x := "len") C.c0 (A.gl (E.free "len" (fa_at 80 rfl))) bt_len (by decide +kernel)
  have b_list := blt0 (x := "list") C.c0 (A.gl (E.free "list" (fa_at 81 rfl))) bt_list (by decide +kernel)
  have b_range := blt0 (x := "range") C.c0 (A.gl (E.free "range" (fa_at 84 rfl))) bt_range (by decide +kernel)
  have b_tuple := blt0 (x := "tuple") C.c0 (A.gl (E.free "tuple" (fa_at 86 rfl))) bt_tuple (by decide +kernel)
  show SX X W (defBody st_law) [.val (.frz ns), .no, .no, .no, .no, .no, .no, .no, .no] (Fin none Φ)
  refine sx_cons ?_
  refine s_asgN0 C.c0 (lo 1 _ (by decide) rfl) ?_
  refine nx_call (glb0 C.c0 (by decide +kernel)) (A.fn (p__law_store E)) (C.room.mono (by decide)) ?_
  refine ax_cons ?_
  refine ex_var (v 0 _ (by decide) rfl) rfl ?_
  refine ax_nil ?_
  refine ⟨rfl, _, rfl, hns, ?_⟩
  rintro st hs
  show SX _ _ _ _ _
  refine sx_cons ?_
  refine s_asg0 C.c0 (lo 2 _ (by decide) rfl) ?_
  refine ex_callS (glb0 C.c0 (by decide +kernel)) (A.fn (p__law_n E)) (C.room.mono (by decide)) (v 1 _ (by decide) rfl) ⟨_, _, rfl, rfl⟩ ?_
  refine ax_nil ?_
  refine ⟨_, _, rfl, rfl, ?_⟩
  refine ⟨_, rfl, rfl, hs, ?_⟩
  rintro n st hn0 hn1 hs
  show SX _ _ _ _ _
  refine sx_cons ?_
  refine s_asg0 C.c0 (lo 3 _ (by decide) rfl) ?_
  refine ex_callS (glb0 C.c0 (by decide +kernel)) (A.fn (p__law_rows E)) (C.room.mono (by decide)) (v 1 _ (by decide) rfl) ⟨_, _, rfl, rfl⟩ ?_
  refine ax_cons ?_
  refine ex_var (v 2 _ (by decide) rfl) rfl ?_
  refine ax_nil ?_
  refine ⟨_, _, rfl, rfl, ?_⟩
  refine ⟨_, _, rfl, rfl, hs, ⟨hn0, hn1⟩, ?_⟩
  rintro rs st hrs hr5 hs
  show SX _ _ _ _ _
  refine sx_cons ?_
  refine s_for C ?_
  refine ix_range1 b_range ?_
  refine ex_int ?_
  refine ⟨_, rfl, by omega, by omega, ?_⟩
  refine ⟨fun i ρ' => ∃ s4 s5 s6 s7, ρ' = [.val (.frz ns), .own st, .val (.int n), .val (.lst rs), s4, s5, s6, s7, .no], ⟨_, _, _, _, rfl⟩, ?_, ?_⟩
  · -- a turn
    rintro i d0 ρ' hd ⟨s4, s5, s6, s7, rfl⟩
    obtain ⟨j, hj, rfl⟩ := mem_steps (List.mem_of_getElem? hd)
    have hj2 : j < 2 := hj
    obtain ⟨t, ht⟩ : ∃ t : Int, t = 0 + (j : Int) * 1 := ⟨_, rfl⟩
    rw [← ht]
    have ht2 : 0 ≤ t ∧ t ≤ 1 := by omega
    refine gx_name C (lo 4 _ (by decide) rfl) ?_
    refine sx_cons ?_
    refine s_for C ?_
    refine ix_list ?_
    refine ex_var (v 3 _ (by decide) rfl) rfl ?_
    refine ⟨_, .inl rfl, ?_⟩
    refine ⟨fun i ρ' => ∃ s5 s6 s7, ρ' = [.val (.frz ns), .own st, .val (.int n), .val (.lst rs), .val (.int t), s5, s6, s7, .no], ⟨_, _, _, rfl⟩, ?_, ?_⟩
    · -- a turn
      rintro i2 d2 ρ' hd2 ⟨s5, s6, s7, rfl⟩
      obtain ⟨l, rfl, hl1, hl2⟩ := hrs d2 (List.mem_of_getElem? hd2)
      refine gx_name C (lo 5 _ (by decide) rfl) ?_
      refine sx_cons ?_
      refine s_for C ?_
      refine ix_range3 b_range ?_
      refine ax_cons ?_
      refine ex_int ?_
      refine ax_cons ?_
      refine ex_bin ?_
      refine ex_len b_len ?_
      refine ex_var (v 5 _ (by decide) rfl) rfl ?_
      refine ⟨_, (by first | rfl | exact (Option.isSome_iff_exists.mp hi).choose_spec), ?_⟩
      refine ex_int ?_
      refine o_add ?_
      refine ax_cons ?_
      refine ex_bin ?_
      refine ex_int ?_
      refine ex_bin ?_
      refine ex_int ?_
      refine ex_var (v 4 _ (by decide) rfl) rfl ?_
      refine o_mul (by exact .inr ⟨by omega, by omega⟩) ?_
      refine o_add ?_
      refine ax_nil ?_
      refine ⟨_, _, _, _, rfl, rgC_up (by omega) (by omega) (by omega) (by omega), ?_⟩
      refine ⟨fun i ρ' => ∃ s6 s7, ρ' = [.val (.frz ns), .own st, .val (.int n), .val (.lst rs), .val (.int t), .val (.tup l), s6, s7, .no], ⟨_, _, rfl⟩, ?_, ?_⟩
      · -- a turn
        rintro i3 d3 ρ' hd3 ⟨s6, s7, rfl⟩
        obtain ⟨j3, hj3, rfl⟩ := mem_steps (List.mem_of_getElem? hd3)
        generalize (0 : Int) + (j3 : Int) * (1 + 6 * t) = m
        refine gx_name C (lo 6 _ (by decide) rfl) ?_
        refine sx_cons ?_
        refine s_for C ?_
        refine ix_range1 b_range ?_
        refine ex_int ?_
        refine ⟨_, rfl, by omega, by omega, ?_⟩
        refine ⟨fun i ρ' => ∃ s7, ρ' = [.val (.frz ns), .own st, .val (.int n), .val (.lst rs), .val (.int t), .val (.tup l), .val (.int m), s7, .no], ⟨_, rfl⟩, ?_, ?_⟩
        · -- a turn
          rintro i4 d4 ρ' hd4 ⟨s7, rfl⟩
          obtain ⟨j4, hj4, rfl⟩ := mem_steps (List.mem_of_getElem? hd4)
          have hj5 : j4 < 2 := hj4
          obtain ⟨w, hwe⟩ : ∃ w : Int, w = 0 + (j4 : Int) * 1 := ⟨_, rfl⟩
          rw [← hwe]
          have hw : w = 0 ∨ w = 1 := by omega
          refine gx_name C (lo 7 _ (by decide) rfl) ?_
          refine sx_cons ?_
          refine s_if ?_
          refine tx_is (false) ?_ ?_
          · -- not _law_match(_law_ask(which, n, row, moment), _law_due(which, n, row, moment))
            refine tx_not ?_
            refine tx_truth ?_
            refine ex_call (glb0 C.c0 (by decide +kernel)) (A.fn (p__law_match E)) (C.room.mono (by decide)) ?_
            refine ax_cons ?_
            refine ex_call (glb0 C.c0 (by decide +kernel)) (A.fn (p__law_ask E)) (C.room.mono (by decide)) ?_
            refine ax_cons ?_
            refine ex_var (v 7 _ (by decide) rfl) rfl ?_
            refine ax_cons ?_
            refine ex_var (v 2 _ (by decide) rfl) rfl ?_
            refine ax_cons ?_
            refine ex_var (v 5 _ (by decide) rfl) rfl ?_
            refine ax_cons ?_
            refine ex_var (v 6 _ (by decide) rfl) rfl ?_
            refine ax_nil ?_
            refine ⟨rfl, w, _, _, _, rfl, hw, rfl, gd_int hl1, rfl, ?_⟩
            refine ax_cons ?_
            refine ex_call (glb0 C.c0 (by decide +kernel)) (A.fn (p__law_due E)) (C.room.mono (by decide)) ?_
            refine ax_cons ?_
            refine ex_var (v 7 _ (by decide) rfl) rfl ?_
            refine ax_cons ?_
            refine ex_var (v 2 _ (by decide) rfl) rfl ?_
            refine ax_cons ?_
            refine ex_var (v 5 _ (by decide) rfl) rfl ?_
            refine ax_cons ?_
            refine ex_var (v 6 _ (by decide) rfl) rfl ?_
            refine ax_nil ?_
            refine ⟨rfl, w, _, _, _, rfl, hw, rfl, gd_int hl1, rfl, ?_⟩
            refine ax_nil ?_
            refine ⟨rfl, _, rfl, (dueD_few few_int few_int).1, (dueD_few few_int few_int).2, ?_⟩
            refine ⟨_, rfl, ?_⟩
            exact ⟨rfl, rfl⟩
          refine ⟨fun hc0 => ?_, fun hc0 => ?_⟩
          · -- not _law_match(_law_ask(which, n, row, moment), _law_due(which, n, row, moment))
            cases hc0
          · -- not not _law_match(_law_ask(which, n, row, moment), _law_due(which, n, row, moment))
            refine sx_nil ?_
            show SX _ _ _ _ _
            refine sx_nil ?_
            exact ⟨_, rfl⟩
        · -- behind it
          rintro ρ' ⟨s7, rfl⟩
          show SX _ _ _ _ _
          refine sx_nil ?_
          exact ⟨_, _, rfl⟩
      · -- behind it
        rintro ρ' ⟨s6, s7, rfl⟩
        show SX _ _ _ _ _
        refine sx_nil ?_
        exact ⟨_, _, _, rfl⟩
    · -- behind it
      rintro ρ' ⟨s5, s6, s7, rfl⟩
      show SX _ _ _ _ _
      refine sx_nil ?_
      exact ⟨_, _, _, _, rfl⟩
  · -- behind it
    rintro ρ' ⟨s4, s5, s6, s7, rfl⟩
    show SX _ _ _ _ _
    refine sx_cons ?_
    refine s_for C ?_
    refine ix_range1 b_range ?_
    refine ex_int ?_
    refine ⟨_, rfl, by omega, by omega, ?_⟩
    refine ⟨fun i ρ' => ∃ st s4 s5 s6 s7 s8, ρ' = [.val (.frz ns), .own st, .val (.int n), .val (.lst rs), s4, s5, s6, s7, s8] ∧ StOk st, ⟨_, _, _, _, _, _, rfl, hs⟩, ?_, ?_⟩
    · -- a turn
      rintro i d0 ρ' hd ⟨st, s4, s5, s6, s7, s8, rfl, hs⟩
      obtain ⟨j, hj, rfl⟩ := mem_steps (List.mem_of_getElem? hd)
      generalize (0 : Int) + (j : Int) * 1 = t
      refine gx_name C (lo 4 _ (by decide) rfl) ?_
      refine sx_cons ?_
      refine s_asg0 C.c0 (lo 5 _ (by decide) rfl) ?_
      refine ex_callS (glb0 C.c0 (by decide +kernel)) (A.fn (p__law_one E)) (C.room.mono (by decide)) (v 1 _ (by decide) rfl) ⟨_, _, rfl, rfl⟩ ?_
      refine ax_cons ?_
      refine ex_var (v 3 _ (by decide) rfl) rfl ?_
      refine ax_nil ?_
      refine ⟨_, _, rfl, rfl, ?_⟩
      refine ⟨_, _, rfl, rfl, hs, by omega, by omega, ?_⟩
      rintro dl st hdl hs
      obtain ⟨l, rfl, hl1, hl2⟩ := hrs dl hdl
      show SX _ _ _ _ _
      refine sx_cons ?_
      refine s_asg0 C.c0 (lo 8 _ (by decide) rfl) ?_
      refine ex_var (v 2 _ (by decide) rfl) rfl ?_
      show SX _ _ _ _ _
      refine sx_cons ?_
      refine s_cut (fun ρ1 => ∃ st dm, ρ1 = [.val (.frz ns), .own st, .val (.int n), .val (.lst rs), .val (.int t), .val (.tup l), s6, s7, .val dm] ∧ StOk st ∧ Few 1000 dm) ?_ ?_
      · -- if int(turn) % 3 == 0:
        refine s_if ?_
        refine tx_cmp ?_
        refine ex_bin ?_
        refine ex_intI b_int ?_
        refine ex_var (v 4 _ (by decide) rfl) rfl ?_
        refine ⟨_, rfl, ?_⟩
        refine ex_int ?_
        refine o_mod (by decide) ?_
        refine ex_int ?_
        refine o_eqI ⟨_, rfl, ?_⟩
        refine ⟨fun hc1 => ?_, fun hc1 => ?_⟩
        · -- int(turn) % 3 == 0
          refine sx_cons ?_
          refine s_asg0 C.c0 (lo 8 _ (by decide) rfl) ?_
          refine ex_callS (glb0 C.c0 (by decide +kernel)) (A.fn (p__law_near E)) (C.room.mono (by decide)) (v 1 _ (by decide) rfl) ⟨_, _, rfl, rfl⟩ ?_
          refine ax_cons ?_
          refine ex_int ?_
          refine ax_cons ?_
          refine ex_int ?_
          refine ax_nil ?_
          refine ⟨_, _, rfl, rfl, ?_⟩
          refine ⟨_, _, _, rfl, rfl, hs, ⟨by decide, by decide⟩, ⟨by decide, by decide⟩, ?_⟩
          rintro dm st hdm hs
          have hdm := hdm.mono (show 10 ≤ 1000 from by decide)
          show SX _ _ _ _ _
          refine sx_nil ?_
          exact ⟨_, _, rfl, hs, hdm⟩
        · -- not int(turn) % 3 == 0
          refine sx_nil ?_
          exact ⟨_, _, rfl, hs, few_int⟩
      rintro ρ1 ⟨st, dm, rfl, hs, hdm⟩
      show SX _ _ _ _ _
      refine sx_cons ?_
      refine s_cut (fun ρ1 => ∃ st dr, ρ1 = [.val (.frz ns), .own st, .val (.int n), .val (.lst rs), .val (.int t), .val dr, s6, s7, .val dm] ∧ StOk st ∧ Few 1000 dr) ?_ ?_
      · -- if int(turn) % 4 < 2:
        refine s_if ?_
        refine tx_cmp ?_
        refine ex_bin ?_
        refine ex_intI b_int ?_
        refine ex_var (v 4 _ (by decide) rfl) rfl ?_
        refine ⟨_, rfl, ?_⟩
        refine ex_int ?_
        refine o_mod (by decide) ?_
        refine ex_int ?_
        refine o_lt ⟨_, rfl, ?_⟩
        refine ⟨fun hc2 => ?_, fun hc2 => ?_⟩
        · -- int(turn) % 4 < 2
          refine sx_cons ?_
          refine s_asg0 C.c0 (lo 5 _ (by decide) rfl) ?_
          refine ex_callS (glb0 C.c0 (by decide +kernel)) (A.fn (p__law_bent_places E)) (C.room.mono (by decide)) (v 1 _ (by decide) rfl) ⟨_, _, rfl, rfl⟩ ?_
          refine ax_cons ?_
          refine ex_var (v 2 _ (by decide) rfl) rfl ?_
          refine ax_cons ?_
          refine ex_var (v 5 _ (by decide) rfl) rfl ?_
          refine ax_nil ?_
          refine ⟨_, _, rfl, rfl, ?_⟩
          refine ⟨_, _, _, rfl, rfl, hs, ⟨hn0, hn1⟩, ⟨hl1, hl2⟩, ?_⟩
          rintro dr st hdr hs
          show SX _ _ _ _ _
          refine sx_nil ?_
          exact ⟨_, _, rfl, hs, hdr⟩
        · -- not int(turn) % 4 < 2
          refine sx_nil ?_
          exact ⟨_, _, rfl, hs, (okL_int (m := 80) hl1 hl2).tup.mono (by decide)⟩
      rintro ρ1 ⟨st, dr, rfl, hs, hdr⟩
      show SX _ _ _ _ _
      refine sx_cons ?_
      refine s_asg0 C.c0 (lo 6 _ (by decide) rfl) ?_
      refine ex_callS (glb0 C.c0 (by decide +kernel)) (A.fn (p__law_near E)) (C.room.mono (by decide)) (v 1 _ (by decide) rfl) ⟨_, _, rfl, rfl⟩ ?_
      refine ax_cons ?_
      refine ex_int ?_
      refine ax_cons ?_
      obtain ⟨Tr, htr⟩ := gd_tyn hdr.1
      refine ex_gen (P := fun i => -(2 ^ 50) < i ∧ i < 2 ^ 50) ?_ ?_
      · -- len(row) if isinstance(row, (list, tuple)) else 3
        refine ex_ifExp ?_
        refine tx_truth ?_
        refine ex_isiT (Cs := ["list", "tuple"]) b_isinstance ?_
        refine ex_var (v 5 _ (by decide) rfl) rfl ?_
        refine ax_cons ?_
        refine ex_bty b_list.g b_list.m b_list.v ?_
        refine ax_cons ?_
        refine ex_bty b_tuple.g b_tuple.m b_tuple.v ?_
        refine ax_nil ?_
        refine ⟨Tr, _, rfl, (show 2 ≤ sizeLine from by decide), htr, kits_lt hdr.1 htr, ?_⟩
        refine ⟨_, rfl, ?_⟩
        refine ⟨fun hi => ?_, fun hi => ?_⟩
        · -- then
          refine ex_len b_len ?_
          refine ex_var (v 5 _ (by decide) rfl) rfl ?_
          refine ⟨_, (by first | rfl | exact (Option.isSome_iff_exists.mp hi).choose_spec), ?_⟩
          have hsl := seq_len (Option.isSome_iff_exists.mp hi).choose_spec hdr
          exact ⟨_, rfl, ⟨by omega, by omega⟩, rfl⟩
        · -- else
          refine ex_int ?_
          exact ⟨_, rfl, ⟨by omega, by omega⟩, rfl⟩
        skip
      intro lh hlh
      refine ax_nil ?_
      refine ⟨_, _, rfl, rfl, ?_⟩
      refine ⟨_, _, _, rfl, rfl, hs, ⟨by decide, by decide⟩, hlh, ?_⟩
      rintro dx st hdx hs
      have hdx := hdx.mono (show 10 ≤ 1000 from by decide)
      show SX _ _ _ _ _
      refine sx_cons ?_
      refine s_for C ?_
      refine ix_range1 b_range ?_
      refine ex_int ?_
      refine ⟨_, rfl, by omega, by omega, ?_⟩
      refine ⟨fun i ρ' => ∃ s7, ρ' = [.val (.frz ns), .own st, .val (.int n), .val (.lst rs), .val (.int t), .val dr, .val dx, s7, .val dm], ⟨_, rfl⟩, ?_, ?_⟩
      · -- a turn
        rintro i4 d4 ρ' hd4 ⟨s7, rfl⟩
        obtain ⟨j4, hj4, rfl⟩ := mem_steps (List.mem_of_getElem? hd4)
        have hj5 : j4 < 2 := hj4
        obtain ⟨w, hwe⟩ : ∃ w : Int, w = 0 + (j4 : Int) * 1 := ⟨_, rfl⟩
        rw [← hwe]
        have hw : w = 0 ∨ w = 1 := by omega
        refine gx_name C (lo 7 _ (by decide) rfl) ?_
        refine sx_cons ?_
        refine s_if ?_
        refine tx_is (false) ?_ ?_
        · -- not _law_match(_law_ask(which, many, row, moment), _law_due(which, many, row, moment))
          refine tx_not ?_
          refine tx_truth ?_
          refine ex_call (glb0 C.c0 (by decide +kernel)) (A.fn (p__law_match E)) (C.room.mono (by decide)) ?_
          refine ax_cons ?_
          refine ex_call (glb0 C.c0 (by decide +kernel)) (A.fn (p__law_ask E)) (C.room.mono (by decide)) ?_
          refine ax_cons ?_
          refine ex_var (v 7 _ (by decide) rfl) rfl ?_
          refine ax_cons ?_
          refine ex_var (v 8 _ (by decide) rfl) rfl ?_
          refine ax_cons ?_
          refine ex_var (v 5 _ (by decide) rfl) rfl ?_
          refine ax_cons ?_
          refine ex_var (v 6 _ (by decide) rfl) rfl ?_
          refine ax_nil ?_
          refine ⟨rfl, w, _, _, _, rfl, hw, hdm.1, hdr.1, hdx.1, ?_⟩
          refine ax_cons ?_
          refine ex_call (glb0 C.c0 (by decide +kernel)) (A.fn (p__law_due E)) (C.room.mono (by decide)) ?_
          refine ax_cons ?_
          refine ex_var (v 7 _ (by decide) rfl) rfl ?_
          refine ax_cons ?_
          refine ex_var (v 8 _ (by decide) rfl) rfl ?_
          refine ax_cons ?_
          refine ex_var (v 5 _ (by decide) rfl) rfl ?_
          refine ax_cons ?_
          refine ex_var (v 6 _ (by decide) rfl) rfl ?_
          refine ax_nil ?_
          refine ⟨rfl, w, _, _, _, rfl, hw, hdm.1, hdr.1, hdx.1, ?_⟩
          refine ax_nil ?_
          refine ⟨rfl, _, rfl, (dueD_few hdm hdx).1, (dueD_few hdm hdx).2, ?_⟩
          refine ⟨_, rfl, ?_⟩
          exact ⟨rfl, rfl⟩
        refine ⟨fun hc3 => ?_, fun hc3 => ?_⟩
        · -- not _law_match(_law_ask(which, many, row, moment), _law_due(which, many, row, moment))
          cases hc3
        · -- not not _law_match(_law_ask(which, many, row, moment), _law_due(which, many, row, moment))
          refine sx_nil ?_
          show SX _ _ _ _ _
          refine sx_nil ?_
          exact ⟨_, rfl⟩
      · -- behind it
        rintro ρ' ⟨s7, rfl⟩
        show SX _ _ _ _ _
        refine sx_nil ?_
        exact ⟨_, _, _, _, _, _, rfl, hs⟩
    · -- behind it
      rintro ρ' ⟨st, s4, s5, s6, s7, s8, rfl, hs⟩
      show SX _ _ _ _ _
      refine sx_cons ?_
      refine s_ret ?_
      refine ex_bl ?_
      exact ⟨none, rfl, hk⟩
end
end DL.K21
set_option maxHeartbeats 0
namespace DL.K21
open PySem PySem.Spec PyProof.Rows L2 _root_.K21
theorem facts {P : Program} {w : World} {K : PySem.W.Frag} {h : Heap} {mg : Str → Option Value} {f : Addr} (X : K.In h) (G : h.Ns mainGlobals mg) (hfa : mg ("law" : Str) = some (.ref f)) (c : He.SaysD fa fn K) (hx : ex K = true) :
    ∃ fd : FuncData, (∀ (s : Shared) (v : Value), BindsTo s fd ⟨[v], []⟩ [("script", v)]) ∧ ∀ base : Heap, K.In base → base.Ns mainGlobals mg → FnOk P w K mg base (L2N.CX P w) 8 f fd ["script"] (spD K S_law) := by
  have E : En K mg := ⟨fun x hx => He.glo_ok X G (c.facts hx), fun x hx => He.free_ok X G (c.facts hx), fun d hd => c.defs hd, hx⟩
  obtain ⟨fd, F⟩ := E.fn dd_law (fn_at 33 rfl)
  have e := hfa.symm.trans (E.glo "law" (fa_at 74 rfl))
  cases e
  have b := FunD.bindsA (ps := ["script"]) F fun _ _ _ _ _ _ us hl => match us, hl with | [_], _ => rfl
  exact ⟨fd, fun s v => b s [v] rfl, fun base _ _ => o_law E F⟩
theorem start_law {K : PySem.W.Frag} (H : Hp) (a : Addr) (ns : List Int) (hS : SqL K H a (ns.map V.int)) : spD K S_law [.ref a] H (fun v _ => v = .bl true) fun _ _ _ => False := by
  refine ⟨H, none, [.frz (ns.map D.int)], fun r => ∃ d o, r = Ro.ret d o ∧ d = .bl true, fun _ _ e => e, .cons (.frz hS (ints_denL ns)) .nil, ⟨rfl, ns.map D.int, rfl, ?_, ⟨_, _, rfl, rfl⟩⟩, ?_, ?_, ?_⟩
  · exact allInt_mem.mpr fun d hd => by obtain ⟨i, _, e⟩ := List.mem_map.mp hd; exact ⟨i, e.symm⟩
  · rintro v d o' F' H' _ dn ⟨_, _, e, hd⟩
    cases e
    subst hd
    cases dn
    rfl
  · rintro p us l o' F' H' _ _ _ _ _ ⟨_, _, e, _⟩
    cases e
  · rintro C dd v d o' F' H' _ _ _ _ _ ⟨_, _, e, _⟩
    cases e
end DL.K21
open PySem PySem.W PySem.Calls PyProof.Rows
theorem PySem.Challenge.cw_nosparecell_k21_done_and_waiting_lots_holds : PySem.Challenge.rw_nosparecell_k21_done_and_waiting_lots.Holds := by
  w_on; o_law
  refine HandSHeadRun.head_any (r := OpenLaw.row PySem.Challenge.rw_nosparecell_k21_done_and_waiting_lots) (q := view (OpenLaw.row PySem.Challenge.rw_nosparecell_k21_done_and_waiting_lots).prog [78]) (H := K21.hk) (ob := K21.ob) (M := 12000) (loose := K21.loose) (d := HandSHeadRun.topDef (OpenLaw.row PySem.Challenge.rw_nosparecell_k21_done_and_waiting_lots).prog 78) (kwd := []) K21.ob_eq
    (by kernel_rfl) (fun s => by kernel_rfl) K21.run (by kernel_rfl) (by kernel_rfl) (by kernel_rfl) (by rfl) (by first | assumption | decide +kernel) (by decide +kernel) ⟨rfl, rfl, rfl, rfl, rfl, by decide +kernel⟩ ?hw ?hc
  case hw => w_witness2
  case hc =>
    refine DL.walkW (l := PySem.Challenge.rw_nosparecell_k21_done_and_waiting_lots) (most := 63) (k := 8) (x := "script") (CX := fun w => L2N.CX (PySem.Challenge.rw_nosparecell_k21_done_and_waiting_lots).prog w) rfl (by decide) (by kernel_rfl) ⟨rfl, by decide, by decide⟩ ?F ?G
    · intro w mg f h Y G hmg0
      obtain ⟨K, KX, c, hx⟩ := Y
      have hmg : mg ("law" : PySem.Str) = some (.ref f) := by
        have e : (HandSHeadRun.topDef (OpenLaw.row PySem.Challenge.rw_nosparecell_k21_done_and_waiting_lots).prog 78).name = ("law" : PySem.Str) := by kernel_rfl
        rw [← e]
        exact hmg0
      obtain ⟨fd, hb, hF⟩ := DL.K21.facts (P := (PySem.Challenge.rw_nosparecell_k21_done_and_waiting_lots).prog) (w := w) KX G hmg c hx
      exact ⟨K, fd, _, KX, hb, fun H a ns hl _ hS => DL.K21.start_law H a ns hS, hF⟩
    · exact fun _ _ _ _ _ z => DL.cxN_no z
