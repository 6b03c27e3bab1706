import PyProof.Rows.All
import Wide.All
import OpenK.AllK
import Wide.FinOn
import HandS.ForMost
import HandS.Walk
import HandS.Style
import HandS.Zip
import HandS.Defaults
import HandS.Wide
import HandS.TupAny
import HandS.Deep
import HandS.SortInts
import HandS.IsInst
import HandS.TupLe
import HandS.SetFor
import KE.KTupSum
import HandS.Head0
import HandS.Head1
import HandS.Head2
import HandS.HeadEnd
import HandS.HeadHook1
import HandS.HeadHook2
import HandS.Dict
import HandS.Iter
import PyProof.ReprRoads
import PyProof.ReprLen
import HandS.Strs
import HandS.WordsDict
import HandS.TupMul
import PySem.Challenge.RW_divisorhall_k33_whole_rows_by_own_diviso
set_option Elab.async false
set_option linter.all false
section
set_option maxRecDepth 100000
/-! Pd: a layer of pure data over HandS: slots that hold data or an owned list. -/
namespace Pd
open PySem PySem.Spec L2
open PyProof.Rows hiding St
set_option autoImplicit false

abbrev D := PyData

mutual
/-- the value v stands for the data d, by the part M of the heap that never changes -/
inductive Rp (K : PySem.W.Frag) (M : Hp) : V → D → Prop
  | non : Rp K M .non .none
  | bl (b : Bool) : Rp K M (.bl b) (.bool b)
  | int (i : Int) : Rp K M (.int i) (.int i)
  | str (x : Str) : Rp K M (.str x) (.str x)
  | lst {a : Addr} {vs : List V} {ds : List D} : M a = some (.lst vs) → RpAll K M vs ds → Rp K M (.ref a) (.list ds)
  | tup {a : Addr} {vs : List V} {ds : List D} : SqT K M a vs → RpAll K M vs ds → Rp K M (.ref a) (.tuple ds)
  /-- the script, locked -/
  | scr {a : Addr} {vs : List V} {ds : List D} : SqL K M a vs → RpAll K M vs ds → Rp K M (.ref a) (.dict [(.none, .list ds)])
inductive RpAll (K : PySem.W.Frag) (M : Hp) : List V → List D → Prop
  | nil : RpAll K M [] []
  | cons {v : V} {vs : List V} {d : D} {ds : List D} : Rp K M v d → RpAll K M vs ds → RpAll K M (v :: vs) (d :: ds)
end

theorem sqT_mono {K : PySem.W.Frag} {H H' : Hp} {a : Addr} {xs : List V} (e : Same H H') (h : SqT K H a xs) : SqT K H' a xs := by
  rcases h with (h | ⟨o, h⟩) | h
  · exact .inl (.inl (e _ _ h))
  · exact .inl (.inr ⟨o, e _ _ h⟩)
  · exact .inr h

section
variable {K : PySem.W.Frag} {M M' H F : Hp}
mutual
theorem Rp.mono (e : Same M M') : ∀ (d : D) (v : V), Rp K M v d → Rp K M' v d
  | .none, _, h => by cases h; exact .non
  | .bool b, _, h => by cases h; exact .bl b
  | .int i, _, h => by cases h; exact .int i
  | .str x, _, h => by cases h; exact .str x
  | .list ds, _, h => by
    cases h with
    | lst hm ha => exact .lst (e _ _ hm) (RpAll.mono e ds _ ha)
  | .tuple ds, _, h => by
    cases h with
    | tup hm ha => exact .tup (sqT_mono e hm) (RpAll.mono e ds _ ha)
  | .dict [(.none, .list ds)], _, h => by
    cases h with
    | scr hm ha => exact .scr (e.seq hm) (RpAll.mono e ds _ ha)
theorem RpAll.mono (e : Same M M') : ∀ (ds : List D) (vs : List V), RpAll K M vs ds → RpAll K M' vs ds
  | [], _, h => by cases h; exact .nil
  | d :: ds, _, h => by
    cases h with
    | cons h1 h2 => exact .cons (Rp.mono e d _ h1) (RpAll.mono e ds _ h2)
end
theorem Rp.up {v : V} {d : D} (h : Rp K M v d) (e : Same M M') : Rp K M' v d := Rp.mono e d v h
theorem RpAll.up {vs : List V} {ds : List D} (h : RpAll K M vs ds) (e : Same M M') : RpAll K M' vs ds := RpAll.mono e ds vs h
theorem RpAll.length : ∀ {vs : List V} {ds : List D}, RpAll K M vs ds → vs.length = ds.length
  | _, _, .nil => rfl
  | _, _, .cons _ h => congrArg (· + 1) (RpAll.length h)
theorem RpAll.append : ∀ {vs : List V} {ds : List D} {ws : List V} {es : List D}, RpAll K M vs ds → RpAll K M ws es → RpAll K M (vs ++ ws) (ds ++ es)
  | _, _, _, _, .nil, h => h
  | _, _, _, _, .cons h1 h2, h => .cons h1 (RpAll.append h2 h)
theorem RpAll.one {v : V} {d : D} (h : Rp K M v d) : RpAll K M [v] [d] := .cons h .nil
theorem RpAll.get : ∀ {vs : List V} {ds : List D} {i : Nat} {v : V}, RpAll K M vs ds → vs[i]? = some v → ∃ d, ds[i]? = some d ∧ Rp K M v d
  | _, _, _, _, .nil, e => by simp at e
  | _, _, 0, _, .cons h _, e => by simp at e; subst e; exact ⟨_, rfl, h⟩
  | _, _, i + 1, v, .cons _ t, e => by
    obtain ⟨d, h1, h2⟩ := RpAll.get (i := i) (v := v) t (by simpa using e)
    exact ⟨d, by simpa using h1, h2⟩
theorem RpAll.getD : ∀ {vs : List V} {ds : List D} {i : Nat} {d : D}, RpAll K M vs ds → ds[i]? = some d → ∃ v, vs[i]? = some v ∧ Rp K M v d
  | _, _, _, _, .nil, e => by simp at e
  | _, _, 0, _, .cons h _, e => by simp at e; subst e; exact ⟨_, rfl, h⟩
  | _, _, i + 1, v, .cons _ t, e => by
    obtain ⟨d, h1, h2⟩ := RpAll.getD (i := i) (d := v) t (by simpa using e)
    exact ⟨d, by simpa using h1, h2⟩
theorem RpAll.set : ∀ {vs : List V} {ds : List D} (i : Nat) {v : V} {d : D}, RpAll K M vs ds → Rp K M v d → RpAll K M (vs.set i v) (ds.set i d)
  | _, _, _, _, _, .nil, _ => .nil
  | _, _, 0, _, _, .cons _ t, h => .cons h t
  | _, _, i + 1, _, _, .cons q t, h => .cons q (RpAll.set i t h)
theorem RpAll.take : ∀ {vs : List V} {ds : List D} (n : Nat), RpAll K M vs ds → RpAll K M (vs.take n) (ds.take n)
  | _, _, 0, _ => .nil
  | _, _, _ + 1, .nil => .nil
  | _, _, n + 1, .cons r t => .cons r (RpAll.take n t)
theorem RpAll.drop : ∀ {vs : List V} {ds : List D} (n : Nat), RpAll K M vs ds → RpAll K M (vs.drop n) (ds.drop n)
  | _, _, 0, r => r
  | _, _, _ + 1, .nil => .nil
  | _, _, n + 1, .cons _ t => RpAll.drop n t
theorem RpAll.dropLast {vs : List V} {ds : List D} (h : RpAll K M vs ds) : RpAll K M vs.dropLast ds.dropLast := by
  rw [List.dropLast_eq_take, List.dropLast_eq_take, h.length]
  exact h.take _
theorem RpAll.rep {vs : List V} {ds : List D} (h : RpAll K M vs ds) : ∀ n : Nat, RpAll K M (List.replicate n vs).flatten (List.replicate n ds).flatten
  | 0 => .nil
  | n + 1 => by
    rw [List.replicate_succ, List.replicate_succ, List.flatten_cons, List.flatten_cons]
    exact h.append (h.rep n)
theorem RpAll.ints : ∀ {vs : List V} {ns : List Int}, RpAll K M vs (ns.map PyData.int) → vs = ns.map V.int
  | _, [], h => by cases h; rfl
  | _, n :: ns, h => by
    cases h with
    | cons h1 h2 => cases h1; rw [RpAll.ints h2]; rfl
theorem RpAll.bools : ∀ {vs : List V} {ns : List Bool}, RpAll K M vs (ns.map PyData.bool) → vs = ns.map V.bl
  | _, [], h => by cases h; rfl
  | _, n :: ns, h => by
    cases h with
    | cons h1 h2 => cases h1; rw [RpAll.bools h2]; rfl
theorem RpAll.ofInts : ∀ (ns : List Int), RpAll K M (ns.map V.int) (ns.map PyData.int)
  | [] => .nil
  | n :: ns => .cons (.int n) (RpAll.ofInts ns)
mutual
theorem Rp.dp (e : Same M H) : ∀ (d : D) (v : V), d.canLay0 = true → Rp K M v d → Dp K H v d
  | .none, _, _, h => by cases h; exact .non
  | .bool b, _, _, h => by cases h; exact .bl b
  | .int i, _, _, h => by cases h; exact .int i
  | .str x, _, _, h => by cases h; exact .str x
  | .list ds, _, c, h => by
    cases h with
    | lst hm ha => exact .lst (SqL.of (e _ _ hm)) (RpAll.dp e ds _ (by simpa [PyData.canLay0] using c) ha)
  | .tuple ds, _, c, h => by
    cases h with
    | tup hm ha => exact .tup (sqT_mono e hm) (RpAll.dp e ds _ (by simpa [PyData.canLay0] using c) ha)
  | .dict _, _, c, h => by simp [PyData.canLay0] at c
theorem RpAll.dp (e : Same M H) : ∀ (ds : List D) (vs : List V), PyData.canLayAll0 ds = true → RpAll K M vs ds → DpAll K H vs ds
  | [], _, _, h => by cases h; exact .nil
  | d :: ds, _, c, h => by
    have c' : d.canLay0 = true ∧ PyData.canLayAll0 ds = true := by simpa [PyData.canLayAll0] using c
    cases h with
    | cons h1 h2 => exact .cons (Rp.dp e d _ c'.1 h1) (RpAll.dp e ds _ c'.2 h2)
end
end

/-- a dict's entries in the heap; ob: it is locked -/
structure LK where
  ob : Option Obj
  us : List (L2.Key × V)
/-- a dict's entries; lock: it changes no more -/
structure DK where
  lock : Bool
  kvs : List (L2.Key × D)
def dkO (k : LK) : HO := match k.ob with
  | none => .dK k.us
  | some ob => .frz ob (.dK k.us)
theorem dkO_nl {k : LK} {vs : List V} (h : some (HO.lst vs) = some (dkO k)) : False := by
  unfold dkO at h
  cases e : k.ob with
  | none => simp only [e] at h; cases h
  | some ob => simp only [e] at h; cases h
theorem dkO_nl' {k : LK} {vs : List V} (h : some (dkO k) = some (HO.lst vs)) : False := dkO_nl h.symm
theorem dkO_lst {k : LK} {vs : List V} : HO.lst vs ≠ dkO k := fun z => dkO_nl (congrArg some z)
/-- what a slot holds: data that never changes, or a list of its own (pin: at a known address) -/
inductive SV where
  | imm (d : D)
  | own (pin : Option Addr) (ds : List D)
  | dic (kvs : DK)
abbrev Sl := List (Option SV)
/-- a dict's entries -/
def KvRel (K : PySem.W.Frag) (M : Hp) (us : LK) (kvs : DK) : Prop := us.ob.isSome = kvs.lock ∧ us.us.map Prod.fst = kvs.kvs.map Prod.fst ∧ RpAll K M (us.us.map Prod.snd) (kvs.kvs.map Prod.snd)
theorem KvRel.up {K : PySem.W.Frag} {M M' : Hp} {us : LK} {kvs : DK} (h : KvRel K M us kvs) (e : Same M M') : KvRel K M' us kvs := ⟨h.1, h.2.1, h.2.2.up e⟩

def OwnAt (Γ : Sl) (σ : St) (p : Addr) : Prop := ∃ (i : Nat) (pin : Option Addr) (ds : List D), Γ[i]? = some (some (.own pin ds)) ∧ σ[i]? = some (some (.ref p))

def DicAt (Γ : Sl) (σ : St) (p : Addr) : Prop := ∃ (i : Nat) (kvs : DK), Γ[i]? = some (some (.dic kvs)) ∧ σ[i]? = some (some (.ref p)) ∧ kvs.lock = false
/-- where a dict stands: a locked one in what never changes -/
def DHold (M F H : Hp) (p : Addr) (us : LK) : Bool → Prop
  | true => M p = some (dkO us)
  | false => M p = none ∧ F p = none ∧ H p = some (dkO us)
theorem DHold.imp {M F H M' F' H' : Hp} {p : Addr} {us : LK} : ∀ {l : Bool}, DHold M F H p us l → (M p = some (dkO us) → M' p = some (dkO us)) → (l = false → M p = none → F p = none → H p = some (dkO us) → M' p = none ∧ F' p = none ∧ H' p = some (dkO us)) → DHold M' F' H' p us l
  | true, h, h1, _ => h1 h
  | false, h, _, h2 => h2 rfl h.1 h.2.1 h.2.2

/-- slots of data Γ and of values σ: M never changes, F is others' -/
structure R (K : PySem.W.Frag) (M F : Hp) (Γ : Sl) (σ : St) (H : Hp) : Prop where
  sM : Same M H
  sF : Same F H
  dj : ∀ p x, F p = some x → M p = none
  len : Γ.length = σ.length
  im : ∀ (i : Nat) (d : D), Γ[i]? = some (some (.imm d)) → ∃ v, σ[i]? = some (some v) ∧ Rp K M v d
  ow : ∀ (i : Nat) (pin : Option Addr) (ds : List D), Γ[i]? = some (some (.own pin ds)) → ∃ p vs, σ[i]? = some (some (.ref p)) ∧ (∀ q, pin = some q → q = p) ∧ M p = none ∧ F p = none ∧ H p = some (.lst vs) ∧ RpAll K M vs ds
  sep : ∀ (i j : Nat) (p : Addr) (q r : Option Addr) (ds es : List D), Γ[i]? = some (some (.own q ds)) → Γ[j]? = some (some (.own r es)) → σ[i]? = some (some (.ref p)) → σ[j]? = some (some (.ref p)) → i = j
  dw : ∀ (i : Nat) (kvs : DK), Γ[i]? = some (some (.dic kvs)) → ∃ p us, σ[i]? = some (some (.ref p)) ∧ DHold M F H p us kvs.lock ∧ KvRel K M us kvs
  dsep : ∀ (i j : Nat) (p : Addr) (ks ls : DK), ks.lock = false → ls.lock = false → Γ[i]? = some (some (.dic ks)) → Γ[j]? = some (some (.dic ls)) → σ[i]? = some (some (.ref p)) → σ[j]? = some (some (.ref p)) → i = j

theorem same_upd {H : Hp} {p : Addr} {o : HO} (h : H p = none) : Same H (upd H p o) := fun b x e => by
  rw [upd_ne (ne_of_none e h)]
  exact e
theorem upd_self {H : Hp} {p : Addr} {o : HO} (h : H p = some o) : upd H p o = H := by
  funext b
  unfold upd
  split
  · next e => rw [e, h]
  · rfl
theorem same_upd_of {M H : Hp} {p : Addr} {o : HO} (s : Same M H) (h : H p = some o) : Same (upd M p o) H := fun b x e => by
  by_cases hb : b = p
  · subst hb; rw [upd_same] at e; cases e; exact h
  · rw [upd_ne hb] at e; exact s _ _ e
theorem same_upd2 {M H : Hp} {p : Addr} {o : HO} (s : Same M H) : Same (upd M p o) (upd H p o) := fun b x e => by
  by_cases hb : b = p
  · subst hb; rw [upd_same] at e; rw [upd_same]; exact e
  · rw [upd_ne hb] at e; rw [upd_ne hb]; exact s _ _ e
theorem same_out {M H : Hp} {p : Addr} {o : HO} (s : Same M H) (h : M p = none) : Same M (upd H p o) := fun b x e => by
  rw [upd_ne (ne_of_none e h)]
  exact s _ _ e

section
variable {K : PySem.W.Frag} {M M' F F' H H' : Hp} {Γ : Sl} {σ : St} {p : Addr} {o : HO} {vs : List V} {ds : List D}

theorem R.ownM (r : R K M F Γ σ H) (h : OwnAt Γ σ p) : M p = none ∧ F p = none ∧ ∃ vs, H p = some (.lst vs) := by
  obtain ⟨i, pin, ds, h1, h2⟩ := h
  obtain ⟨q, vs, e1, _, e2, e3, e4, _⟩ := r.ow i pin ds h1
  rw [e1] at h2
  cases h2
  exact ⟨e2, e3, vs, e4⟩
theorem R.notOwn_of_none (r : R K M F Γ σ H) (h : H p = none) : ¬ OwnAt Γ σ p := fun q => by
  obtain ⟨_, _, vs, e⟩ := r.ownM q
  rw [h] at e; cases e
theorem R.notOwn_of_M (r : R K M F Γ σ H) {o : HO} (h : M p = some o) : ¬ OwnAt Γ σ p := fun q => by
  obtain ⟨e, _⟩ := r.ownM q
  rw [h] at e; cases e
/-- the heap grows, M with it by what is new -/
theorem R.grow (r : R K M F Γ σ H) (hM : Same M M') (hH : Same H H') (h : Same M' H') (hn : ∀ q, M q = none → M' q ≠ none → H q = none) : R K M' F Γ σ H' := by
  refine ⟨h, r.sF.trans hH, fun q x e => ?_, r.len, fun i d e => ?_, fun i pin ds e => ?_, r.sep, fun i kvs e => ?_, r.dsep⟩
  · by_cases hq : M' q = none
    · exact hq
    · have := hn q (r.dj q x e) hq
      rw [r.sF q x e] at this; cases this
  · obtain ⟨v, e1, e2⟩ := r.im i d e
    exact ⟨v, e1, e2.up hM⟩
  · obtain ⟨q, vs, e1, e2, e3, e4, e5, e6⟩ := r.ow i pin ds e
    refine ⟨q, vs, e1, e2, ?_, e4, hH _ _ e5, e6.up hM⟩
    by_cases hq : M' q = none
    · exact hq
    · have := hn q e3 hq
      rw [e5] at this; cases this
  · obtain ⟨q, us, e1, e3, e6⟩ := r.dw i kvs e
    refine ⟨q, us, e1, e3.imp (hM _ _) fun _ e3 e4 e5 => ⟨?_, e4, hH _ _ e5⟩, e6.up hM⟩
    by_cases hq : M' q = none
    · exact hq
    · have := hn q e3 hq
      rw [e5] at this; cases this
/-- something new that nobody tells of -/
theorem R.raw (r : R K M F Γ σ H) (h : H p = none) : R K M F Γ σ (upd H p o) :=
  r.grow (Same.refl M) (same_upd h) (r.sM.trans (same_upd h)) fun q e n => absurd e n
/-- a new thing of M -/
theorem R.alloc (r : R K M F Γ σ H) (h : H p = none) : Same M (upd M p o) ∧ R K (upd M p o) F Γ σ (upd H p o) := by
  have hM : M p = none := r.sM.free h
  refine ⟨same_upd hM, r.grow (same_upd hM) (same_upd h) (same_upd2 r.sM) fun q e n => ?_⟩
  by_cases hq : q = p
  · rw [hq]; exact h
  · rw [upd_ne hq] at n; exact absurd e n
theorem R.ext (r : R K M F Γ σ H) (h : Same H H') : R K M F Γ σ H' := r.grow (Same.refl M) h (r.sM.trans h) fun q e n => absurd e n
/-- a thing that nobody owns comes to M -/
theorem R.toM (r : R K M F Γ σ H) (hp : H p = some o) (hM : M p = none) (hF : F p = none) (hn : ¬ OwnAt Γ σ p) (ho : ∀ us, o ≠ dkO us := by exact fun _ => dkO_lst) : Same M (upd M p o) ∧ R K (upd M p o) F Γ σ H := by
  refine ⟨same_upd hM, same_upd_of r.sM hp, r.sF, fun q x e => ?_, r.len, fun i d e => ?_, fun i pin ds e => ?_, r.sep, fun i kvs e => ?_, r.dsep⟩
  · rw [upd_ne (ne_of_none e hF)]; exact r.dj q x e
  · obtain ⟨v, e1, e2⟩ := r.im i d e
    exact ⟨v, e1, e2.up (same_upd hM)⟩
  · obtain ⟨q, vs, e1, e2, e3, e4, e5, e6⟩ := r.ow i pin ds e
    refine ⟨q, vs, e1, e2, ?_, e4, e5, e6.up (same_upd hM)⟩
    rw [upd_ne (show q ≠ p from fun z => hn ⟨i, pin, ds, e, by rw [← z]; exact e1⟩)]; exact e3
  · obtain ⟨q, us, e1, e3, e6⟩ := r.dw i kvs e
    refine ⟨q, us, e1, e3.imp (same_upd hM _ _) fun _ e3 e4 e5 => ⟨?_, e4, e5⟩, e6.up (same_upd hM)⟩
    rw [upd_ne (show q ≠ p from fun z => by rw [z, hp] at e5; exact ho _ (Option.some.inj e5))]; exact e3
/-- F less -/
theorem R.weakF (r : R K M F' Γ σ H) (h : Same F F') : R K M F Γ σ H :=
  ⟨r.sM, h.trans r.sF, fun q x e => r.dj q x (h _ _ e), r.len, r.im, fun i pin ds e => by
    obtain ⟨q, vs, e1, e2, e3, e4, e5, e6⟩ := r.ow i pin ds e
    exact ⟨q, vs, e1, e2, e3, h.free e4, e5, e6⟩, r.sep, fun i kvs e => by
    obtain ⟨q, us, e1, e3, e6⟩ := r.dw i kvs e
    exact ⟨q, us, e1, e3.imp (fun z => z) fun _ e3 e4 e5 => ⟨e3, h.free e4, e5⟩, e6⟩, r.dsep⟩
/-- F more -/
theorem R.moreF (r : R K M F Γ σ H) (hp : H p = some o) (hM : M p = none) (hn : ¬ OwnAt Γ σ p) (ho : ∀ us, o ≠ dkO us := by exact fun _ => dkO_lst) : R K M (upd F p o) Γ σ H := by
  refine ⟨r.sM, same_upd_of r.sF hp, fun q x e => ?_, r.len, r.im, fun i pin ds e => ?_, r.sep, fun i kvs e => ?_, r.dsep⟩
  · by_cases hq : q = p
    · rw [hq]; exact hM
    · rw [upd_ne hq] at e; exact r.dj q x e
  · obtain ⟨q, vs, e1, e2, e3, e4, e5, e6⟩ := r.ow i pin ds e
    refine ⟨q, vs, e1, e2, e3, ?_, e5, e6⟩
    rw [upd_ne (show q ≠ p from fun z => hn ⟨i, pin, ds, e, by rw [← z]; exact e1⟩)]; exact e4
  · obtain ⟨q, us, e1, e3, e6⟩ := r.dw i kvs e
    refine ⟨q, us, e1, e3.imp (fun z => z) fun _ e3 e4 e5 => ⟨e3, ?_, e5⟩, e6⟩
    rw [upd_ne (show q ≠ p from fun z => by rw [z, hp] at e5; exact ho _ (Option.some.inj e5))]; exact e4
theorem get_set {α : Type} {l : List α} {i j : Nat} {x y : α} (h : (l.set i x)[j]? = some y) : (i = j ∧ y = x ∧ i < l.length) ∨ (i ≠ j ∧ l[j]? = some y) := by
  by_cases e : i = j
  · subst e
    by_cases hi : i < l.length
    · rw [List.getElem?_set_self hi] at h; cases h; exact .inl ⟨rfl, rfl, hi⟩
    · rw [List.getElem?_eq_none (by simpa using hi)] at h; cases h
  · rw [List.getElem?_set_ne e] at h; exact .inr ⟨e, h⟩
/-- slots of dicts, when another slot is stored -/
theorem R.dwSet (r : R K M F Γ σ H) {i j : Nat} {s : SV} {v : V} {kvs : DK} (hs : s ≠ .dic kvs) (q : (Γ.set i (some s))[j]? = some (some (.dic kvs))) :
    ∃ p us, (σ.set i (some v))[j]? = some (some (.ref p)) ∧ DHold M F H p us kvs.lock ∧ KvRel K M us kvs := by
  rcases get_set q with ⟨_, e1, _⟩ | ⟨ne, q⟩
  · exact absurd (Option.some.inj e1).symm hs
  · obtain ⟨p, us, e1, e2⟩ := r.dw j kvs q
    exact ⟨p, us, by rw [List.getElem?_set_ne ne]; exact e1, e2⟩
theorem R.dsepSet (r : R K M F Γ σ H) {i j k : Nat} {s : SV} {v : V} {p : Addr} {ks ls : DK} (hs : ∀ kvs, s ≠ .dic kvs) (l1 : ks.lock = false) (l2 : ls.lock = false) (h1 : (Γ.set i (some s))[j]? = some (some (.dic ks))) (h2 : (Γ.set i (some s))[k]? = some (some (.dic ls)))
    (h3 : (σ.set i (some v))[j]? = some (some (.ref p))) (h4 : (σ.set i (some v))[k]? = some (some (.ref p))) : j = k := by
  rcases get_set h1 with ⟨_, e1, _⟩ | ⟨n1, h1⟩
  · exact absurd (Option.some.inj e1).symm (hs _)
  · rcases get_set h2 with ⟨_, e1, _⟩ | ⟨n2, h2⟩
    · exact absurd (Option.some.inj e1).symm (hs _)
    · rw [List.getElem?_set_ne n1] at h3
      rw [List.getElem?_set_ne n2] at h4
      exact r.dsep j k p ks ls l1 l2 h1 h2 h3 h4
/-- a name is stored: data -/
theorem R.setImm (r : R K M F Γ σ H) {i : Nat} {v : V} {d : D} (h : Rp K M v d) : R K M F (Γ.set i (some (.imm d))) (σ.set i (some v)) H := by
  refine ⟨r.sM, r.sF, r.dj, by simp [r.len], fun j e q => ?_, fun j pin ds q => ?_, fun j k p a b ds es h1 h2 h3 h4 => ?_, fun j kvs q => r.dwSet (fun z => by cases z) q, fun j k p ks ls l1 l2 h1 h2 h3 h4 => r.dsepSet (fun _ z => by cases z) l1 l2 h1 h2 h3 h4⟩
  · rcases get_set q with ⟨rfl, e1, hi⟩ | ⟨ne, q⟩
    · cases e1
      exact ⟨v, List.getElem?_set_self (by rw [← r.len]; exact hi), h⟩
    · obtain ⟨v', e1, e2⟩ := r.im j e q
      exact ⟨v', by rw [List.getElem?_set_ne ne]; exact e1, e2⟩
  · rcases get_set q with ⟨_, e1, _⟩ | ⟨ne, q⟩
    · cases e1
    · obtain ⟨p, vs, e1, e2⟩ := r.ow j pin ds q
      exact ⟨p, vs, by rw [List.getElem?_set_ne ne]; exact e1, e2⟩
  · rcases get_set h1 with ⟨_, e1, _⟩ | ⟨n1, h1⟩
    · cases e1
    · rcases get_set h2 with ⟨_, e1, _⟩ | ⟨n2, h2⟩
      · cases e1
      · rw [List.getElem?_set_ne n1] at h3; rw [List.getElem?_set_ne n2] at h4
        exact r.sep j k p a b ds es h1 h2 h3 h4
/-- a name is stored: a list of its own, new -/
theorem R.setOwn (r : R K M F Γ σ H) {i : Nat} (hp : H p = some (.lst vs)) (hM : M p = none) (hF : F p = none) (hn : ¬ OwnAt Γ σ p) (h : RpAll K M vs ds) :
    R K M F (Γ.set i (some (.own none ds))) (σ.set i (some (.ref p))) H := by
  refine ⟨r.sM, r.sF, r.dj, by simp [r.len], fun j e q => ?_, fun j pin ds' q => ?_, fun j k p' a b ds es h1 h2 h3 h4 => ?_, fun j kvs q => r.dwSet (fun z => by cases z) q, fun j k p ks ls l1 l2 h1 h2 h3 h4 => r.dsepSet (fun _ z => by cases z) l1 l2 h1 h2 h3 h4⟩
  · rcases get_set q with ⟨_, e1, _⟩ | ⟨ne, q⟩
    · cases e1
    · obtain ⟨v', e1, e2⟩ := r.im j e q
      exact ⟨v', by rw [List.getElem?_set_ne ne]; exact e1, e2⟩
  · rcases get_set q with ⟨rfl, e1, hi⟩ | ⟨ne, q⟩
    · cases e1
      exact ⟨p, vs, List.getElem?_set_self (by rw [← r.len]; exact hi), fun _ z => (by cases z), hM, hF, hp, h⟩
    · obtain ⟨p', vs', e1, e2⟩ := r.ow j pin ds' q
      exact ⟨p', vs', by rw [List.getElem?_set_ne ne]; exact e1, e2⟩
  · rcases get_set h1 with ⟨rfl, e1, l1⟩ | ⟨n1, h1⟩
    · rcases get_set h2 with ⟨e2, _, _⟩ | ⟨n2, h2⟩
      · exact e2
      · rw [List.getElem?_set_self (by rw [← r.len]; exact l1)] at h3; cases h3
        rw [List.getElem?_set_ne n2] at h4
        exact absurd ⟨k, b, es, h2, h4⟩ hn
    · rw [List.getElem?_set_ne n1] at h3
      rcases get_set h2 with ⟨rfl, e1, l1⟩ | ⟨n2, h2⟩
      · rw [List.getElem?_set_self (by rw [← r.len]; exact l1)] at h4; cases h4
        exact absurd ⟨j, a, ds, h1, h3⟩ hn
      · rw [List.getElem?_set_ne n2] at h4
        exact r.sep j k p' a b ds es h1 h2 h3 h4
/-- a name is stored: a dict of its own, new -/
theorem R.setDic (r : R K M F Γ σ H) {i : Nat} {us : LK} {kvs : DK} (hp : H p = some (dkO us)) (hM : M p = none) (hF : F p = none) (hn : ¬ DicAt Γ σ p) (h : KvRel K M us kvs) (hl : kvs.lock = false) :
    R K M F (Γ.set i (some (.dic kvs))) (σ.set i (some (.ref p))) H := by
  refine ⟨r.sM, r.sF, r.dj, by simp [r.len], fun j e q => ?_, fun j pin ds' q => ?_, fun j k p' a b ds es h1 h2 h3 h4 => ?_, fun j ls q => ?_, fun j k p' ks ls l1 l2 h1 h2 h3 h4 => ?_⟩
  · rcases get_set q with ⟨_, e1, _⟩ | ⟨ne, q⟩
    · cases e1
    · obtain ⟨v', e1, e2⟩ := r.im j e q
      exact ⟨v', by rw [List.getElem?_set_ne ne]; exact e1, e2⟩
  · rcases get_set q with ⟨_, e1, _⟩ | ⟨ne, q⟩
    · cases e1
    · obtain ⟨p', vs', e1, e2⟩ := r.ow j pin ds' q
      exact ⟨p', vs', by rw [List.getElem?_set_ne ne]; exact e1, e2⟩
  · rcases get_set h1 with ⟨_, e1, _⟩ | ⟨n1, h1⟩
    · cases e1
    · rcases get_set h2 with ⟨_, e1, _⟩ | ⟨n2, h2⟩
      · cases e1
      · rw [List.getElem?_set_ne n1] at h3; rw [List.getElem?_set_ne n2] at h4
        exact r.sep j k p' a b ds es h1 h2 h3 h4
  · rcases get_set q with ⟨rfl, e1, hi⟩ | ⟨ne, q⟩
    · cases e1
      exact ⟨p, us, List.getElem?_set_self (by rw [← r.len]; exact hi), by rw [hl]; exact ⟨hM, hF, hp⟩, h⟩
    · obtain ⟨p', us', e1, e2⟩ := r.dw j ls q
      exact ⟨p', us', by rw [List.getElem?_set_ne ne]; exact e1, e2⟩
  · rcases get_set h1 with ⟨rfl, e1, j1⟩ | ⟨n1, h1⟩
    · rcases get_set h2 with ⟨e2, _, _⟩ | ⟨n2, h2⟩
      · exact e2
      · rw [List.getElem?_set_self (by rw [← r.len]; exact j1)] at h3; cases h3
        rw [List.getElem?_set_ne n2] at h4
        exact absurd ⟨k, ls, h2, h4, l2⟩ hn
    · rw [List.getElem?_set_ne n1] at h3
      rcases get_set h2 with ⟨rfl, e1, j1⟩ | ⟨n2, h2⟩
      · rw [List.getElem?_set_self (by rw [← r.len]; exact j1)] at h4; cases h4
        exact absurd ⟨j, ks, h1, h3, l1⟩ hn
      · rw [List.getElem?_set_ne n2] at h4
        exact r.dsep j k p' ks ls l1 l2 h1 h2 h3 h4
/-- nothing more is told of a slot -/
theorem R.forget (r : R K M F Γ σ H) (i : Nat) : R K M F (Γ.set i none) σ H := by
  have g : ∀ {j : Nat} {s : SV}, (Γ.set i none)[j]? = some (some s) → i ≠ j ∧ Γ[j]? = some (some s) := fun {j s} q => by
    rcases get_set q with ⟨_, e1, _⟩ | ⟨ne, q⟩
    · cases e1
    · exact ⟨ne, q⟩
  exact ⟨r.sM, r.sF, r.dj, by simp [r.len], fun j e q => r.im j e (g q).2, fun j pin ds q => r.ow j pin ds (g q).2, fun j k p a b ds es h1 h2 => r.sep j k p a b ds es (g h1).2 (g h2).2, fun j kvs q => r.dw j kvs (g q).2, fun j k p ks ls l1 l2 h1 h2 => r.dsep j k p ks ls l1 l2 (g h1).2 (g h2).2⟩
theorem R.moreFD (r : R K M F Γ σ H) {us : LK} (hp : H p = some (dkO us)) (hM : M p = none) (hn : ¬ DicAt Γ σ p) : R K M (upd F p (dkO us)) Γ σ H := by
  refine ⟨r.sM, same_upd_of r.sF hp, fun q x e => ?_, r.len, r.im, fun i pin ds e => ?_, r.sep, fun i kvs e => ?_, r.dsep⟩
  · by_cases hq : q = p
    · rw [hq]; exact hM
    · rw [upd_ne hq] at e; exact r.dj q x e
  · obtain ⟨q, vs, e1, e2, e3, e4, e5, e6⟩ := r.ow i pin ds e
    refine ⟨q, vs, e1, e2, e3, ?_, e5, e6⟩
    rw [upd_ne (show q ≠ p from fun z => by rw [z, hp] at e5; exact dkO_nl' e5)]; exact e4
  · obtain ⟨q, us', e1, e3, e6⟩ := r.dw i kvs e
    refine ⟨q, us', e1, e3.imp (fun z => z) fun l e3 e4 e5 => ⟨e3, ?_, e5⟩, e6⟩
    rw [upd_ne (show q ≠ p from fun z => hn ⟨i, kvs, e, by rw [← z]; exact e1, l⟩)]; exact e4
theorem R.dicM (r : R K M F Γ σ H) (h : DicAt Γ σ p) : M p = none ∧ F p = none ∧ ∃ us, H p = some (dkO us) := by
  obtain ⟨i, kvs, h1, h2, l⟩ := h
  obtain ⟨q, us, e1, e2, _⟩ := r.dw i kvs h1
  rw [e1] at h2
  cases h2
  rw [l] at e2
  exact ⟨e2.1, e2.2.1, us, e2.2.2⟩
/-- an owned list is written -/
theorem R.write (r : R K M F Γ σ H) {i : Nat} {pin : Option Addr} {ds0 : List D} (hi : Γ[i]? = some (some (.own pin ds0))) (hp : σ[i]? = some (some (.ref p))) (h : RpAll K M vs ds) :
    R K M F (Γ.set i (some (.own pin ds))) σ (upd H p (.lst vs)) := by
  obtain ⟨q, vs0, e1, e2, e3, e4, e5, e6⟩ := r.ow i pin ds0 hi
  rw [hp] at e1; cases e1
  refine ⟨same_out r.sM e3, same_out r.sF e4, r.dj, by simp [r.len], fun j d' q => ?_, fun j pin' ds' q => ?_, fun j k p' a b ds1 es h1 h2 h3 h4 => ?_, fun j kvs q => ?_, fun j k p' ks ls l1 l2 h1 h2 h3 h4 => ?_⟩
  · rcases get_set q with ⟨_, e1, _⟩ | ⟨ne, q⟩
    · cases e1
    · exact r.im j d' q
  · rcases get_set q with ⟨rfl, e1, hl⟩ | ⟨ne, q⟩
    · cases e1
      exact ⟨_, vs, hp, e2, e3, e4, upd_same, h⟩
    · obtain ⟨p', vs', f1, f2, f3, f4, f5, f6⟩ := r.ow j pin' ds' q
      refine ⟨p', vs', f1, f2, f3, f4, ?_, f6⟩
      rw [upd_ne (show p' ≠ p from fun z => ne (r.sep i j _ pin pin' ds0 ds' hi q hp (by rw [← z]; exact f1)))]
      exact f5
  · have g1 : ∃ a' ds', Γ[j]? = some (some (.own a' ds')) := by
      rcases get_set h1 with ⟨rfl, e1, _⟩ | ⟨_, h1⟩
      · exact ⟨_, _, hi⟩
      · exact ⟨_, _, h1⟩
    have g2 : ∃ a' ds', Γ[k]? = some (some (.own a' ds')) := by
      rcases get_set h2 with ⟨rfl, e1, _⟩ | ⟨_, h2⟩
      · exact ⟨_, _, hi⟩
      · exact ⟨_, _, h2⟩
    obtain ⟨a1, d1, g1⟩ := g1
    obtain ⟨a2, d2, g2⟩ := g2
    exact r.sep j k p' _ _ _ _ g1 g2 h3 h4
  · rcases get_set q with ⟨_, e1, _⟩ | ⟨ne, q⟩
    · cases e1
    · obtain ⟨q', us, f1, f3, f6⟩ := r.dw j kvs q
      refine ⟨q', us, f1, f3.imp (fun z => z) fun _ f3 f4 f5 => ⟨f3, f4, ?_⟩, f6⟩
      rw [upd_ne (show q' ≠ _ from fun z => by rw [z, e5] at f5; exact dkO_nl f5)]
      exact f5
  · rcases get_set h1 with ⟨_, e1, _⟩ | ⟨_, h1⟩
    · cases e1
    · rcases get_set h2 with ⟨_, e1, _⟩ | ⟨_, h2⟩
      · cases e1
      · exact r.dsep j k p' ks ls l1 l2 h1 h2 h3 h4
/-- an owned list becomes data -/
theorem R.freeze (r : R K M F Γ σ H) {i : Nat} {ds : List D} (hi : Γ[i]? = some (some (.own none ds))) :
    ∃ M' v, σ[i]? = some (some v) ∧ Same M M' ∧ R K M' F (Γ.set i (some (.imm (.list ds)))) σ H ∧ Rp K M' v (.list ds) := by
  obtain ⟨p, vs, e1, _, e3, e4, e5, e6⟩ := r.ow i none ds hi
  have hs : Same M (upd M p (.lst vs)) := same_upd e3
  refine ⟨upd M p (.lst vs), .ref p, e1, hs, ⟨same_upd_of r.sM e5, r.sF, fun q x e => ?_, by simp [r.len], fun j d' q => ?_, fun j pin' ds' q => ?_, fun j k p' a b ds1 es h1 h2 h3 h4 => ?_, fun j kvs q => ?_, fun j k p' ks ls l1 l2 h1 h2 h3 h4 => ?_⟩, .lst upd_same (e6.up hs)⟩
  · rw [upd_ne (ne_of_none e e4)]; exact r.dj q x e
  · rcases get_set q with ⟨rfl, f1, _⟩ | ⟨ne, q⟩
    · cases f1
      exact ⟨_, e1, .lst upd_same (e6.up hs)⟩
    · obtain ⟨v, f1, f2⟩ := r.im j d' q
      exact ⟨v, f1, f2.up hs⟩
  · rcases get_set q with ⟨_, f1, _⟩ | ⟨ne, q⟩
    · cases f1
    · obtain ⟨p', vs', f1, f2, f3, f4, f5, f6⟩ := r.ow j pin' ds' q
      refine ⟨p', vs', f1, f2, ?_, f4, f5, f6.up hs⟩
      rw [upd_ne (show p' ≠ p from fun z => ne (r.sep i j _ _ _ ds ds' hi q e1 (by rw [← z]; exact f1)))]
      exact f3
  · rcases get_set h1 with ⟨_, f1, _⟩ | ⟨n1, h1⟩
    · cases f1
    · rcases get_set h2 with ⟨_, f1, _⟩ | ⟨n2, h2⟩
      · cases f1
      · exact r.sep j k p' a b ds1 es h1 h2 h3 h4
  · rcases get_set q with ⟨_, f1, _⟩ | ⟨ne, q⟩
    · cases f1
    · obtain ⟨q', us, f1, f3, f6⟩ := r.dw j kvs q
      refine ⟨q', us, f1, f3.imp (hs _ _) fun _ f3 f4 f5 => ⟨?_, f4, f5⟩, f6.up hs⟩
      rw [upd_ne (show q' ≠ _ from fun z => by rw [z, e5] at f5; exact dkO_nl f5)]
      exact f3
  · rcases get_set h1 with ⟨_, e1, _⟩ | ⟨_, h1⟩
    · cases e1
    · rcases get_set h2 with ⟨_, e1, _⟩ | ⟨_, h2⟩
      · cases e1
      · exact r.dsep j k p' ks ls l1 l2 h1 h2 h3 h4
end

/-! ### what an expression gives -/
/-- data; what a slot holds; a new list -/
inductive Opd where
  | d (x : D)
  | s (i : Nat)
  | f (xs : List D)
  | k (kvs : DK)
  | x
def ORel (K : PySem.W.Frag) (M F : Hp) (Γ : Sl) (σ : St) (H : Hp) (v : V) : Opd → Prop
  | .d x => Rp K M v x
  | .s i => σ[i]? = some (some v)
  | .f xs => ∃ p vs, v = .ref p ∧ M p = none ∧ F p = none ∧ H p = some (.lst vs) ∧ RpAll K M vs xs ∧ ¬ OwnAt Γ σ p
  | .k kvs => ∃ p us, v = .ref p ∧ M p = none ∧ F p = none ∧ H p = some (dkO us) ∧ KvRel K M us kvs ∧ kvs.lock = false ∧ ¬ DicAt Γ σ p
  | .x => True
/-- what is read of it -/
def rsv (Γ : Sl) : Opd → Option D
  | .d x => some x
  | .s i => match Γ[i]? with
    | some (some (.imm d)) => some d
    | some (some (.own _ ds)) => some (.list ds)
    | _ => none
  | .f xs => some (.list xs)
  | _ => none
def rs (Γ : Sl) (o : Opd) (k : D → Prop) : Prop := match rsv Γ o with
  | some d => k d
  | none => False
def stl : Opd → Opd
  | .f xs => .d (.list xs)
  | .k _ => .x
  | o => o
/-- it becomes data -/
def fz (Γ : Sl) (o : Opd) (k : D → Sl → Prop) : Prop := match o with
  | .d x => k x Γ
  | .s i => match Γ[i]? with
    | some (some (.imm d)) => k d Γ
    | some (some (.own none ds)) => k (.list ds) (Γ.set i (some (.imm (.list ds))))
    | _ => False
  | .f xs => k (.list xs) Γ
  | _ => False
def fzs : List Opd → Sl → (List D → Sl → Prop) → Prop
  | [], Γ, k => k [] Γ
  | o :: os, Γ, k => fz Γ o fun d Γ1 => fzs os Γ1 fun ds Γ2 => k (d :: ds) Γ2

/-- the value v reads as d -/
inductive ReadAt (K : PySem.W.Frag) (M H : Hp) : V → D → Prop
  | rp {v : V} {d : D} : Rp K M v d → ReadAt K M H v d
  | own {p : Addr} {vs : List V} {ds : List D} : H p = some (.lst vs) → RpAll K M vs ds → ReadAt K M H (.ref p) (.list ds)
section
variable {K : PySem.W.Frag} {M M' F F' H H' : Hp} {Γ Γ' : Sl} {σ : St} {p : Addr} {v : V} {vs : List V} {ds : List D} {d : D}
theorem ReadAt.list (s : Same M H) (h : ReadAt K M H v (.list ds)) : ∃ p vs, v = .ref p ∧ H p = some (.lst vs) ∧ RpAll K M vs ds := by
  cases h with
  | rp h => cases h with
    | lst h1 h2 => exact ⟨_, _, rfl, s _ _ h1, h2⟩
  | own h1 h2 => exact ⟨_, _, rfl, h1, h2⟩
theorem ReadAt.tuple (s : Same M H) (h : ReadAt K M H v (.tuple ds)) : ∃ p vs, v = .ref p ∧ SqT K H p vs ∧ RpAll K M vs ds ∧ Rp K M v (.tuple ds) := by
  cases h with
  | rp h => cases h with
    | tup h1 h2 => exact ⟨_, _, rfl, sqT_mono s h1, h2, .tup h1 h2⟩
theorem ReadAt.int {i : Int} (h : ReadAt K M H v (.int i)) : v = .int i := by
  cases h with
  | rp h => cases h; rfl
theorem ReadAt.bool {i : Bool} (h : ReadAt K M H v (.bool i)) : v = .bl i := by
  cases h with
  | rp h => cases h; rfl
theorem ReadAt.str {i : Str} (h : ReadAt K M H v (.str i)) : v = .str i := by
  cases h with
  | rp h => cases h; rfl
theorem ReadAt.none (h : ReadAt K M H v .none) : v = .non := by
  cases h with
  | rp h => cases h; rfl
theorem ReadAt.dp (s : Same M H) (c : SeqAt.shaped d = true) (h : ReadAt K M H v d) : Dp K H v d := by
  have c' := SeqAt.canLay_of_shaped c
  cases h with
  | rp h => exact Rp.dp s _ _ c' h
  | own h1 h2 => exact .lst (SqL.of h1) (RpAll.dp s _ _ (by simpa [PyData.canLay0] using c') h2)
theorem rs_read {o : Opd} {k : D → Prop} (r : R K M F Γ σ H) (h : ORel K M F Γ σ H v o) (hk : rs Γ o k) : ∃ d, ReadAt K M H v d ∧ k d := by
  cases o with
  | d x => exact ⟨x, .rp h, hk⟩
  | k _ => exact False.elim hk
  | x => exact False.elim hk
  | f xs =>
    obtain ⟨p, vs, rfl, _, _, e, a, _⟩ := h
    exact ⟨_, .own e a, hk⟩
  | s i =>
    unfold rs rsv at hk
    cases e : Γ[i]? with
    | none => simp only [e] at hk
    | some s =>
      cases s with
      | none => simp only [e] at hk
      | some s =>
        cases s with
        | imm d =>
          simp only [e] at hk
          obtain ⟨v', e1, e2⟩ := r.im i d e
          have h' : σ[i]? = some (some v) := h
          rw [h'] at e1; cases e1
          exact ⟨d, .rp e2, hk⟩
        | own pin ds =>
          simp only [e] at hk
          obtain ⟨p, vs, e1, _, _, _, e5, e6⟩ := r.ow i pin ds e
          have h' : σ[i]? = some (some v) := h
          rw [h'] at e1; cases e1
          exact ⟨_, .own e5 e6, hk⟩
        | dic kvs => simp only [e] at hk
/-- a new list is settled: data -/
theorem stl_ok {o : Opd} (r : R K M F Γ σ H) (h : ORel K M F Γ σ H v o) : ∃ M', Same M M' ∧ R K M' F Γ σ H ∧ ORel K M' F Γ σ H v (stl o) := by
  cases o with
  | d x => exact ⟨M, Same.refl M, r, h⟩
  | s i => exact ⟨M, Same.refl M, r, h⟩
  | k _ => exact ⟨M, Same.refl M, r, trivial⟩
  | x => exact ⟨M, Same.refl M, r, trivial⟩
  | f xs =>
    obtain ⟨p, vs, rfl, e1, e2, e3, e4, e5⟩ := h
    obtain ⟨a, b⟩ := r.toM e3 e1 e2 e5
    exact ⟨_, a, b, .lst upd_same (e4.up a)⟩
/-- a settled one stays through what comes -/
theorem stl_mono {o : Opd} (h : ORel K M F Γ σ H v (stl o)) (s : Same M M') : ORel K M' F' Γ' σ H' v (stl o) := by
  cases o with
  | d x => exact Rp.up h s
  | s i => exact h
  | k _ => trivial
  | x => trivial
  | f xs => exact Rp.up (show Rp K M v (.list xs) from h) s
theorem fz_ok {o : Opd} {k : D → Sl → Prop} (r : R K M F Γ σ H) (h : ORel K M F Γ σ H v o) (hk : fz Γ o k) : ∃ M' Γ' d, Same M M' ∧ R K M' F Γ' σ H ∧ Rp K M' v d ∧ k d Γ' ∧ ∀ p, OwnAt Γ' σ p → OwnAt Γ σ p := by
  cases o with
  | d x => exact ⟨M, Γ, x, Same.refl M, r, h, hk, fun _ z => z⟩
  | k _ => exact False.elim hk
  | x => exact False.elim hk
  | f xs =>
    obtain ⟨M', a, b, c⟩ := stl_ok r h
    exact ⟨M', Γ, _, a, b, c, hk, fun _ z => z⟩
  | s i =>
    unfold fz at hk
    cases e : Γ[i]? with
    | none => simp only [e] at hk
    | some s =>
      cases s with
      | none => simp only [e] at hk
      | some s =>
        cases s with
        | imm d =>
          simp only [e] at hk
          obtain ⟨v', e1, e2⟩ := r.im i d e
          have h' : σ[i]? = some (some v) := h
          rw [h'] at e1; cases e1
          exact ⟨M, Γ, d, Same.refl M, r, e2, hk, fun _ z => z⟩
        | own pin ds =>
          cases pin with
          | some q => simp only [e] at hk
          | none =>
            simp only [e] at hk
            obtain ⟨M', v', e1, e2, e3, e4⟩ := r.freeze e
            have h' : σ[i]? = some (some v) := h
            rw [h'] at e1; cases e1
            refine ⟨M', _, _, e2, e3, e4, hk, fun p z => ?_⟩
            obtain ⟨j, pin, ds', h1, h2⟩ := z
            rcases get_set h1 with ⟨_, f1, _⟩ | ⟨ne, h1⟩
            · cases f1
            · exact ⟨j, pin, ds', h1, h2⟩
        | dic kvs => simp only [e] at hk
end
end Pd
end

section
set_option maxRecDepth 100000
/-! Pd2: expressions. -/
namespace Pd
open PySem PySem.Spec L2
open PyProof.Rows hiding St
set_option autoImplicit false

/-- what is wished of exceptions, as the heap goes on -/
structure XW where
  ok : Hp → Hp → Prop
  mono : ∀ {M M' F F' : Hp}, Same M M' → Same F F' → ok M F → ok M' F'
def W0 : XW := ⟨fun _ _ => True, fun _ _ h => h⟩

abbrev WE := Sl → (Opd → Sl → Prop) → Prop
abbrev WT := Sl → (Bool → Sl → Prop) → Prop
abbrev WA := Sl → (List Opd → Sl → Prop) → Prop
abbrev WO := Sl → (Option Int → Sl → Prop) → Prop

def Sim (K : PySem.W.Frag) (W : XW) (t : TE) (w : WE) : Prop := ∀ (M F : Hp) (Γ : Sl) (σ : L2.St) (H : Hp) (Q : Opd → Sl → Prop) (Q' : VK), R K M F Γ σ H → W.ok M F → w Γ Q →
  (∀ o v M' Γ' H', Same M M' → R K M' F Γ' σ H' → ORel K M' F Γ' σ H' v o → Q o Γ' → Q' v H') → t σ H Q'
def SimT (K : PySem.W.Frag) (W : XW) (t : TT) (w : WT) : Prop := ∀ (M F : Hp) (Γ : Sl) (σ : L2.St) (H : Hp) (Q : Bool → Sl → Prop) (Q' : Bool → Hp → Prop), R K M F Γ σ H → W.ok M F → w Γ Q →
  (∀ b M' Γ' H', Same M M' → R K M' F Γ' σ H' → Q b Γ' → Q' b H') → t σ H Q'
def SimO (K : PySem.W.Frag) (W : XW) (t : TO) (w : WO) : Prop := ∀ (M F : Hp) (Γ : Sl) (σ : L2.St) (H : Hp) (Q : Option Int → Sl → Prop) (Q' : Option Int → Hp → Prop), R K M F Γ σ H → W.ok M F → w Γ Q →
  (∀ b M' Γ' H', Same M M' → R K M' F Γ' σ H' → Q b Γ' → Q' b H') → t σ H Q'
/-- settled ones, beside their values -/
inductive OAll (K : PySem.W.Frag) (M : Hp) (σ : L2.St) : List V → List Opd → Prop
  | nil : OAll K M σ [] []
  | d {v : V} {x : D} {vs : List V} {os : List Opd} : Rp K M v x → OAll K M σ vs os → OAll K M σ (v :: vs) (.d x :: os)
  | s {v : V} {i : Nat} {vs : List V} {os : List Opd} : σ[i]? = some (some v) → OAll K M σ vs os → OAll K M σ (v :: vs) (.s i :: os)
  | x {v : V} {vs : List V} {os : List Opd} : OAll K M σ vs os → OAll K M σ (v :: vs) (.x :: os)
def SimA (K : PySem.W.Frag) (W : XW) (t : TA) (w : WA) : Prop := ∀ (M F : Hp) (Γ : Sl) (σ : L2.St) (H : Hp) (Q : List Opd → Sl → Prop) (Q' : List V → Hp → Prop), R K M F Γ σ H → W.ok M F → w Γ Q →
  (∀ os vs M' Γ' H', Same M M' → R K M' F Γ' σ H' → OAll K M' σ vs os → Q os Γ' → Q' vs H') → t σ H Q'

structure DE (X : Cx) (W : XW) (e : Expr) (t : TE) (w : WE) : Prop where
  pe : PE X e t
  sim : Sim X.K W t w
structure DT (X : Cx) (W : XW) (e : Expr) (t : TT) (w : WT) : Prop where
  pt : PT X e t
  sim : SimT X.K W t w
structure DW (X : Cx) (W : XW) (e : Expr) (t : TT) (w : WT) : Prop where
  pw : PW X e t
  sim : SimT X.K W t w
structure DA (X : Cx) (W : XW) (es : List Expr) (t : TA) (w : WA) : Prop where
  pa : PA X es t
  sim : SimA X.K W t w
structure DO (X : Cx) (W : XW) (e : Option Expr) (t : TO) (w : WO) : Prop where
  po : PO X e t
  sim : SimO X.K W t w

section
variable {K : PySem.W.Frag} {W : XW} {M M' F F' H H' : Hp} {Γ Γ' : Sl} {σ : L2.St}
theorem XW.up (h : W.ok M F) (s : Same M M') : W.ok M' F := W.mono s (Same.refl F) h
theorem OAll.mono : ∀ {vs : List V} {os : List Opd}, OAll K M σ vs os → Same M M' → OAll K M' σ vs os
  | _, _, .nil, _ => .nil
  | _, _, .d h t, e => .d (h.up e) (OAll.mono t e)
  | _, _, .s h t, e => .s h (OAll.mono t e)
  | _, _, .x t, e => .x (OAll.mono t e)
theorem OAll.cons {v : V} {o : Opd} {vs : List V} {os : List Opd} (h : ORel K M F Γ σ H v (stl o)) (t : OAll K M σ vs os) : OAll K M σ (v :: vs) (stl o :: os) := by
  cases o with
  | d x => exact .d h t
  | s i => exact .s h t
  | f xs => exact .d h t
  | k _ => exact .x t
  | x => exact .x t
theorem OAll.rel {v : V} {o : Opd} {vs : List V} {os : List Opd} (h : OAll K M σ (v :: vs) (o :: os)) : ORel K M F Γ σ H v o ∧ OAll K M σ vs os := by
  cases h with
  | d h t => exact ⟨h, t⟩
  | s h t => exact ⟨h, t⟩
  | x t => exact ⟨trivial, t⟩
theorem fzs_ok : ∀ {os : List Opd} {vs : List V} {M : Hp} {Γ : Sl} {k : List D → Sl → Prop}, R K M F Γ σ H → OAll K M σ vs os → fzs os Γ k →
    ∃ M' Γ' ds, Same M M' ∧ R K M' F Γ' σ H ∧ RpAll K M' vs ds ∧ k ds Γ'
  | [], vs, M, Γ, k, r, h, hk => by
    cases h
    exact ⟨M, Γ, [], Same.refl M, r, .nil, hk⟩
  | o :: os, [], M, Γ, k, r, h, hk => by cases h
  | o :: os, v :: vs, M, Γ, k, r, h, hk => by
    obtain ⟨h1, h2⟩ := h.rel (F := F) (Γ := Γ) (H := H)
    obtain ⟨M1, Γ1, d, s1, r1, p1, k1, _⟩ := fz_ok r h1 hk
    obtain ⟨M2, Γ2, ds, s2, r2, p2, k2⟩ := fzs_ok r1 (h2.mono s1) k1
    exact ⟨M2, Γ2, d :: ds, s1.trans s2, r2, .cons (p1.up s2) p2, k2⟩
/-- they are read -/
def rss (Γ : Sl) : List Opd → (List D → Prop) → Prop
  | [], k => k []
  | o :: os, k => rs Γ o fun d => rss Γ os fun ds => k (d :: ds)
inductive RdAll (K : PySem.W.Frag) (M H : Hp) : List V → List D → Prop
  | nil : RdAll K M H [] []
  | cons {v : V} {d : D} {vs : List V} {ds : List D} : ReadAt K M H v d → RdAll K M H vs ds → RdAll K M H (v :: vs) (d :: ds)
theorem rss_ok (r : R K M F Γ σ H) : ∀ {os : List Opd} {vs : List V} {k : List D → Prop}, OAll K M σ vs os → rss Γ os k → ∃ ds, RdAll K M H vs ds ∧ k ds
  | [], _, _, h, hk => by
    cases h
    exact ⟨[], .nil, hk⟩
  | o :: os, [], _, h, hk => by cases h
  | o :: os, v :: vs, k, h, hk => by
    obtain ⟨h1, h2⟩ := h.rel (F := F) (Γ := Γ) (H := H)
    obtain ⟨d, p, q⟩ := rs_read r h1 hk
    obtain ⟨ds, p2, q2⟩ := rss_ok r h2 q
    exact ⟨d :: ds, .cons p p2, q2⟩

/-! ### names, constants -/
def wVar (i : Nat) : WE := fun Γ Q => match Γ[i]? with
  | some (some (.imm d)) => Q (.d d) Γ
  | some (some (.own _ _)) => Q (.s i) Γ
  | _ => False
theorem sim_var (i : Nat) : Sim K W (tVar i) (wVar i) := by
  intro M F Γ σ H Q Q' r ok w h
  unfold wVar at w
  cases e : Γ[i]? with
  | none => simp only [e] at w
  | some s =>
    cases s with
    | none => simp only [e] at w
    | some s =>
      cases s with
      | imm d =>
        simp only [e] at w
        obtain ⟨v, e1, e2⟩ := r.im i d e
        exact ⟨v, e1, h (.d d) v M Γ H (Same.refl M) r e2 w⟩
      | own pin ds =>
        simp only [e] at w
        obtain ⟨p, vs, e1, _⟩ := r.ow i pin ds e
        exact ⟨_, e1, h (.s i) _ M Γ H (Same.refl M) r e1 w⟩
      | dic kvs => simp only [e] at w
def wC (d : D) : WE := fun Γ Q => Q (.d d) Γ
theorem sim_c {v : V} {d : D} (hv : ∀ M, Rp K M v d) : Sim K W (tC v) (wC d) := fun M F Γ σ H Q Q' r ok w h => h (.d d) v M Γ H (Same.refl M) r (hv M) w

/-! ### operators of two -/
abbrev F2 := D → D → (Opd → Prop) → Prop
def BOk2 (K : PySem.W.Frag) (r : R2) (f : F2) : Prop := ∀ (M F : Hp) (Γ : Sl) (σ : L2.St) (H : Hp) (x y : V) (d e : D) (Q : Opd → Prop) (Q' : VK), R K M F Γ σ H → ReadAt K M H x d → ReadAt K M H y e → f d e Q →
  (∀ o v M' H', Same M M' → R K M' F Γ σ H' → ORel K M' F Γ σ H' v o → Q o → Q' v H') → r x y H Q'
def wOp (f : F2) (wa wb : WE) : WE := fun Γ Q => wa Γ fun o1 Γ1 => wb Γ1 fun o2 Γ2 => rs Γ2 (stl o1) fun d1 => rs Γ2 o2 fun d2 => f d1 d2 fun o => Q o Γ2
theorem sim_op {r : R2} {f : F2} {ta tb : TE} {wa wb : WE} (hr : BOk2 K r f) (ha : Sim K W ta wa) (hb : Sim K W tb wb) : Sim K W (tOp r ta tb) (wOp f wa wb) := by
  intro M F Γ σ H Q Q' r ok w h
  refine ha M F Γ σ H _ _ r ok w fun o1 x M1 Γ1 H1 s1 r1 v1 w1 => ?_
  obtain ⟨M1', s1', r1', v1'⟩ := stl_ok r1 v1
  refine hb M1' F Γ1 σ H1 _ _ r1' (XW.up ok (s1.trans s1')) w1 fun o2 y M2 Γ2 H2 s2 r2 v2 w2 => ?_
  obtain ⟨d1, p1, w3⟩ := rs_read r2 (stl_mono v1' s2) w2
  obtain ⟨d2, p2, w4⟩ := rs_read r2 v2 w3
  exact hr M2 F Γ2 σ H2 x y d1 d2 _ _ r2 p1 p2 w4 fun o v M3 H3 s3 r3 v3 q3 => h o v M3 Γ2 H3 (s1.trans (s1'.trans (s2.trans s3))) r3 v3 q3
/-- of one -/
abbrev F1 := D → (Opd → Prop) → Prop
def BOk1 (K : PySem.W.Frag) (r : V → Hp → VK → Prop) (f : F1) : Prop := ∀ (M F : Hp) (Γ : Sl) (σ : L2.St) (H : Hp) (x : V) (d : D) (Q : Opd → Prop) (Q' : VK), R K M F Γ σ H → ReadAt K M H x d → f d Q →
  (∀ o v M' H', Same M M' → R K M' F Γ σ H' → ORel K M' F Γ σ H' v o → Q o → Q' v H') → r x H Q'
def wUn (f : F1) (wa : WE) : WE := fun Γ Q => wa Γ fun o1 Γ1 => rs Γ1 o1 fun d => f d fun o => Q o Γ1
theorem sim_un {r : V → Hp → VK → Prop} {f : F1} {ta : TE} {wa : WE} (hr : BOk1 K r f) (ha : Sim K W ta wa) : Sim K W (tUn r ta) (wUn f wa) := by
  intro M F Γ σ H Q Q' r ok w h
  refine ha M F Γ σ H _ _ r ok w fun o1 x M1 Γ1 H1 s1 r1 v1 w1 => ?_
  obtain ⟨d1, p1, w3⟩ := rs_read r1 v1 w1
  exact hr M1 F Γ1 σ H1 x d1 _ _ r1 p1 w3 fun o v M3 H3 s3 r3 v3 q3 => h o v M3 Γ1 H3 (s1.trans s3) r3 v3 q3
/-- a value that needs no heap -/
theorem fin_d {d : D} {v : V} {Q : Opd → Prop} {Q' : VK} (r : R K M F Γ σ H) (hv : Rp K M v d) (q : Q (.d d)) (h : ∀ o v M' H', Same M M' → R K M' F Γ σ H' → ORel K M' F Γ σ H' v o → Q o → Q' v H') : Q' v H :=
  h (.d d) v M H (Same.refl M) r hv q
/-- a new list -/
theorem fin_f {vs : List V} {ds : List D} {Q : Opd → Prop} {Q' : VK} (r : R K M F Γ σ H) {p : Addr} (hp : H p = none) (hv : RpAll K M vs ds) (q : Q (.f ds)) (h : ∀ o v M' H', Same M M' → R K M' F Γ σ H' → ORel K M' F Γ σ H' v o → Q o → Q' v H') : Q' (.ref p) (upd H p (.lst vs)) := by
  refine h (.f ds) _ M _ (Same.refl M) (r.raw hp) ⟨p, vs, rfl, r.sM.free hp, r.sF.free hp, upd_same, hv, r.notOwn_of_none hp⟩ q
/-- a new tuple -/
theorem fin_t {vs : List V} {ds : List D} {Q : Opd → Prop} {Q' : VK} (r : R K M F Γ σ H) {p : Addr} (hp : H p = none) (hv : RpAll K M vs ds) (q : Q (.d (.tuple ds))) (h : ∀ o v M' H', Same M M' → R K M' F Γ σ H' → ORel K M' F Γ σ H' v o → Q o → Q' v H') : Q' (.ref p) (upd H p (.tup vs)) := by
  obtain ⟨a, b⟩ := r.alloc (o := .tup vs) hp
  exact h (.d (.tuple ds)) _ _ _ a b (.tup (.inl (.inl upd_same)) (hv.up a)) q

/-! ### tests -/
def wTest (w : WE) : WT := fun Γ Q => w Γ fun o Γ' => match o with
  | .d (.bool b) => Q b Γ'
  | _ => False
theorem sim_test {t : TE} {w : WE} (ht : Sim K W t w) : SimT K W (tTest t) (wTest w) := by
  intro M F Γ σ H Q Q' r ok w h
  refine ht M F Γ σ H _ _ r ok w fun o1 x M1 Γ1 H1 s1 r1 v1 w1 => ?_
  cases o1 with
  | d y =>
    cases y with
    | bool b =>
      cases (show Rp K M1 x (.bool b) from v1)
      exact ⟨b, rfl, h b M1 Γ1 H1 s1 r1 w1⟩
    | _ => exact False.elim w1
  | _ => exact False.elim w1
def truD (d : D) (k : Bool → Prop) : Prop := match d with
  | .none => k false
  | .bool b => k b
  | .int i => k (i != 0)
  | .str y => y.length ≤ sizeLine ∧ k ((y.length : Int) != 0)
  | .list ds => k (!ds.isEmpty)
  | .tuple ds => k (!ds.isEmpty)
  | .dict _ => False
def wTruth (w : WE) : WT := fun Γ Q => w Γ fun o Γ' => rs Γ' o fun d => truD d fun k => Q k Γ'
theorem isEmpty_len {α β : Type} {xs : List α} {ys : List β} (h : xs.length = ys.length) : xs.isEmpty = ys.isEmpty := by
  cases xs <;> cases ys <;> simp_all
theorem sim_truth {t : TE} {w : WE} (ht : Sim K W t w) : SimT K W (fun σ H Q => t σ H fun x H' => ∃ k, TruV K x H' k ∧ Q k H') (wTruth w) := by
  intro M F Γ σ H Q Q' r ok w h
  refine ht M F Γ σ H _ _ r ok w fun o1 x M1 Γ1 H1 s1 r1 v1 w1 => ?_
  obtain ⟨d, p, q⟩ := rs_read r1 v1 w1
  cases d with
  | none => rw [p.none]; exact ⟨false, rfl, h _ M1 Γ1 H1 s1 r1 q⟩
  | bool b => rw [p.bool]; exact ⟨b, rfl, h _ M1 Γ1 H1 s1 r1 q⟩
  | int b => rw [p.int]; exact ⟨_, rfl, h _ M1 Γ1 H1 s1 r1 q⟩
  | str b => rw [p.str]; exact ⟨_, ⟨q.1, rfl⟩, h _ M1 Γ1 H1 s1 r1 q.2⟩
  | list ds =>
    obtain ⟨a, vs, rfl, e1, e2⟩ := p.list r1.sM
    exact ⟨_, .inl ⟨vs, SqL.of e1, rfl⟩, h _ M1 Γ1 H1 s1 r1 (by rw [isEmpty_len e2.length]; exact q)⟩
  | tuple ds =>
    obtain ⟨a, vs, rfl, e1, e2, _⟩ := p.tuple r1.sM
    exact ⟨_, .inr (.inl ⟨vs, e1, rfl⟩), h _ M1 Γ1 H1 s1 r1 (by rw [isEmpty_len e2.length]; exact q)⟩
  | dict _ => exact q.elim
def wAnd (w u : WT) : WT := fun Γ Q => w Γ fun c Γ1 => if c = true then u Γ1 Q else Q false Γ1
def wOr (w u : WT) : WT := fun Γ Q => w Γ fun c Γ1 => if c = true then Q true Γ1 else u Γ1 Q
def wNot (w : WT) : WT := fun Γ Q => w Γ fun c Γ1 => Q (!c) Γ1
theorem sim_and {t u : TT} {w x : WT} (ht : SimT K W t w) (hu : SimT K W u x) : SimT K W (tAnd t u) (wAnd w x) := by
  intro M F Γ σ H Q Q' r ok w h
  refine ht M F Γ σ H _ _ r ok w fun c M1 Γ1 H1 s1 r1 w1 => ?_
  cases c with
  | true => exact hu M1 F Γ1 σ H1 _ _ r1 (XW.up ok s1) w1 fun b M2 Γ2 H2 s2 r2 w2 => h b M2 Γ2 H2 (s1.trans s2) r2 w2
  | false => exact h _ M1 Γ1 H1 s1 r1 w1
theorem sim_or {t u : TT} {w x : WT} (ht : SimT K W t w) (hu : SimT K W u x) : SimT K W (tOr t u) (wOr w x) := by
  intro M F Γ σ H Q Q' r ok w h
  refine ht M F Γ σ H _ _ r ok w fun c M1 Γ1 H1 s1 r1 w1 => ?_
  cases c with
  | false => exact hu M1 F Γ1 σ H1 _ _ r1 (XW.up ok s1) w1 fun b M2 Γ2 H2 s2 r2 w2 => h b M2 Γ2 H2 (s1.trans s2) r2 w2
  | true => exact h _ M1 Γ1 H1 s1 r1 w1
theorem sim_not {t : TT} {w : WT} (ht : SimT K W t w) : SimT K W (tNot t) (wNot w) := by
  intro M F Γ σ H Q Q' r ok w h
  exact ht M F Γ σ H _ _ r ok w fun c M1 Γ1 H1 s1 r1 w1 => h _ M1 Γ1 H1 s1 r1 w1
/-- as values -/
def wAndV (wa wb : WE) : WE := fun Γ Q => wa Γ fun o Γ1 => match o with
  | .d (.bool c) => if c = true then wb Γ1 Q else Q (.d (.bool false)) Γ1
  | _ => False
def wOrV (wa wb : WE) : WE := fun Γ Q => wa Γ fun o Γ1 => match o with
  | .d (.bool c) => if c = true then Q (.d (.bool true)) Γ1 else wb Γ1 Q
  | _ => False
def wNotV (wa : WE) : WE := fun Γ Q => wa Γ fun o Γ1 => match o with
  | .d (.bool c) => Q (.d (.bool (!c))) Γ1
  | _ => False
theorem sim_andV {ta tb : TE} {wa wb : WE} (ha : Sim K W ta wa) (hb : Sim K W tb wb) : Sim K W (tAndV ta tb) (wAndV wa wb) := by
  intro M F Γ σ H Q Q' r ok w h
  refine ha M F Γ σ H _ _ r ok w fun o x M1 Γ1 H1 s1 r1 v1 w1 => ?_
  cases o with
  | d y =>
    cases y with
    | bool c =>
      cases (show Rp K M1 x (.bool c) from v1)
      refine ⟨c, rfl, ?_⟩
      cases c with
      | true => exact hb M1 F Γ1 σ H1 _ _ r1 (XW.up ok s1) w1 fun o v M2 Γ2 H2 s2 r2 v2 w2 => h o v M2 Γ2 H2 (s1.trans s2) r2 v2 w2
      | false => exact h (.d (.bool false)) _ M1 Γ1 H1 s1 r1 (Rp.bl false) w1
    | _ => exact False.elim w1
  | _ => exact False.elim w1
theorem sim_orV {ta tb : TE} {wa wb : WE} (ha : Sim K W ta wa) (hb : Sim K W tb wb) : Sim K W (tOrV ta tb) (wOrV wa wb) := by
  intro M F Γ σ H Q Q' r ok w h
  refine ha M F Γ σ H _ _ r ok w fun o x M1 Γ1 H1 s1 r1 v1 w1 => ?_
  cases o with
  | d y =>
    cases y with
    | bool c =>
      cases (show Rp K M1 x (.bool c) from v1)
      refine ⟨c, rfl, ?_⟩
      cases c with
      | false => exact hb M1 F Γ1 σ H1 _ _ r1 (XW.up ok s1) w1 fun o v M2 Γ2 H2 s2 r2 v2 w2 => h o v M2 Γ2 H2 (s1.trans s2) r2 v2 w2
      | true => exact h (.d (.bool true)) _ M1 Γ1 H1 s1 r1 (Rp.bl true) w1
    | _ => exact False.elim w1
  | _ => exact False.elim w1
theorem sim_notV {ta : TE} {wa : WE} (ha : Sim K W ta wa) : Sim K W (tNotV ta) (wNotV wa) := by
  intro M F Γ σ H Q Q' r ok w h
  refine ha M F Γ σ H _ _ r ok w fun o x M1 Γ1 H1 s1 r1 v1 w1 => ?_
  cases o with
  | d y =>
    cases y with
    | bool c =>
      cases (show Rp K M1 x (.bool c) from v1)
      exact ⟨c, rfl, h (.d (.bool (!c))) _ M1 Γ1 H1 s1 r1 (Rp.bl _) w1⟩
    | _ => exact False.elim w1
  | _ => exact False.elim w1
def wIf (c : WT) (wa wb : WE) : WE := fun Γ Q => c Γ fun k Γ1 => if k = true then wa Γ1 Q else wb Γ1 Q
theorem sim_if {t : TT} {ta tb : TE} {w : WT} {wa wb : WE} (ht : SimT K W t w) (ha : Sim K W ta wa) (hb : Sim K W tb wb) : Sim K W (tIf t ta tb) (wIf w wa wb) := by
  intro M F Γ σ H Q Q' r ok w h
  refine ht M F Γ σ H _ _ r ok w fun c M1 Γ1 H1 s1 r1 w1 => ?_
  cases c with
  | true => exact ha M1 F Γ1 σ H1 _ _ r1 (XW.up ok s1) w1 fun o v M2 Γ2 H2 s2 r2 v2 w2 => h o v M2 Γ2 H2 (s1.trans s2) r2 v2 w2
  | false => exact hb M1 F Γ1 σ H1 _ _ r1 (XW.up ok s1) w1 fun o v M2 Γ2 H2 s2 r2 v2 w2 => h o v M2 Γ2 H2 (s1.trans s2) r2 v2 w2
/-- a op b op' c -/
def wChain (f f' : F2) (wa wb wc : WE) : WE := fun Γ Q => wa Γ fun o1 Γ1 => wb Γ1 fun o2 Γ2 => rs Γ2 (stl o1) fun d1 => rs Γ2 (stl o2) fun d2 => f d1 d2 fun o => match o with
  | .d (.bool c) => if c = true then wc Γ2 fun o3 Γ3 => rs Γ3 (stl o2) fun d2' => rs Γ3 o3 fun d3 => f' d2' d3 fun o => Q o Γ3 else Q (.d (.bool false)) Γ2
  | _ => False
theorem sim_chain {r r' : R2} {f f' : F2} {ta tb tc : TE} {wa wb wc : WE} (hr : BOk2 K r f) (hr' : BOk2 K r' f') (ha : Sim K W ta wa) (hb : Sim K W tb wb) (hc : Sim K W tc wc) : Sim K W (tChain r r' ta tb tc) (wChain f f' wa wb wc) := by
  intro M F Γ σ H Q Q' r ok w h
  refine ha M F Γ σ H _ _ r ok w fun o1 x M1 Γ1 H1 s1 r1 v1 w1 => ?_
  obtain ⟨M1', s1', r1', v1'⟩ := stl_ok r1 v1
  refine hb M1' F Γ1 σ H1 _ _ r1' (XW.up ok (s1.trans s1')) w1 fun o2 y M2 Γ2 H2 s2 r2 v2 w2 => ?_
  obtain ⟨M2', s2', r2', v2'⟩ := stl_ok r2 v2
  obtain ⟨d1, p1, w3⟩ := rs_read r2' (stl_mono v1' (s2.trans s2')) w2
  obtain ⟨d2, p2, w4⟩ := rs_read r2' v2' w3
  refine hr M2' F Γ2 σ H2 x y d1 d2 _ _ r2' p1 p2 w4 fun o v M3 H3 s3 r3 v3 q3 => ?_
  have s13 := s1.trans (s1'.trans (s2.trans (s2'.trans s3)))
  cases o with
  | d z =>
    cases z with
    | bool c =>
      cases (show Rp K M3 v (.bool c) from v3)
      refine ⟨c, rfl, ?_⟩
      cases c with
      | true =>
        refine hc M3 F Γ2 σ H3 _ _ r3 (XW.up ok s13) q3 fun o3 y3 M4 Γ4 H4 s4 r4 v4 w5 => ?_
        obtain ⟨d2', p5, w6⟩ := rs_read r4 (stl_mono v2' (s3.trans s4)) w5
        obtain ⟨d3, p6, w7⟩ := rs_read r4 v4 w6
        exact hr' M4 F Γ4 σ H4 y y3 d2' d3 _ _ r4 p5 p6 w7 fun o v M5 H5 s5 r5 v5 q5 => h o v M5 Γ4 H5 (s13.trans (s4.trans s5)) r5 v5 q5
      | false => exact h (.d (.bool false)) _ M3 Γ2 H3 s13 r3 (Rp.bl false) q3
    | _ => exact False.elim q3
  | _ => exact False.elim q3

/-! ### lists of arguments, displays -/
def wNil : WA := fun Γ Q => Q [] Γ
def wCons (we : WE) (wr : WA) : WA := fun Γ Q => we Γ fun o Γ1 => wr Γ1 fun os Γ2 => Q (stl o :: os) Γ2
theorem sim_nil : SimA K W tNil wNil := fun M F Γ σ H Q Q' r ok w h => h [] [] M Γ H (Same.refl M) r .nil w
theorem sim_cons {te : TE} {ta : TA} {we : WE} {wr : WA} (he : Sim K W te we) (ha : SimA K W ta wr) : SimA K W (tCons te ta) (wCons we wr) := by
  intro M F Γ σ H Q Q' r ok w h
  refine he M F Γ σ H _ _ r ok w fun o x M1 Γ1 H1 s1 r1 v1 w1 => ?_
  obtain ⟨M1', s1', r1', v1'⟩ := stl_ok r1 v1
  refine ha M1' F Γ1 σ H1 _ _ r1' (XW.up ok (s1.trans s1')) w1 fun os vs M2 Γ2 H2 s2 r2 v2 w2 => ?_
  exact h _ _ M2 Γ2 H2 (s1.trans (s1'.trans s2)) r2 (OAll.cons (F := F) (Γ := Γ2) (H := H2) (stl_mono v1' s2) v2) w2
def wTup (wa : WA) : WE := fun Γ Q => wa Γ fun os Γ1 => fzs os Γ1 fun ds Γ2 => ds.length ≤ sizeLine ∧ Q (.d (.tuple ds)) Γ2
def wLst (wa : WA) : WE := fun Γ Q => wa Γ fun os Γ1 => fzs os Γ1 fun ds Γ2 => ds.length ≤ sizeLine ∧ Q (.f ds) Γ2
theorem sim_tup {ta : TA} {wa : WA} (ha : SimA K W ta wa) : Sim K W (tTup ta) (wTup wa) := by
  intro M F Γ σ H Q Q' r ok w h
  refine ha M F Γ σ H _ _ r ok w fun os vs M1 Γ1 H1 s1 r1 v1 w1 => ?_
  obtain ⟨M2, Γ2, ds, s2, r2, p2, k2, q2⟩ := fzs_ok r1 v1 w1
  refine ⟨by rw [p2.length]; exact k2, fun p hp => ?_⟩
  exact fin_t (Q := fun o => Q o Γ2) (Q' := Q') r2 hp p2 q2 fun o v M3 H3 s3 r3 v3 q3 => h o v M3 Γ2 H3 (s1.trans (s2.trans s3)) r3 v3 q3
theorem sim_lst {ta : TA} {wa : WA} (ha : SimA K W ta wa) : Sim K W (tLst ta) (wLst wa) := by
  intro M F Γ σ H Q Q' r ok w h
  refine ha M F Γ σ H _ _ r ok w fun os vs M1 Γ1 H1 s1 r1 v1 w1 => ?_
  obtain ⟨M2, Γ2, ds, s2, r2, p2, k2, q2⟩ := fzs_ok r1 v1 w1
  refine ⟨by rw [p2.length]; exact k2, fun p hp => ?_⟩
  exact fin_f (Q := fun o => Q o Γ2) (Q' := Q') r2 hp p2 q2 fun o v M3 H3 s3 r3 v3 q3 => h o v M3 Γ2 H3 (s1.trans (s2.trans s3)) r3 v3 q3
/-- a built-in, by values -/
abbrev FB := List D → (Opd → Prop) → Prop
def BOk (K : PySem.W.Frag) (r : List V → Hp → VK → Prop) (f : FB) : Prop := ∀ (M F : Hp) (Γ : Sl) (σ : L2.St) (H : Hp) (vs : List V) (ds : List D) (Q : Opd → Prop) (Q' : VK), R K M F Γ σ H → RdAll K M H vs ds → f ds Q →
  (∀ o v M' H', Same M M' → R K M' F Γ σ H' → ORel K M' F Γ σ H' v o → Q o → Q' v H') → r vs H Q'
def wCB (f : FB) (wa : WA) : WE := fun Γ Q => wa Γ fun os Γ1 => rss Γ1 os fun ds => f ds fun o => Q o Γ1
theorem sim_cb {rr : List V → Hp → VK → Prop} {f : FB} {ta : TA} {wa : WA} (hr : BOk K rr f) (ha : SimA K W ta wa) : Sim K W (tCB rr ta) (wCB f wa) := by
  intro M F Γ σ H Q Q' r ok w h
  refine ha M F Γ σ H _ _ r ok w fun os vs M1 Γ1 H1 s1 r1 v1 w1 => ?_
  obtain ⟨ds, p, q⟩ := rss_ok r1 v1 w1
  exact hr M1 F Γ1 σ H1 vs ds _ _ r1 p q fun o v M3 H3 s3 r3 v3 q3 => h o v M3 Γ1 H3 (s1.trans s3) r3 v3 q3
/-- slices -/
def wNoPart : WO := fun Γ Q => Q none Γ
def wPart (we : WE) : WO := fun Γ Q => we Γ fun o Γ1 => match o with
  | .d (.int i) => Q (some i) Γ1
  | _ => False
theorem sim_noPart : SimO K W tNoPart wNoPart := fun M F Γ σ H Q Q' r ok w h => h none M Γ H (Same.refl M) r w
theorem sim_part {te : TE} {we : WE} (he : Sim K W te we) : SimO K W (tPart te) (wPart we) := by
  intro M F Γ σ H Q Q' r ok w h
  refine he M F Γ σ H _ _ r ok w fun o x M1 Γ1 H1 s1 r1 v1 w1 => ?_
  cases o with
  | d y =>
    cases y with
    | int i =>
      cases (show Rp K M1 x (.int i) from v1)
      exact ⟨i, rfl, h _ M1 Γ1 H1 s1 r1 w1⟩
    | _ => exact False.elim w1
  | _ => exact False.elim w1
abbrev FS := D → Option Int → Option Int → (Opd → Prop) → Prop
def SOk (K : PySem.W.Frag) (r : V → Option Int → Option Int → Hp → VK → Prop) (f : FS) : Prop := ∀ (M F : Hp) (Γ : Sl) (σ : L2.St) (H : Hp) (x : V) (d : D) (l u : Option Int) (Q : Opd → Prop) (Q' : VK), R K M F Γ σ H → ReadAt K M H x d → f d l u Q →
  (∀ o v M' H', Same M M' → R K M' F Γ σ H' → ORel K M' F Γ σ H' v o → Q o → Q' v H') → r x l u H Q'
def wSl (f : FS) (we : WE) (wl wh : WO) : WE := fun Γ Q => we Γ fun o Γ1 => wl Γ1 fun l Γ2 => wh Γ2 fun u Γ3 => rs Γ3 (stl o) fun d => f d l u fun o' => Q o' Γ3
theorem sim_sl {rr : V → Option Int → Option Int → Hp → VK → Prop} {f : FS} {te : TE} {tl th : TO} {we : WE} {wl wh : WO} (hr : SOk K rr f) (he : Sim K W te we) (hl : SimO K W tl wl) (hh : SimO K W th wh) : Sim K W (tSl rr te tl th) (wSl f we wl wh) := by
  intro M F Γ σ H Q Q' r ok w h
  refine he M F Γ σ H _ _ r ok w fun o x M1 Γ1 H1 s1 r1 v1 w1 => ?_
  obtain ⟨M1', s1', r1', v1'⟩ := stl_ok r1 v1
  refine hl M1' F Γ1 σ H1 _ _ r1' (XW.up ok (s1.trans s1')) w1 fun l M2 Γ2 H2 s2 r2 w2 => ?_
  refine hh M2 F Γ2 σ H2 _ _ r2 (XW.up ok (s1.trans (s1'.trans s2))) w2 fun u M3 Γ3 H3 s3 r3 w3 => ?_
  obtain ⟨d, p, q⟩ := rs_read r3 (stl_mono v1' (s2.trans s3)) w3
  exact hr M3 F Γ3 σ H3 x d l u _ _ r3 p q fun o v M4 H4 s4 r4 v4 q4 => h o v M4 Γ3 H4 (s1.trans (s1'.trans (s2.trans (s3.trans s4)))) r4 v4 q4
end
end Pd
end

section
set_option maxRecDepth 100000
/-! Pd3: statements, loops, comprehensions. -/
namespace Pd
open PySem PySem.Spec L2
open PyProof.Rows hiding St
set_option autoImplicit false

structure EndsD where
  nx : Sl → Prop
  rt : D → Sl → Prop
  bk : Sl → Prop := fun _ => False
  ct : Sl → Prop := fun _ => False
  ro : List D → Sl → Prop := fun _ _ => False
abbrev WS := EndsD → Sl → Prop
abbrev WG := D → Sl → (Sl → Prop) → Prop
abbrev WGs := List D → Sl → (Sl → Prop) → Prop
abbrev WI := Sl → (List D → Sl → Prop) → Prop
structure EOk (K : PySem.W.Frag) (M F : Hp) (De : EndsD) (Dt : Ends) : Prop where
  nx : ∀ M' Γ' σ' H', Same M M' → R K M' F Γ' σ' H' → De.nx Γ' → Dt.nx σ' H'
  rt : ∀ v d M' Γ' σ' H', Same M M' → R K M' F Γ' σ' H' → Rp K M' v d → De.rt d Γ' → Dt.rt v H'
  bk : ∀ M' Γ' σ' H', Same M M' → R K M' F Γ' σ' H' → De.bk Γ' → Dt.bk σ' H'
  ct : ∀ M' Γ' σ' H', Same M M' → R K M' F Γ' σ' H' → De.ct Γ' → Dt.ct σ' H'
  ro : ∀ p vs xs M' Γ' σ' H', Same M M' → R K M' F Γ' σ' H' → M' p = none → F p = none → H' p = some (.lst vs) → RpAll K M' vs xs → De.ro xs Γ' → Dt.rt (.ref p) H'
def SimS (K : PySem.W.Frag) (W : XW) (t : TS) (w : WS) : Prop := ∀ (M F : Hp) (Γ : Sl) (σ : L2.St) (H : Hp) (De : EndsD) (Dt : Ends), R K M F Γ σ H → W.ok M F → w De Γ → EOk K M F De Dt → t Dt σ H
/-- targets: is are the slots that may change -/
def SimG (K : PySem.W.Frag) (g : TG) (is : List Nat) (w : WG) : Prop := ∀ (M F : Hp) (Γ : Sl) (σ : L2.St) (H : Hp) (v : V) (d : D) (Q : Sl → Prop) (Q' : L2.St → Hp → Prop), R K M F Γ σ H → Rp K M v d → w d Γ Q →
  (∀ Γ' σ', R K M F Γ' σ' H → σ'.length = σ.length → (∀ j, j ∉ is → σ'[j]? = σ[j]?) → Q Γ' → Q' σ' H) → g v σ H Q'
def SimGs (K : PySem.W.Frag) (g : TGs) (is : List Nat) (w : WGs) : Prop := ∀ (M F : Hp) (Γ : Sl) (σ : L2.St) (H : Hp) (vs : List V) (ds : List D) (Q : Sl → Prop) (Q' : L2.St → Hp → Prop), R K M F Γ σ H → RpAll K M vs ds → w ds Γ Q →
  (∀ Γ' σ', R K M F Γ' σ' H → σ'.length = σ.length → (∀ j, j ∉ is → σ'[j]? = σ[j]?) → Q Γ' → Q' σ' H) → g vs σ H Q'
/-- what is walked gives items -/
def ItOk (K : PySem.W.Frag) (M : Hp) (J : It) (items : List D) : Prop :=
  ∃ (G : Hp → Prop) (Y : Nat → Hp → V → Hp → Prop), Walk J items.length G Y ∧ (∀ H, Same M H → G H) ∧
    ∀ i H x H' M' F Γ σ, i < items.length → Same M M' → R K M' F Γ σ H → Y i H x H' → ∃ M'' d, Same M' M'' ∧ R K M'' F Γ σ H' ∧ items[i]? = some d ∧ Rp K M'' x d
def SimI (K : PySem.W.Frag) (W : XW) (t : TI) (w : WI) : Prop := ∀ (M F : Hp) (Γ : Sl) (σ : L2.St) (H : Hp) (Q : List D → Sl → Prop) (Q' : It → Hp → Prop), R K M F Γ σ H → W.ok M F → w Γ Q →
  (∀ J items M' Γ' H', Same M M' → R K M' F Γ' σ H' → ItOk K M' J items → Q items Γ' → Q' J H') → t σ H Q'

structure DS (X : Cx) (W : XW) (st : Stmt) (t : TS) (w : WS) : Prop where
  ps : PS X st t
  sim : SimS X.K W t w
structure DSs (X : Cx) (W : XW) (st : List Stmt) (t : TS) (w : WS) : Prop where
  pss : PSs X st t
  sim : SimS X.K W t w
structure DG (X : Cx) (tg : Expr) (t : TG) (is : List Nat) (w : WG) : Prop where
  pg : PG X tg t
  sim : SimG X.K t is w
structure DGs (X : Cx) (tg : List Expr) (t : TGs) (is : List Nat) (w : WGs) : Prop where
  pgs : PGs X tg t
  sim : SimGs X.K t is w
structure DI (X : Cx) (W : XW) (tg iter : Expr) (t : TI) (w : WI) : Prop where
  pi : PI X tg iter t
  sim : SimI X.K W t w

section
variable {K : PySem.W.Frag} {W : XW} {M M' F F' H H' : Hp} {Γ Γ' : Sl} {σ σ' : L2.St}
theorem EOk.up {De : EndsD} {Dt : Ends} (h : EOk K M F De Dt) (s : Same M M') : EOk K M' F De Dt :=
  ⟨fun M' Γ' σ' H' e => h.nx M' Γ' σ' H' (s.trans e), fun v d M' Γ' σ' H' e => h.rt v d M' Γ' σ' H' (s.trans e), fun M' Γ' σ' H' e => h.bk M' Γ' σ' H' (s.trans e), fun M' Γ' σ' H' e => h.ct M' Γ' σ' H' (s.trans e), fun p vs xs M' Γ' σ' H' e => h.ro p vs xs M' Γ' σ' H' (s.trans e)⟩
theorem R.updOut (r : R K M F Γ σ H) {p : Addr} {o : HO} {vs0 : List V} (hM : M p = none) (hF : F p = none) (hn : ¬ OwnAt Γ σ p) (h0 : H p = some (.lst vs0)) : R K M F Γ σ (upd H p o) := by
  refine ⟨same_out r.sM hM, same_out r.sF hF, r.dj, r.len, r.im, fun i pin ds e => ?_, r.sep, fun i kvs e => ?_, r.dsep⟩
  · obtain ⟨q, vs, e1, e2, e3, e4, e5, e6⟩ := r.ow i pin ds e
    refine ⟨q, vs, e1, e2, e3, e4, ?_, e6⟩
    rw [upd_ne (show q ≠ p from fun z => hn ⟨i, pin, ds, e, by rw [← z]; exact e1⟩)]
    exact e5
  · obtain ⟨q, us, e1, e3, e6⟩ := r.dw i kvs e
    refine ⟨q, us, e1, e3.imp (fun z => z) fun _ e3 e4 e5 => ⟨e3, e4, ?_⟩, e6⟩
    rw [upd_ne (show q ≠ p from fun z => by rw [z, h0] at e5; exact dkO_nl e5)]
    exact e5

/-! ### small statements -/
def wNext : WS := fun De Γ => De.nx Γ
theorem sim_next : SimS K W tNext wNext := fun M F Γ σ H De Dt r ok w h => h.nx M Γ σ H (Same.refl M) r w
def wSeq (a b : WS) : WS := fun De Γ => a { De with nx := b De } Γ
theorem sim_seq {t u : TS} {a b : WS} (ha : SimS K W t a) (hb : SimS K W u b) : SimS K W (tSeq t u) (wSeq a b) := by
  intro M F Γ σ H De Dt r ok w h
  refine ha M F Γ σ H _ _ r ok w ⟨fun M1 Γ1 σ1 H1 s1 r1 w1 => ?_, h.rt, h.bk, h.ct, h.ro⟩
  exact hb M1 F Γ1 σ1 H1 De Dt r1 (XW.up ok s1) w1 (h.up s1)
def wBreak : WS := fun De Γ => De.bk Γ
def wCont : WS := fun De Γ => De.ct Γ
theorem sim_break : SimS K W tBreak wBreak := fun M F Γ σ H De Dt r ok w h => h.bk M Γ σ H (Same.refl M) r w
theorem sim_cont : SimS K W tCont wCont := fun M F Γ σ H De Dt r ok w h => h.ct M Γ σ H (Same.refl M) r w
def wNever : WS := fun _ _ => False
theorem sim_never : SimS K W tNever wNever := fun _ _ _ _ _ _ _ _ _ w _ => w.elim
def wDrop (we : WE) : WS := fun De Γ => we Γ fun _ Γ1 => De.nx Γ1
theorem sim_drop {te : TE} {we : WE} (he : Sim K W te we) : SimS K W (tDrop te) (wDrop we) := by
  intro M F Γ σ H De Dt r ok w h
  exact he M F Γ σ H _ _ r ok w fun o v M1 Γ1 H1 s1 r1 v1 w1 => h.nx M1 Γ1 σ H1 s1 r1 w1
def wRet (we : WE) : WS := fun De Γ => we Γ fun o Γ1 => fz Γ1 o fun d Γ2 => De.rt d Γ2
theorem sim_ret {te : TE} {we : WE} (he : Sim K W te we) : SimS K W (tRet te) (wRet we) := by
  intro M F Γ σ H De Dt r ok w h
  refine he M F Γ σ H _ _ r ok w fun o v M1 Γ1 H1 s1 r1 v1 w1 => ?_
  obtain ⟨M2, Γ2, d, s2, r2, p2, k2, _⟩ := fz_ok r1 v1 w1
  exact h.rt v d M2 Γ2 σ H1 (s1.trans s2) r2 p2 k2
/-- a list of one's own is given back -/
def wRetO (we : WE) : WS := fun De Γ => we Γ fun o Γ1 => match o with
  | .f xs => De.ro xs Γ1
  | .s i => (match Γ1[i]? with
    | some (some (.own none xs)) => De.ro xs Γ1
    | _ => False)
  | _ => False
theorem sim_retO {te : TE} {we : WE} (he : Sim K W te we) : SimS K W (tRet te) (wRetO we) := by
  intro M F Γ σ H De Dt r ok w h
  refine he M F Γ σ H _ _ r ok w fun o v M1 Γ1 H1 s1 r1 v1 w1 => ?_
  match o, v1, w1 with
  | .f xs, v1, w1 =>
    obtain ⟨p, vs, rfl, e1, e2, e3, e4, _⟩ := v1
    exact h.ro p vs xs M1 Γ1 σ H1 s1 r1 e1 e2 e3 e4 w1
  | .s i, v1, w1 =>
    replace w1 : (match Γ1[i]? with | some (some (.own none xs)) => De.ro xs Γ1 | _ => False) := w1
    split at w1
    · next xs e =>
      obtain ⟨p, vs, g1, g2, g3, g4, g5, g6⟩ := r1.ow i none xs e
      have v1 : σ[i]? = some (some v) := v1
      rw [v1] at g1; cases g1
      exact h.ro p vs xs M1 Γ1 σ H1 s1 r1 g3 g4 g5 g6 w1
    · exact w1.elim
  | .d _, _, w1 => exact w1.elim
  | .k _, _, w1 => exact w1.elim
  | .x, _, w1 => exact w1.elim
def wRetN : WS := fun De Γ => De.rt .none Γ
theorem sim_retN : SimS K W tRetN wRetN := fun M F Γ σ H De Dt r ok w h => h.rt .non .none M Γ σ H (Same.refl M) r .non w
def wIfS (c : WT) (a b : WS) : WS := fun De Γ => c Γ fun k Γ1 => if k = true then a De Γ1 else b De Γ1
theorem sim_ifS {c : TT} {t u : TS} {wc : WT} {a b : WS} (hc : SimT K W c wc) (ha : SimS K W t a) (hb : SimS K W u b) : SimS K W (tIfS c t u) (wIfS wc a b) := by
  intro M F Γ σ H De Dt r ok w h
  refine hc M F Γ σ H _ _ r ok w fun k M1 Γ1 H1 s1 r1 w1 => ?_
  cases k with
  | true => exact ha M1 F Γ1 σ H1 De Dt r1 (XW.up ok s1) w1 (h.up s1)
  | false => exact hb M1 F Γ1 σ H1 De Dt r1 (XW.up ok s1) w1 (h.up s1)

/-! ### a name is stored -/
def prep (Γ : Sl) (o : Opd) (k : SV → Sl → Prop) : Prop := match o with
  | .f xs => k (.own none xs) Γ
  | .d x => k (.imm x) Γ
  | .s i => fz Γ (.s i) fun d Γ1 => k (.imm d) Γ1
  | .k kvs => k (.dic kvs) Γ
  | .x => False
def wSet (i : Nat) (we : WE) : WS := fun De Γ => we Γ fun o Γ1 => prep Γ1 o fun s Γ2 => De.nx (Γ2.set i (some s))
theorem prep_ok {o : Opd} {v : V} {k : SV → Sl → Prop} (r : R K M F Γ σ H) (h : ORel K M F Γ σ H v o) (hk : prep Γ o k) :
    ∃ M' Γ' s, Same M M' ∧ R K M' F Γ' σ H ∧ k s Γ' ∧ ∀ i, R K M' F (Γ'.set i (some s)) (σ.set i (some v)) H := by
  cases o with
  | d x => exact ⟨M, Γ, _, Same.refl M, r, hk, fun i => r.setImm h⟩
  | s j =>
    obtain ⟨M2, Γ2, d, s2, r2, p2, k2, _⟩ := fz_ok r h hk
    exact ⟨M2, Γ2, _, s2, r2, k2, fun i => r2.setImm p2⟩
  | f xs =>
    obtain ⟨p, vs, rfl, e1, e2, e3, e4, e5⟩ := h
    exact ⟨M, Γ, _, Same.refl M, r, hk, fun i => r.setOwn e3 e1 e2 e5 e4⟩
  | k kvs =>
    obtain ⟨p, us, rfl, e1, e2, e3, e4, l, e5⟩ := h
    exact ⟨M, Γ, _, Same.refl M, r, hk, fun i => r.setDic e3 e1 e2 e5 e4 l⟩
  | x => exact False.elim hk
theorem sim_set {i : Nat} {te : TE} {we : WE} (he : Sim K W te we) : SimS K W (tAsg te (gName i)) (wSet i we) := by
  intro M F Γ σ H De Dt r ok w h
  refine he M F Γ σ H _ _ r ok w fun o v M1 Γ1 H1 s1 r1 v1 w1 => ?_
  obtain ⟨M2, Γ2, s, s2, r2, k2, q⟩ := prep_ok r1 v1 w1
  exact h.nx M2 _ _ H1 (s1.trans s2) (q i) k2

/-! ### targets -/
def wgName (i : Nat) : WG := fun d Γ Q => Q (Γ.set i (some (.imm d)))
theorem simg_name (i : Nat) : SimG K (gName i) [i] (wgName i) := by
  intro M F Γ σ H v d Q Q' r p w h
  refine h _ _ (r.setImm p) (by simp) (fun j hj => ?_) w
  exact List.getElem?_set_ne (fun e => hj (by simp [e]))
def wgNil : WGs := fun ds Γ Q => match ds with
  | [] => Q Γ
  | _ => False
def wgCons (w : WG) (ws : WGs) : WGs := fun ds Γ Q => match ds with
  | d :: r => w d Γ fun Γ1 => ws r Γ1 Q
  | [] => False
theorem simg_nil : SimGs K gNil [] wgNil := by
  intro M F Γ σ H vs ds Q Q' r p w h
  cases p with
  | nil => exact ⟨rfl, h Γ σ r rfl (fun _ _ => rfl) w⟩
  | cons _ _ => exact False.elim w
theorem simg_cons {t : TG} {u : TGs} {is js : List Nat} {w : WG} {ws : WGs} (ht : SimG K t is w) (hu : SimGs K u js ws) : SimGs K (gCons t u) (is ++ js) (wgCons w ws) := by
  intro M F Γ σ H vs ds Q Q' r p w h
  cases p with
  | nil => exact False.elim w
  | cons p1 p2 =>
    refine ⟨_, _, rfl, ht M F Γ σ H _ _ _ _ r p1 w fun Γ1 σ1 r1 l1 k1 w1 => ?_⟩
    refine hu M F Γ1 σ1 H _ _ _ _ r1 p2 w1 fun Γ2 σ2 r2 l2 k2 w2 => ?_
    exact h Γ2 σ2 r2 (l2.trans l1) (fun j hj => (k2 j fun z => hj (List.mem_append_right _ z)).trans (k1 j fun z => hj (List.mem_append_left _ z))) w2
def wgTup (n : Nat) (ws : WGs) : WG := fun d Γ Q => match d with
  | .tuple ds => ds.length = n ∧ ws ds Γ Q
  | _ => False
theorem simg_tup {n : Nat} {u : TGs} {is : List Nat} {ws : WGs} (hu : SimGs K u is ws) : SimG K (gTup K n u) is (wgTup n ws) := by
  intro M F Γ σ H v d Q Q' r p w h
  cases d with
  | tuple ds =>
    obtain ⟨a, vs, rfl, e1, e2, _⟩ := (ReadAt.rp p).tuple r.sM
    exact ⟨a, vs, rfl, e1, e2.length.trans w.1, hu M F Γ σ H vs ds Q Q' r e2 w.2 h⟩
  | _ => exact False.elim w
/-- a target, by data -/
def wAsg (we : WE) (wg : WG) : WS := fun De Γ => we Γ fun o Γ1 => fz Γ1 o fun d Γ2 => wg d Γ2 De.nx
theorem sim_asg {te : TE} {we : WE} {g : TG} {is : List Nat} {wg : WG} (he : Sim K W te we) (hg : SimG K g is wg) : SimS K W (tAsg te g) (wAsg we wg) := by
  intro M F Γ σ H De Dt r ok w h
  refine he M F Γ σ H _ _ r ok w fun o v M1 Γ1 H1 s1 r1 v1 w1 => ?_
  obtain ⟨M2, Γ2, d, s2, r2, p2, k2, _⟩ := fz_ok r1 v1 w1
  exact hg M2 F Γ2 σ H1 v d _ _ r2 p2 k2 fun Γ3 σ3 r3 _ _ w3 => h.nx M2 Γ3 σ3 H1 (s1.trans s2) r3 w3

/-! ### several values at once, new lists among them -/
def del (F : Hp) (p : Addr) : Hp := fun a => if a = p then none else F a
theorem same_del {F : Hp} {p : Addr} : Same (del F p) F := fun b x e => by
  unfold del at e
  split at e
  · cases e
  · exact e
theorem del_self {F : Hp} {p : Addr} : del F p p = none := by unfold del; rw [if_pos rfl]
theorem del_ne {F : Hp} {p q : Addr} (h : q ≠ p) : del F p q = F q := by unfold del; rw [if_neg h]
/-- F the base, F' with the new lists -/
inductive Bag (K : PySem.W.Frag) (M : Hp) (σ : L2.St) (F : Hp) : Hp → List V → List Opd → Prop
  | nil {F' : Hp} : Same F F' → Bag K M σ F F' [] []
  | d {F' : Hp} {v : V} {x : D} {vs : List V} {os : List Opd} : Rp K M v x → Bag K M σ F F' vs os → Bag K M σ F F' (v :: vs) (.d x :: os)
  | s {F' : Hp} {v : V} {i : Nat} {vs : List V} {os : List Opd} : σ[i]? = some (some v) → Bag K M σ F F' vs os → Bag K M σ F F' (v :: vs) (.s i :: os)
  | f {F' : Hp} {p : Addr} {cs vs : List V} {xs : List D} {os : List Opd} : F p = none → F' p = some (.lst cs) → RpAll K M cs xs → Bag K M σ F (del F' p) vs os → Bag K M σ F F' (.ref p :: vs) (.f xs :: os)
  | k {F' : Hp} {p : Addr} {us : LK} {vs : List V} {kvs : DK} {os : List Opd} : F p = none → F' p = some (dkO us) → (KvRel K M us kvs ∧ kvs.lock = false) → Bag K M σ F (del F' p) vs os → Bag K M σ F F' (.ref p :: vs) (.k kvs :: os)
  | x {F' : Hp} {v : V} {vs : List V} {os : List Opd} : Bag K M σ F F' vs os → Bag K M σ F F' (v :: vs) (.x :: os)
theorem Bag.sub {vs : List V} {os : List Opd} (h : Bag K M σ F F' vs os) : Same F F' := by
  induction h with
  | nil h => exact h
  | d _ _ ih => exact ih
  | s _ _ ih => exact ih
  | f _ _ _ _ ih => exact ih.trans same_del
  | k _ _ _ _ ih => exact ih.trans same_del
  | x _ ih => exact ih
theorem del_del {F : Hp} {p q : Addr} : del (del F p) q = del (del F q) p := by
  funext a
  unfold del
  by_cases h1 : a = p <;> by_cases h2 : a = q <;> simp [h1, h2]
/-- the head's cell is taken from the base -/
theorem Bag.less {vs : List V} {os : List Opd} {p : Addr} {o : HO} {F1 : Hp} (h : Bag K M σ F1 F' vs os) : ∀ {F : Hp}, F1 = upd F p o → F p = none → Bag K M σ F (del F' p) vs os := by
  induction h with
  | nil h =>
    intro F e hp
    refine .nil fun b x q => ?_
    have hb : b ≠ p := ne_of_none q hp
    rw [del_ne hb]
    exact h b x (by rw [e, upd_ne hb]; exact q)
  | d h _ ih => intro F e hp; exact .d h (ih e hp)
  | s h _ ih => intro F e hp; exact .s h (ih e hp)
  | @f F2 q cs vs xs os h1 h2 h3 _ ih =>
    intro F e hp
    have hq : q ≠ p := fun z => by rw [e, z, upd_same] at h1; cases h1
    refine .f (by rw [e, upd_ne hq] at h1; exact h1) (by rw [del_ne hq]; exact h2) h3 ?_
    have := ih e hp
    rw [del_del] at this
    exact this
  | @k F2 q us vs kvs os h1 h2 h3 _ ih =>
    intro F e hp
    have hq : q ≠ p := fun z => by rw [e, z, upd_same] at h1; cases h1
    refine .k (by rw [e, upd_ne hq] at h1; exact h1) (by rw [del_ne hq]; exact h2) h3 ?_
    have := ih e hp
    rw [del_del] at this
    exact this
  | x _ ih => intro F e hp; exact .x (ih e hp)
theorem Bag.mono {vs : List V} {os : List Opd} (s : Same M M') (h : Bag K M σ F F' vs os) : Bag K M' σ F F' vs os := by
  induction h with
  | nil h => exact .nil h
  | d h _ ih => exact .d (h.up s) ih
  | s h _ ih => exact .s h ih
  | f h1 h2 h3 _ ih => exact .f h1 h2 (h3.up s) ih
  | k h1 h2 h3 _ ih => exact .k h1 h2 ⟨h3.1.up s, h3.2⟩ ih
  | x _ ih => exact .x ih
def SimF (K : PySem.W.Frag) (W : XW) (t : TA) (w : WA) : Prop := ∀ (M F : Hp) (Γ : Sl) (σ : L2.St) (H : Hp) (Q : List Opd → Sl → Prop) (Q' : List V → Hp → Prop), R K M F Γ σ H → W.ok M F → w Γ Q →
  (∀ os vs M' F' Γ' H', Same M M' → R K M' F' Γ' σ H' → Bag K M' σ F F' vs os → Q os Γ' → Q' vs H') → t σ H Q'
structure DF (X : Cx) (W : XW) (es : List Expr) (t : TA) (w : WA) : Prop where
  pa : PA X es t
  sim : SimF X.K W t w
def wFCons (we : WE) (wr : WA) : WA := fun Γ Q => we Γ fun o Γ1 => wr Γ1 fun os Γ2 => Q (o :: os) Γ2
theorem simf_nil : SimF K W tNil wNil := fun M F Γ σ H Q Q' r ok w h => h [] [] M F Γ H (Same.refl M) r (.nil (Same.refl F)) w
theorem simf_cons {te : TE} {ta : TA} {we : WE} {wr : WA} (he : Sim K W te we) (ha : SimF K W ta wr) : SimF K W (tCons te ta) (wFCons we wr) := by
  intro M F Γ σ H Q Q' r ok w h
  refine he M F Γ σ H _ _ r ok w fun o x M1 Γ1 H1 s1 r1 v1 w1 => ?_
  cases o with
  | d y => exact ha M1 F Γ1 σ H1 _ _ r1 (XW.up ok s1) w1 fun os vs M2 F2 Γ2 H2 s2 r2 v2 w2 => h _ _ M2 F2 Γ2 H2 (s1.trans s2) r2 (.d (Rp.up v1 s2) v2) w2
  | s i => exact ha M1 F Γ1 σ H1 _ _ r1 (XW.up ok s1) w1 fun os vs M2 F2 Γ2 H2 s2 r2 v2 w2 => h _ _ M2 F2 Γ2 H2 (s1.trans s2) r2 (.s v1 v2) w2
  | f xs =>
    obtain ⟨p, cs, rfl, e1, e2, e3, e4, e5⟩ := v1
    have r1' := r1.moreF e3 e1 e5
    refine ha M1 _ Γ1 σ H1 _ _ r1' (W.mono s1 (same_upd e2) ok) w1 fun os vs M2 F2 Γ2 H2 s2 r2 v2 w2 => ?_
    exact h _ _ M2 F2 Γ2 H2 (s1.trans s2) r2 (.f e2 (v2.sub _ _ upd_same) (e4.up s2) (v2.less rfl e2)) w2
  | k kvs =>
    obtain ⟨p, us, rfl, e1, e2, e3, e4, l, e5⟩ := v1
    have r1' := r1.moreFD e3 e1 e5
    refine ha M1 _ Γ1 σ H1 _ _ r1' (W.mono s1 (same_upd e2) ok) w1 fun os vs M2 F2 Γ2 H2 s2 r2 v2 w2 => ?_
    exact h _ _ M2 F2 Γ2 H2 (s1.trans s2) r2 (.k e2 (v2.sub _ _ upd_same) ⟨e4.up s2, l⟩ (v2.less rfl e2)) w2
  | x => exact ha M1 F Γ1 σ H1 _ _ r1 (XW.up ok s1) w1 fun os vs M2 F2 Γ2 H2 s2 r2 v2 w2 => h _ _ M2 F2 Γ2 H2 (s1.trans s2) r2 (.x v2) w2
/-- all is prepared -/
def preps : List Opd → Sl → (List SV → Sl → Prop) → Prop
  | [], Γ, k => k [] Γ
  | o :: os, Γ, k => prep Γ o fun s Γ1 => preps os Γ1 fun ss Γ2 => k (s :: ss) Γ2
def setAll : List Nat → List SV → Sl → Sl
  | i :: is, s :: ss, Γ => setAll is ss (Γ.set i (some s))
  | _, _, Γ => Γ
def setAllV : List Nat → List V → L2.St → L2.St
  | i :: is, v :: vs, σ => setAllV is vs (σ.set i (some v))
  | _, _, σ => σ
/-- the prepared values, new lists still in F' -/
inductive Ready (K : PySem.W.Frag) (M : Hp) (F : Hp) : Hp → List V → List SV → Prop
  | nil {F' : Hp} : Same F F' → Ready K M F F' [] []
  | imm {F' : Hp} {v : V} {x : D} {vs : List V} {ss : List SV} : Rp K M v x → Ready K M F F' vs ss → Ready K M F F' (v :: vs) (.imm x :: ss)
  | own {F' : Hp} {p : Addr} {cs vs : List V} {xs : List D} {ss : List SV} : F' p = some (.lst cs) → RpAll K M cs xs → Ready K M F (del F' p) vs ss → Ready K M F F' (.ref p :: vs) (.own none xs :: ss)
  | dic {F' : Hp} {p : Addr} {us : LK} {vs : List V} {kvs : DK} {ss : List SV} : F' p = some (dkO us) → (KvRel K M us kvs ∧ kvs.lock = false) → Ready K M F (del F' p) vs ss → Ready K M F F' (.ref p :: vs) (.dic kvs :: ss)
theorem Ready.mono {vs : List V} {ss : List SV} (s : Same M M') (h : Ready K M F F' vs ss) : Ready K M' F F' vs ss := by
  induction h with
  | nil h => exact .nil h
  | imm h _ ih => exact .imm (h.up s) ih
  | own h2 h3 _ ih => exact .own h2 (h3.up s) ih
  | dic h2 h3 _ ih => exact .dic h2 ⟨h3.1.up s, h3.2⟩ ih
theorem preps_ok {F0 : Hp} : ∀ {os : List Opd} {vs : List V} {M F' : Hp} {Γ : Sl} {k : List SV → Sl → Prop}, R K M F0 Γ σ H → Bag K M σ F F' vs os → Same F' F0 → preps os Γ k →
    ∃ M' Γ' ss, Same M M' ∧ R K M' F0 Γ' σ H ∧ Ready K M' F F' vs ss ∧ k ss Γ'
  | [], vs, M, F', Γ, k, r, h, _, hk => by
    cases h with
    | nil h => exact ⟨M, Γ, [], Same.refl M, r, .nil h, hk⟩
  | o :: os, [], M, F', Γ, k, r, h, _, hk => by cases h
  | o :: os, v :: vs, M, F', Γ, k, r, h, e, hk => by
    cases h with
    | d h1 h2 =>
      obtain ⟨M2, Γ2, ss, s2, r2, q2, k2⟩ := preps_ok r h2 e hk
      exact ⟨M2, Γ2, _, s2, r2, .imm (h1.up s2) q2, k2⟩
    | s h1 h2 =>
      obtain ⟨M1, Γ1, d, s1, r1, p1, k1, _⟩ := fz_ok (o := .s _) r h1 hk
      obtain ⟨M2, Γ2, ss, s2, r2, q2, k2⟩ := preps_ok r1 (h2.mono s1) e k1
      exact ⟨M2, Γ2, _, s1.trans s2, r2, .imm (p1.up s2) q2, k2⟩
    | f h0 h1 h2 h3 =>
      obtain ⟨M2, Γ2, ss, s2, r2, q2, k2⟩ := preps_ok r h3 (same_del.trans e) hk
      exact ⟨M2, Γ2, _, s2, r2, .own h1 (h2.up s2) q2, k2⟩
    | k h0 h1 h2 h3 =>
      obtain ⟨M2, Γ2, ss, s2, r2, q2, k2⟩ := preps_ok r h3 (same_del.trans e) hk
      exact ⟨M2, Γ2, _, s2, r2, .dic h1 ⟨h2.1.up s2, h2.2⟩ q2, k2⟩
    | x _ => exact False.elim hk
theorem setAll_ok : ∀ {is : List Nat} {vs : List V} {ss : List SV} {F' : Hp} {Γ : Sl} {σ : L2.St}, R K M F' Γ σ H → Ready K M F F' vs ss → is.length = ss.length → R K M F (setAll is ss Γ) (setAllV is vs σ) H
  | [], vs, ss, F', Γ, σ, r, h, e => by
    cases h with
    | nil h => exact r.weakF h
    | imm _ _ => cases e
    | own _ _ _ => cases e
    | dic _ _ _ => cases e
  | i :: is, vs, ss, F', Γ, σ, r, h, e => by
    cases h with
    | nil h => cases e
    | @imm _ v x vs ss h1 h2 =>
      show R K M F (setAll is ss (Γ.set i (some (.imm x)))) (setAllV is vs (σ.set i (some v))) H
      exact setAll_ok (r.setImm h1) h2 (Nat.succ.inj e)
    | @own _ p cs vs xs ss h1 h2 h3 =>
      show R K M F (setAll is ss (Γ.set i (some (.own none xs)))) (setAllV is vs (σ.set i (some (.ref p)))) H
      refine setAll_ok (F' := del F' p) ((r.weakF same_del).setOwn (r.sF _ _ h1) (r.dj _ _ h1) del_self (fun z => ?_) h2) h3 (Nat.succ.inj e)
      obtain ⟨_, q, _⟩ := r.ownM z
      rw [h1] at q; cases q
    | @dic _ p us vs kvs ss h1 h2 h3 =>
      show R K M F (setAll is ss (Γ.set i (some (.dic kvs)))) (setAllV is vs (σ.set i (some (.ref p)))) H
      refine setAll_ok (F' := del F' p) ((r.weakF same_del).setDic (r.sF _ _ h1) (r.dj _ _ h1) del_self (fun z => ?_) h2.1 h2.2) h3 (Nat.succ.inj e)
      obtain ⟨_, q, _⟩ := r.dicM z
      rw [h1] at q; cases q
def wPar (is : List Nat) (wa : WA) : WS := fun De Γ => wa Γ fun os Γ1 => preps os Γ1 fun ss Γ2 => is.length = ss.length ∧ De.nx (setAll is ss Γ2)
theorem par_k {is : List Nat} {De : EndsD} {Dt : Ends} {os : List Opd} {vs : List V} (h : EOk K M F De Dt) (s1 : Same M M') (r1 : R K M' F' Γ σ H) (v1 : Bag K M' σ F F' vs os)
    (w1 : preps os Γ fun ss Γ2 => is.length = ss.length ∧ De.nx (setAll is ss Γ2)) : vs.length = is.length ∧ Dt.nx (setAllV is vs σ) H ∧ ∀ p o, H p = none → Dt.nx (setAllV is vs σ) (upd H p o) := by
  obtain ⟨M2, Γ2, ss, s2, r2, q2, l2, k2⟩ := preps_ok r1 v1 (Same.refl _) w1
  have lv : ∀ {F' : Hp} {vs : List V} {ss : List SV}, Ready K M2 F F' vs ss → vs.length = ss.length := by
    intro F' vs ss q
    induction q with
    | nil _ => rfl
    | imm _ _ ih => simp [ih]
    | own _ _ _ ih => simp [ih]
    | dic _ _ _ ih => simp [ih]
  refine ⟨(lv q2).trans l2.symm, ?_, fun p o hp => ?_⟩
  · exact h.nx M2 _ _ H (s1.trans s2) (setAll_ok r2 q2 l2) k2
  · exact h.nx M2 _ _ _ (s1.trans s2) ((setAll_ok r2 q2 l2).raw hp) k2
theorem sim_par2 {i j : Nat} {ta : TA} {wa : WA} (ha : SimF K W ta wa) : SimS K W (tPar i j ta) (wPar [i, j] wa) := by
  intro M F Γ σ H De Dt r ok w h
  refine ha M F Γ σ H _ _ r ok w fun os vs M1 F1 Γ1 H1 s1 r1 v1 w1 => ?_
  obtain ⟨l, q, _⟩ := par_k h s1 r1 v1 w1
  match vs, l with
  | [a, b], _ => exact ⟨a, b, rfl, q⟩
theorem sim_par3 {i j l : Nat} {ta : TA} {wa : WA} (ha : SimF K W ta wa) : SimS K W (tPar3 i j l ta) (wPar [i, j, l] wa) := by
  intro M F Γ σ H De Dt r ok w h
  refine ha M F Γ σ H _ _ r ok w fun os vs M1 F1 Γ1 H1 s1 r1 v1 w1 => ?_
  obtain ⟨l, q, _⟩ := par_k h s1 r1 v1 w1
  match vs, l with
  | [a, b, c], _ => exact ⟨a, b, c, rfl, q⟩
/-- by a tuple that is made: names alone -/
def gNames : List Nat → TGs
  | [] => gNil
  | i :: is => gCons (gName i) (gNames is)
theorem gNames_ok {Q : L2.St → Hp → Prop} : ∀ {is : List Nat} {vs : List V} {σ : L2.St}, vs.length = is.length → Q (setAllV is vs σ) H → gNames is vs σ H Q
  | [], [], σ, _, h => ⟨rfl, h⟩
  | i :: is, v :: vs, σ, e, h => ⟨v, vs, rfl, gNames_ok (is := is) (Nat.succ.inj e) h⟩
theorem sim_parT {n : Nat} {is : List Nat} {ta : TA} {wa : WA} (ha : SimF K W ta wa) (hn : is.length = n) (hs : n ≤ 1000) : SimS K W (tAsg (tTup ta) (gTup K n (gNames is))) (wPar is wa) := by
  intro M F Γ σ H De Dt r ok w h
  refine ha M F Γ σ H _ _ r ok w fun os vs M1 F1 Γ1 H1 s1 r1 v1 w1 => ?_
  obtain ⟨l, _, q⟩ := par_k h s1 r1 v1 w1
  refine ⟨Nat.le_of_lt (small1000 (by omega)), fun p hp => ?_⟩
  exact ⟨p, vs, rfl, .inl (.inl upd_same), l.trans hn, gNames_ok l (q p _ hp)⟩
end
end Pd
end

section
set_option maxRecDepth 100000
/-! Pd4: stores into owned lists, loops, comprehensions, what is walked. -/
namespace Pd
open PySem PySem.Spec L2
open PyProof.Rows hiding St
set_option autoImplicit false

section
variable {K : PySem.W.Frag} {W : XW} {M M' F F' H H' : Hp} {Γ Γ' : Sl} {σ σ' : L2.St}

/-! ### x op= e, xs[i] = e, xs.append(e) .. -/
def wAug (i : Nat) (f : F2) (we : WE) : WS := fun De Γ => match Γ[i]? with
  | some (some (.imm d1)) => we Γ fun o Γ1 => rs Γ1 o fun d2 => f d1 d2 fun o' => prep Γ1 o' fun s Γ2 => De.nx (Γ2.set i (some s))
  | _ => False
theorem sim_aug {i : Nat} {r : TIp} {f : F2} {te : TE} {we : WE} (hr : BOk2 K r f) (he : Sim K W te we) : SimS K W (tAug i te r) (wAug i f we) := by
  intro M F Γ σ H De Dt rr ok w h
  unfold wAug at w
  cases e : Γ[i]? with
  | none => simp only [e] at w
  | some s =>
    cases s with
    | none => simp only [e] at w
    | some s =>
      cases s with
      | own _ _ => simp only [e] at w
      | dic _ => simp only [e] at w
      | imm d1 =>
        simp only [e] at w
        obtain ⟨v, e1, e2⟩ := rr.im i d1 e
        refine ⟨v, e1, he M F Γ σ H _ _ rr ok w fun o y M1 Γ1 H1 s1 r1 v1 w1 => ?_⟩
        obtain ⟨d2, p, q⟩ := rs_read r1 v1 w1
        refine hr M1 F Γ1 σ H1 v y d1 d2 _ _ r1 (.rp (e2.up s1)) p q fun o' z M2 H2 s2 r2 v2 q2 => ?_
        obtain ⟨M3, Γ3, s, s3, _, k3, g⟩ := prep_ok r2 v2 q2
        exact h.nx M3 _ _ H2 (s1.trans (s2.trans s3)) (g i) k3
def isOwn (Γ : Sl) (i : Nat) : Prop := match Γ[i]? with
  | some (some (.own _ _)) => True
  | _ => False
/-- the list that slot i owns -/
def wOwn (Γ : Sl) (i : Nat) (k : Option Addr → List D → Prop) : Prop := match Γ[i]? with
  | some (some (.own pin ds)) => k pin ds
  | _ => False
theorem wOwn_ok {i : Nat} {k : Option Addr → List D → Prop} (r : R K M F Γ σ H) (h : wOwn Γ i k) :
    ∃ pin ds p vs, Γ[i]? = some (some (.own pin ds)) ∧ k pin ds ∧ σ[i]? = some (some (.ref p)) ∧ H p = some (.lst vs) ∧ RpAll K M vs ds := by
  unfold wOwn at h
  cases e : Γ[i]? with
  | none => simp only [e] at h
  | some s =>
    cases s with
    | none => simp only [e] at h
    | some s =>
      cases s with
      | imm d => simp only [e] at h
      | own pin ds =>
        simp only [e] at h
        obtain ⟨p, vs, e1, _, _, _, e5, e6⟩ := r.ow i pin ds e
        exact ⟨pin, ds, p, vs, rfl, h, e1, e5, e6⟩
      | dic _ => simp only [e] at h
def asInt (o : Opd) (k : Int → Prop) : Prop := match o with
  | .d (.int i) => k i
  | _ => False
theorem asInt_ok {o : Opd} {v : V} {k : Int → Prop} (h : ORel K M F Γ σ H v o) (hk : asInt o k) : ∃ i, v = .int i ∧ k i := by
  cases o with
  | d y =>
    cases y with
    | int i => cases (show Rp K M v (.int i) from h); exact ⟨i, rfl, hk⟩
    | _ => exact False.elim hk
  | _ => exact False.elim hk
def wSetIx (i : Nat) (we wi : WE) : WS := fun De Γ => we Γ fun o Γ1 => fz Γ1 o fun d Γ2 => wOwn Γ2 i fun _ _ => wi Γ2 fun oi Γ3 => asInt oi fun k => wOwn Γ3 i fun pin ds =>
  match ixN ds.length k with
  | some j => De.nx (Γ3.set i (some (.own pin (ds.set j d))))
  | none => False
theorem sim_setIx {i : Nat} {te ti : TE} {we wi : WE} (he : Sim K W te we) (hi : Sim K W ti wi) : SimS K W (tAsg te (gSub (tVar i) ti rSetL)) (wSetIx i we wi) := by
  intro M F Γ σ H De Dt r ok w h
  refine he M F Γ σ H _ _ r ok w fun o v M1 Γ1 H1 s1 r1 v1 w1 => ?_
  obtain ⟨M2, Γ2, d, s2, r2, p2, k2, _⟩ := fz_ok r1 v1 w1
  obtain ⟨_, _, p, _, _, k3, e1, _, _⟩ := wOwn_ok r2 k2
  refine ⟨_, e1, hi M2 F Γ2 σ H1 _ _ r2 (XW.up ok (s1.trans s2)) k3 fun oi y M3 Γ3 H3 s3 r3 v3 w3 => ?_⟩
  obtain ⟨k, rfl, w4⟩ := asInt_ok v3 w3
  obtain ⟨pin, ds, p', vs, e2, w5, e3, e4, e5⟩ := wOwn_ok r3 w4
  rw [e1] at e3; cases e3
  split at w5
  · next j ej =>
    refine ⟨p, vs, k, j, rfl, rfl, e4, by rw [e5.length]; exact ej, ?_⟩
    exact h.nx M3 _ _ _ (s1.trans (s2.trans s3)) (r3.write e2 e1 (e5.set j (p2.up s3))) w5
  · exact w5.elim
/-- a method of an owned list with one argument that is kept -/
def wAppend (i : Nat) (we : WE) : WE := fun Γ Q => wOwn Γ i fun _ _ => we Γ fun o Γ1 => fz Γ1 (stl o) fun d Γ2 => wOwn Γ2 i fun pin ds => ds.length < sizeLine ∧ Q (.d .none) (Γ2.set i (some (.own pin (ds ++ [d]))))
theorem tyV_list {p : Addr} {vs : List V} (h : H p = some (.lst vs)) : tyV K "list" (.ref p) H := .inl ⟨rfl, _, SqL.of h⟩
theorem sim_append {i : Nat} {te : TE} {we : WE} (he : Sim K W te we) : Sim K W (tBM K "list" rAppend (tVar i) (tCons te tNil)) (wAppend i we) := by
  intro M F Γ σ H Q Q' r ok w h
  obtain ⟨_, _, p, _, _, k3, e1, e4, _⟩ := wOwn_ok r w
  refine ⟨_, e1, tyV_list e4, ?_⟩
  refine he M F Γ σ H _ _ r ok k3 fun o v M1 Γ1 H1 s1 r1 v1 w1 => ?_
  obtain ⟨M1', s1', r1', v1'⟩ := stl_ok r1 v1
  obtain ⟨M2, Γ2, d, s2, r2, p2, k2, _⟩ := fz_ok r1' v1' w1
  obtain ⟨pin, ds, p', vs, e2, w5, e3, e4, e5⟩ := wOwn_ok r2 k2
  rw [e1] at e3; cases e3
  refine ⟨p, vs, v, rfl, rfl, e4, by rw [e5.length]; exact w5.1, ?_⟩
  exact h (.d .none) _ M2 _ _ (s1.trans (s1'.trans s2)) (r2.write e2 e1 (e5.append (.one p2))) .non w5.2
def wExtend (i : Nat) (we : WE) : WE := fun Γ Q => wOwn Γ i fun _ _ => we Γ fun o Γ1 => rs Γ1 (stl o) fun d => match d with
  | .list es => wOwn Γ1 i fun pin ds => ds.length + es.length ≤ sizeLine ∧ Q (.d .none) (Γ1.set i (some (.own pin (ds ++ es))))
  | _ => False
theorem sim_extend {i : Nat} {te : TE} {we : WE} (he : Sim K W te we) : Sim K W (tBM K "list" rExtend (tVar i) (tCons te tNil)) (wExtend i we) := by
  intro M F Γ σ H Q Q' r ok w h
  obtain ⟨_, _, p, _, _, k3, e1, e4, _⟩ := wOwn_ok r w
  refine ⟨_, e1, tyV_list e4, ?_⟩
  refine he M F Γ σ H _ _ r ok k3 fun o v M1 Γ1 H1 s1 r1 v1 w1 => ?_
  obtain ⟨M1', s1', r1', v1'⟩ := stl_ok r1 v1
  obtain ⟨d, pd, q⟩ := rs_read r1' v1' w1
  cases d with
  | list es =>
    obtain ⟨b, ws, rfl, f1, f2⟩ := pd.list r1'.sM
    obtain ⟨pin, ds, p', vs, e2, w5, e3, e4, e5⟩ := wOwn_ok r1' q
    rw [e1] at e3; cases e3
    refine ⟨p, b, vs, ws, rfl, rfl, e4, f1, by rw [e5.length, f2.length]; exact w5.1, ?_⟩
    exact h (.d .none) _ M1' _ _ (s1.trans s1') (r1'.write e2 e1 (e5.append f2)) .non w5.2
  | _ => exact q.elim
def wPop (i : Nat) : WE := fun Γ Q => wOwn Γ i fun pin ds => match ds[ds.length - 1]? with
  | some d => Q (.d d) (Γ.set i (some (.own pin ds.dropLast)))
  | none => False
theorem sim_pop {i : Nat} : Sim K W (tBM0 K "list" rPop (tVar i)) (wPop i) := by
  intro M F Γ σ H Q Q' r ok w h
  obtain ⟨pin, ds, p, vs, e2, k3, e1, e4, e5⟩ := wOwn_ok r w
  refine ⟨_, e1, tyV_list e4, ?_⟩
  split at k3
  · next d ed =>
    obtain ⟨v, ev, pv⟩ := e5.getD ed
    refine ⟨p, vs, v, rfl, rfl, e4, by rw [e5.length]; exact ev, ?_⟩
    exact h (.d d) _ M _ _ (Same.refl M) (r.write e2 e1 e5.dropLast) pv k3
  · exact k3.elim
/-- a method that only reads -/
def wBM (f : List D → (Opd → Prop) → Prop) (we : WE) (wa : WA) : WE := fun Γ Q => we Γ fun o Γ1 => wa Γ1 fun os Γ2 => rs Γ2 (stl o) fun d => rss Γ2 os fun ds => (match d with | .list _ => True | _ => False) ∧ f (d :: ds) fun o' => Q o' Γ2
end

/-! ### what is walked -/
section
variable {K : PySem.W.Frag} {W : XW} {M M' F F' H H' : Hp} {Γ Γ' : Sl} {σ σ' : L2.St}
def iSq (K : PySem.W.Frag) (tl : TE) : TI := fun σ H Q => tl σ H fun x H1 => ∃ a, x = .ref a ∧ ((∃ xs, SqL K H1 a xs ∧ Q (Itl K a) H1) ∨ (∃ xs, SqT K H1 a xs ∧ Q (Itt K a) H1))
theorem itOk_list {a : Addr} {vs : List V} {ds : List D} (h : M a = some (.lst vs)) (p : RpAll K M vs ds) : ItOk K M (Itl K a) ds := by
  refine ⟨fun H => SqL K H a vs, YAt vs, by rw [← p.length]; exact walk_list, fun H s => SqL.of (s _ _ h), fun i H x H' M' F Γ σ hi s r y => ?_⟩
  obtain ⟨rfl, e⟩ := y
  obtain ⟨d, e1, e2⟩ := (p.up s).get e
  exact ⟨M', d, Same.refl M', r, e1, e2⟩
theorem itOk_tup {a : Addr} {vs : List V} {ds : List D} (h : SqT K M a vs) (p : RpAll K M vs ds) : ItOk K M (Itt K a) ds := by
  refine ⟨fun H => SqT K H a vs, YAt vs, by rw [← p.length]; exact walk_tup, fun H s => sqT_mono s h, fun i H x H' M' F Γ σ hi s r y => ?_⟩
  obtain ⟨rfl, e⟩ := y
  obtain ⟨d, e1, e2⟩ := (p.up s).get e
  exact ⟨M', d, Same.refl M', r, e1, e2⟩
/-- items of a list or a tuple -/
def seqD (d : D) (k : List D → Prop) : Prop := match d with
  | .list ds => k ds
  | .tuple ds => k ds
  | _ => False
def wSq (we : WE) : WI := fun Γ Q => we Γ fun o Γ1 => fz Γ1 o fun d Γ2 => seqD d fun ds => Q ds Γ2
theorem simi_sq {te : TE} {we : WE} (he : Sim K W te we) : SimI K W (iSq K te) (wSq we) := by
  intro M F Γ σ H Q Q' r ok w h
  refine he M F Γ σ H _ _ r ok w fun o v M1 Γ1 H1 s1 r1 v1 w1 => ?_
  obtain ⟨M2, Γ2, d, s2, r2, p2, k2, _⟩ := fz_ok r1 v1 w1
  cases d with
  | list ds =>
    cases p2 with
    | lst e1 e2 => exact ⟨_, rfl, .inl ⟨_, SqL.of (r2.sM _ _ e1), h _ _ M2 Γ2 H1 (s1.trans s2) r2 (itOk_list e1 e2) k2⟩⟩
  | tuple ds =>
    cases p2 with
    | tup e1 e2 => exact ⟨_, rfl, .inr ⟨_, sqT_mono r2.sM e1, h _ _ M2 Γ2 H1 (s1.trans s2) r2 (itOk_tup e1 e2) k2⟩⟩
  | _ => exact k2.elim
def rangeD (lo : Int) (n : Nat) : List D := (List.range n).map fun (i : Nat) => PyData.int (lo + i)
theorem itOk_range {lo : Int} {n : Nat} : ItOk K M (Itr lo n) (rangeD lo n) := by
  refine ⟨fun _ => True, YFn fun i => .int (lo + i), by simp only [rangeD, List.length_map, List.length_range]; exact walk_range, fun _ _ => trivial, fun i H x H' M' F Γ σ hi s r y => ?_⟩
  obtain ⟨rfl, rfl⟩ := y
  have hi' : i < n := by simpa [rangeD] using hi
  exact ⟨M', .int (lo + i), Same.refl M', r, by simp [rangeD, hi'], .int _⟩
def in62 (i : Int) : Prop := -(2 ^ 62) ≤ i ∧ i < 2 ^ 62
def wRange1 (wa : WA) : WI := fun Γ Q => wa Γ fun os Γ1 => rss Γ1 os fun ds => match ds with
  | [.int j] => in62 j ∧ Q (rangeD 0 j.toNat) Γ1
  | _ => False
theorem rd1 {vs : List V} {d : D} (h : RdAll K M H vs [d]) : ∃ v, vs = [v] ∧ ReadAt K M H v d := by
  cases h with
  | cons h1 h2 => cases h2; exact ⟨_, rfl, h1⟩
theorem rd2 {vs : List V} {d e : D} (h : RdAll K M H vs [d, e]) : ∃ v w, vs = [v, w] ∧ ReadAt K M H v d ∧ ReadAt K M H w e := by
  cases h with
  | cons h1 h2 =>
    obtain ⟨w, rfl, h3⟩ := rd1 h2
    exact ⟨_, w, rfl, h1, h3⟩
theorem rd3 {vs : List V} {d e f : D} (h : RdAll K M H vs [d, e, f]) : ∃ v w u, vs = [v, w, u] ∧ ReadAt K M H v d ∧ ReadAt K M H w e ∧ ReadAt K M H u f := by
  cases h with
  | cons h1 h2 =>
    obtain ⟨w, u, rfl, h3, h4⟩ := rd2 h2
    exact ⟨_, w, u, rfl, h1, h3, h4⟩
theorem simi_range1 {ta : TA} {wa : WA} (ha : SimA K W ta wa) : SimI K W (iRng1 ta) (wRange1 wa) := by
  intro M F Γ σ H Q Q' r ok w h
  refine ha M F Γ σ H _ _ r ok w fun os vs M1 Γ1 H1 s1 r1 v1 w1 => ?_
  obtain ⟨ds, p, q⟩ := rss_ok r1 v1 w1
  match ds, q with
  | [.int j], q =>
    obtain ⟨v, rfl, e⟩ := rd1 p
    rw [e.int]
    exact ⟨j, rfl, q.1.1, q.1.2, h _ _ M1 Γ1 H1 s1 r1 itOk_range q.2⟩
def wRange2 (wa : WA) : WI := fun Γ Q => wa Γ fun os Γ1 => rss Γ1 os fun ds => match ds with
  | [.int i, .int j] => in62 i ∧ in62 j ∧ Q (rangeD i (j - i).toNat) Γ1
  | _ => False
theorem simi_range2 {ta : TA} {wa : WA} (ha : SimA K W ta wa) : SimI K W (iRng2 ta) (wRange2 wa) := by
  intro M F Γ σ H Q Q' r ok w h
  refine ha M F Γ σ H _ _ r ok w fun os vs M1 Γ1 H1 s1 r1 v1 w1 => ?_
  obtain ⟨ds, p, q⟩ := rss_ok r1 v1 w1
  match ds, q with
  | [.int i, .int j], q =>
    obtain ⟨v, u, rfl, e, f⟩ := rd2 p
    rw [e.int, f.int]
    exact ⟨i, j, rfl, ⟨q.1.1, q.1.2, q.2.1.1, q.2.1.2⟩, h _ _ M1 Γ1 H1 s1 r1 itOk_range q.2.2⟩
/-- pairs -/
theorem itOk_pair {J : It} {n : Nat} {G : Hp → Prop} {X Y : Nat → Option V} {xs ys : Nat → Option D} {items : List D} (w : Walk J n G (YPair X Y)) (hn : n = items.length) (hG : ∀ H, Same M H → G H)
    (hX : ∀ i v M', i < n → Same M M' → X i = some v → ∃ d, xs i = some d ∧ Rp K M' v d) (hY : ∀ i v M', i < n → Same M M' → Y i = some v → ∃ d, ys i = some d ∧ Rp K M' v d)
    (hI : ∀ i d e, i < n → xs i = some d → ys i = some e → items[i]? = some (.tuple [d, e])) : ItOk K M J items := by
  subst hn
  refine ⟨G, _, w, hG, fun i H x H' M' F Γ σ hi s r y => ?_⟩
  obtain ⟨T, a, b, rfl, hT, rfl, ha, hb⟩ := y
  obtain ⟨d, d1, d2⟩ := hX i a M' hi s ha
  obtain ⟨e, e1, e2⟩ := hY i b M' hi s hb
  obtain ⟨s2, r2⟩ := r.alloc (o := .tup [a, b]) hT
  exact ⟨_, _, s2, r2, hI i d e hi d1 e1, .tup (.inl (.inl upd_same)) (.cons (d2.up s2) (.one (e2.up s2)))⟩
def zipD (xs ys : List D) : List D := List.zipWith (fun x y => PyData.tuple [x, y]) xs ys
theorem zipD_get {xs ys : List D} {i : Nat} {d e : D} (h1 : xs[i]? = some d) (h2 : ys[i]? = some e) : (zipD xs ys)[i]? = some (.tuple [d, e]) := by
  unfold zipD
  rw [List.getElem?_zipWith, h1, h2]
def wZip (wa : WA) : WI := fun Γ Q => wa Γ fun os Γ1 => fzs os Γ1 fun ds Γ2 => match ds with
  | [.list xs, .list ys] => Q (zipD xs ys) Γ2
  | [.tuple xs, .tuple ys] => Q (zipD xs ys) Γ2
  | _ => False
theorem simi_zip {ta : TA} {wa : WA} (ha : SimA K W ta wa) : SimI K W (RZ.iZipA K ta) (wZip wa) := by
  intro M F Γ σ H Q Q' r ok w h
  refine ha M F Γ σ H _ _ r ok w fun os vs M1 Γ1 H1 s1 r1 v1 w1 => ?_
  obtain ⟨M2, Γ2, ds, s2, r2, p2, k2⟩ := fzs_ok r1 v1 w1
  match ds, k2 with
  | [.list xs, .list ys], k2 =>
    cases p2 with
    | cons a1 a2 =>
      cases a2 with
      | cons a2 a3 =>
        cases a3
        cases a1 with
        | lst b1 b2 =>
          cases a2 with
          | lst c1 c2 =>
            refine ⟨_, _, _, _, rfl, .inl ⟨SqL.of (r2.sM _ _ b1), SqL.of (r2.sM _ _ c1), h _ _ M2 Γ2 H1 (s1.trans s2) r2 ?_ k2⟩⟩
            exact itOk_pair (walk_zip rfl) (by simp [zipD, b2.length, c2.length]) (fun H e => ⟨SqL.of (e _ _ b1), SqL.of (e _ _ c1)⟩) (fun i v M' _ e q => (b2.up e).get q) (fun i v M' _ e q => (c2.up e).get q) (fun i d e _ => zipD_get)
  | [.tuple xs, .tuple ys], k2 =>
    cases p2 with
    | cons a1 a2 =>
      cases a2 with
      | cons a2 a3 =>
        cases a3
        cases a1 with
        | tup b1 b2 =>
          cases a2 with
          | tup c1 c2 =>
            refine ⟨_, _, _, _, rfl, .inr ⟨sqT_mono r2.sM b1, sqT_mono r2.sM c1, h _ _ M2 Γ2 H1 (s1.trans s2) r2 ?_ k2⟩⟩
            rename_i a vs b ws
            refine itOk_pair (n := min vs.length ws.length) (G := fun H => SqT K H a vs ∧ SqT K H b ws) (X := fun i => vs[i]?) (Y := fun i => ws[i]?) ⟨fun i _ hi q => ?_, fun _ q => ⟨vs, ws, q.1, q.2, by omega⟩, fun i H v H' _ q y => ?_⟩ (by simp [zipD, b2.length, c2.length]) (fun H e => ⟨sqT_mono e b1, sqT_mono e c1⟩) (fun i v M' _ e q => (b2.up e).get q) (fun i v M' _ e q => (c2.up e).get q) (fun i d e _ => zipD_get)
            · have h1 : i < vs.length := by omega
              have h2 : i < ws.length := by omega
              exact ⟨vs, ws, vs[i], ws[i], q.1, q.2, by simp [h1], by simp [h2]⟩
            · obtain ⟨T, x, z, g1, g2, g3, g4, g5⟩ := y
              exact ⟨T, x, z, g1, g2, g3, g4 vs q.1, g5 ws q.2⟩
def enumD : Nat → List D → List D
  | _, [] => []
  | n, x :: xs => .tuple [.int n, x] :: enumD (n + 1) xs
theorem enumD_len : ∀ (xs : List D) (n : Nat), (enumD n xs).length = xs.length
  | [], _ => rfl
  | _ :: xs, n => congrArg (· + 1) (enumD_len xs (n + 1))
theorem enumD_get : ∀ {xs : List D} {n i : Nat} {e : D}, xs[i]? = some e → (enumD n xs)[i]? = some (.tuple [.int ((n + i : Nat) : Int), e])
  | x :: xs, n, 0, e, h => by
    have h' : x = e := by simpa using h
    subst h'; rfl
  | x :: xs, n, i + 1, e, h => by
    have := enumD_get (n := n + 1) (i := i) (xs := xs) (e := e) (by simpa using h)
    rw [show n + (i + 1) = n + 1 + i by omega]
    simpa [enumD] using this
  | [], _, i, e, h => by simp at h
def wEnum (wa : WA) : WI := fun Γ Q => wa Γ fun os Γ1 => fzs os Γ1 fun ds Γ2 => match ds with
  | [.list xs] => Q (enumD 0 xs) Γ2
  | _ => False
theorem simi_enum {ta : TA} {wa : WA} (ha : SimA K W ta wa) : SimI K W (iEnum K ta) (wEnum wa) := by
  intro M F Γ σ H Q Q' r ok w h
  refine ha M F Γ σ H _ _ r ok w fun os vs M1 Γ1 H1 s1 r1 v1 w1 => ?_
  obtain ⟨M2, Γ2, ds, s2, r2, p2, k2⟩ := fzs_ok r1 v1 w1
  match ds, k2 with
  | [.list xs], k2 =>
    cases p2 with
    | cons a1 a2 =>
      cases a2
      cases a1 with
      | lst b1 b2 =>
        refine ⟨_, _, rfl, SqL.of (r2.sM _ _ b1), h _ _ M2 Γ2 H1 (s1.trans s2) r2 ?_ k2⟩
        exact itOk_pair (xs := fun i => some (.int (i : Nat))) walk_enum (by rw [enumD_len, b2.length]) (fun H e => SqL.of (e _ _ b1)) (fun i v M' _ e q => ⟨_, rfl, by cases q; exact .int _⟩) (fun i v M' _ e q => (b2.up e).get q)
          (fun i d e _ h1 h2 => by cases h1; simpa using enumD_get (n := 0) h2)

/-! ### for -/
def forGo (wg : WG) (wb : WS) (De : EndsD) : List D → Sl → Prop
  | [], Γ => De.nx Γ
  | d :: ds, Γ => wg d Γ fun Γ1 => wb { De with nx := forGo wg wb De ds, ct := forGo wg wb De ds, bk := De.nx } Γ1
def wFor (wi : WI) (wg : WG) (wb : WS) : WS := fun De Γ => wi Γ fun items Γ1 => forGo wg wb De items Γ1
theorem sim_for {ti : TI} {wi : WI} {g : TG} {is : List Nat} {wg : WG} {tb : TS} {wb : WS} (hi : SimI K W ti wi) (hg : SimG K g is wg) (hb : SimS K W tb wb) : SimS K W (tFor ti g tb) (wFor wi wg wb) := by
  intro M F Γ σ H De Dt r ok w h
  refine hi M F Γ σ H _ _ r ok w fun J items M1 Γ1 H1 s1 r1 j1 w1 => ?_
  obtain ⟨G, Y, wk, hG, hY⟩ := j1
  refine for_it wk (fun i σ H => ∃ M' Γ', Same M1 M' ∧ R K M' F Γ' σ H ∧ forGo wg wb De (items.drop i) Γ') ⟨M1, Γ1, Same.refl M1, r1, by simpa using w1⟩ (fun i σ H _ q => ?_) (fun i x σ H H' hi q y => ?_) (fun σ H q => ?_)
  · obtain ⟨M', Γ', s, r, _⟩ := q
    exact hG H (s.trans r.sM)
  · obtain ⟨M2, Γ2, s2, r2, w2⟩ := q
    obtain ⟨M3, d, s3, r3, e3, p3⟩ := hY i H x H' M2 F Γ2 σ hi s2 r2 y
    have ed : items.drop i = d :: items.drop (i + 1) := by
      obtain ⟨hl, e⟩ := List.getElem?_eq_some_iff.mp e3
      rw [← e]
      exact List.drop_eq_getElem_cons hl
    rw [ed] at w2
    refine hg M3 F Γ2 σ H' x d _ _ r3 p3 w2 fun Γ4 σ4 r4 _ _ w4 => ?_
    have s03 := s1.trans (s2.trans s3)
    refine hb M3 F Γ4 σ4 H' _ _ r4 (XW.up ok s03) w4 ⟨fun M5 Γ5 σ5 H5 s5 r5 w5 => ?_, (h.up s03).rt, fun M5 Γ5 σ5 H5 s5 r5 w5 => ?_, fun M5 Γ5 σ5 H5 s5 r5 w5 => ?_, (h.up s03).ro⟩
    · exact ⟨M5, Γ5, s2.trans (s3.trans s5), r5, w5⟩
    · exact (h.up s03).nx M5 Γ5 σ5 H5 s5 r5 w5
    · exact ⟨M5, Γ5, s2.trans (s3.trans s5), r5, w5⟩
  · obtain ⟨M', Γ', s, r, q⟩ := q
    rw [List.drop_length] at q
    exact h.nx M' Γ' σ H (s1.trans s) r q

/-! ### while -/
def whN (wc : WT) (wb : WS) (De : EndsD) : Nat → Sl → Prop
  | 0, _ => False
  | n + 1, Γ => wc Γ fun b Γ1 => if b = true then wb { De with nx := whN wc wb De n, ct := whN wc wb De n, bk := De.nx } Γ1 else De.nx Γ1
def wWhile (wc : WT) (wb : WS) : WS := fun De Γ => ∃ n, whN wc wb De n Γ
theorem sim_while {c : TT} {wc : WT} {tb : TS} {wb : WS} (hc : SimT K W c wc) (hb : SimS K W tb wb) : SimS K W (tWhile c tb) (wWhile wc wb) := by
  intro M F Γ σ H De Dt r ok w h
  obtain ⟨n, w⟩ := w
  refine ⟨fun m σ H => ∃ M' Γ', Same M M' ∧ R K M' F Γ' σ H ∧ whN wc wb De m Γ', ⟨n, M, Γ, Same.refl M, r, w⟩, fun m σ H q => ?_⟩
  obtain ⟨M1, Γ1, s1, r1, w1⟩ := q
  cases m with
  | zero => exact w1.elim
  | succ m =>
    refine hc M1 F Γ1 σ H _ _ r1 (XW.up ok s1) w1 fun b M2 Γ2 H2 s2 r2 w2 => ?_
    cases b with
    | true =>
      rw [if_pos rfl]
      have s02 := s1.trans s2
      refine ⟨fun σ' H' => ∃ M' Γ', Same M M' ∧ R K M' F Γ' σ' H' ∧ whN wc wb De m Γ', fun σ' H' q => ⟨m, Nat.lt_succ_self m, q⟩, ?_⟩
      refine hb M2 F Γ2 σ H2 _ _ r2 (XW.up ok s02) w2 ⟨fun M5 Γ5 σ5 H5 s5 r5 w5 => ?_, (h.up s02).rt, fun M5 Γ5 σ5 H5 s5 r5 w5 => ?_, fun M5 Γ5 σ5 H5 s5 r5 w5 => ?_, (h.up s02).ro⟩
      · exact ⟨M5, Γ5, s02.trans s5, r5, w5⟩
      · exact (h.up s02).nx M5 Γ5 σ5 H5 s5 r5 w5
      · exact ⟨M5, Γ5, s02.trans s5, r5, w5⟩
    | false =>
      rw [if_neg Bool.false_ne_true]
      exact h.nx M2 Γ2 σ H2 (s1.trans s2) r2 w2

/-! ### comprehensions -/
def wipeD (Γ : Sl) : List Nat → Sl
  | [] => Γ
  | v :: vs => (wipeD Γ vs).set v none
def back (Γ Γ' : Sl) : List Nat → Sl
  | [] => Γ'
  | v :: vs => (back Γ Γ' vs).set v ((Γ[v]?).getD none)
def noOwn (Γ : Sl) : List Nat → Prop
  | [] => True
  | v :: vs => (match Γ[v]? with
    | some (some (.own _ _)) => False
    | some (some (.dic _)) => False
    | _ => True) ∧ noOwn Γ vs
def lcGo (wg : WG) (wt : WT) (we : WE) (vs : List Nat) (Q : List D → Sl → Prop) : List D → List D → Sl → Prop
  | [], acc, Γ => Q acc Γ
  | d :: ds, acc, Γ => wg d (wipeD Γ vs) fun Γ1 => wt Γ1 fun b Γ2 => if b = true then we Γ2 fun o Γ3 => fz Γ3 o fun y Γ4 => acc.length < sizeLine ∧ lcGo wg wt we vs Q ds (acc ++ [y]) (back Γ Γ4 vs) else lcGo wg wt we vs Q ds acc (back Γ Γ2 vs)
def wLc (wi : WI) (wg : WG) (wt : WT) (we : WE) (vs : List Nat) : WE := fun Γ Q => wi Γ fun items Γ1 => noOwn Γ1 vs ∧ lcGo wg wt we vs (fun acc Γ' => Q (.f acc) Γ') items [] Γ1
theorem noOwn_at {Γ : Sl} : ∀ {vs : List Nat}, noOwn Γ vs → ∀ i ∈ vs, ∀ pin ds, Γ[i]? ≠ some (some (.own pin ds))
  | v :: vs, h, i, hi, pin, ds => by
    intro e
    rcases List.mem_cons.mp hi with rfl | hi
    · have := h.1
      rw [e] at this
      exact this
    · exact noOwn_at h.2 i hi pin ds e
theorem noDic_at {Γ : Sl} : ∀ {vs : List Nat}, noOwn Γ vs → ∀ i ∈ vs, ∀ kvs, Γ[i]? ≠ some (some (.dic kvs))
  | v :: vs, h, i, hi, kvs => by
    intro e
    rcases List.mem_cons.mp hi with rfl | hi
    · have := h.1
      rw [e] at this
      exact this
    · exact noDic_at h.2 i hi kvs e
theorem noOwn_of {Γ : Sl} : ∀ {vs : List Nat}, (∀ i ∈ vs, ∀ pin ds, Γ[i]? ≠ some (some (.own pin ds))) → (∀ i ∈ vs, ∀ kvs, Γ[i]? ≠ some (some (.dic kvs))) → noOwn Γ vs
  | [], _, _ => trivial
  | v :: vs, h, h' => by
    refine ⟨?_, noOwn_of (fun i hi => h i (List.mem_cons_of_mem _ hi)) fun i hi => h' i (List.mem_cons_of_mem _ hi)⟩
    split
    · next pin ds e => exact h v List.mem_cons_self pin ds e
    · next kvs e => exact h' v List.mem_cons_self kvs e
    · trivial
theorem wipeD_get {Γ : Sl} {i : Nat} {s : SV} : ∀ {vs : List Nat}, (wipeD Γ vs)[i]? = some (some s) → Γ[i]? = some (some s) ∧ i ∉ vs
  | [], h => ⟨h, by simp⟩
  | v :: vs, h => by
    rcases get_set h with ⟨_, e, _⟩ | ⟨ne, h⟩
    · cases e
    · obtain ⟨h1, h2⟩ := wipeD_get h
      exact ⟨h1, by simp [h2, Ne.symm ne]⟩
theorem wipeD_length (Γ : Sl) : ∀ vs : List Nat, (wipeD Γ vs).length = Γ.length
  | [] => rfl
  | v :: vs => by unfold wipeD; rw [List.length_set, wipeD_length Γ vs]
theorem wipe_get {σ : L2.St} {i : Nat} : ∀ {vs : List Nat}, i ∉ vs → (wipe σ vs)[i]? = σ[i]?
  | [], _ => rfl
  | v :: vs, h => by
    simp only [List.mem_cons, not_or] at h
    unfold wipe
    rw [List.getElem?_set_ne (Ne.symm h.1)]
    exact wipe_get h.2
theorem wipe_at {σ : L2.St} {i : Nat} : ∀ {vs : List Nat}, i ∈ vs → i < σ.length → (wipe σ vs)[i]? = some none
  | v :: vs, h, hl => by
    unfold wipe
    by_cases e : v = i
    · subst e
      exact List.getElem?_set_self (by rw [wipe_length]; exact hl)
    · rw [List.getElem?_set_ne e]
      exact wipe_at ((List.mem_cons.mp h).resolve_left (Ne.symm e)) hl
theorem wipe_eq {σ σ2 : L2.St} {vs : List Nat} (hl : σ2.length = σ.length) (h : ∀ j, j ∉ vs → σ2[j]? = σ[j]?) : wipe σ2 vs = wipe σ vs := by
  refine List.ext_getElem? fun i => ?_
  by_cases hv : i ∈ vs
  · by_cases hi : i < σ.length
    · rw [wipe_at hv hi, wipe_at hv (by rw [hl]; exact hi)]
    · rw [List.getElem?_eq_none (by rw [wipe_length]; omega), List.getElem?_eq_none (by rw [wipe_length]; omega)]
  · rw [wipe_get hv, wipe_get hv, h i hv]
theorem back_get {Γ Γ' : Sl} {i : Nat} {s : SV} : ∀ {vs : List Nat}, (back Γ Γ' vs)[i]? = some (some s) → (i ∈ vs ∧ Γ[i]? = some (some s)) ∨ (i ∉ vs ∧ Γ'[i]? = some (some s))
  | [], h => .inr ⟨by simp, h⟩
  | v :: vs, h => by
    rcases get_set h with ⟨rfl, e, _⟩ | ⟨ne, h⟩
    · refine .inl ⟨List.mem_cons_self, ?_⟩
      cases q : Γ[v]? with
      | none => rw [q] at e; cases e
      | some z => rw [q] at e; simp at e; rw [e]
    · rcases back_get h with ⟨h1, h2⟩ | ⟨h1, h2⟩
      · exact .inl ⟨List.mem_cons_of_mem _ h1, h2⟩
      · exact .inr ⟨by simp [h1, Ne.symm ne], h2⟩
theorem back_length (Γ Γ' : Sl) : ∀ vs : List Nat, (back Γ Γ' vs).length = Γ'.length
  | [] => rfl
  | v :: vs => by unfold back; rw [List.length_set, back_length Γ Γ' vs]
theorem R.wiped (r : R K M F Γ σ H) (vs : List Nat) : R K M F (wipeD Γ vs) (wipe σ vs) H := by
  refine ⟨r.sM, r.sF, r.dj, by rw [wipeD_length, wipe_length, r.len], fun i d e => ?_, fun i pin ds e => ?_, fun i j p q s ds es h1 h2 h3 h4 => ?_, fun i kvs e => ?_, fun i j p ks ls l1 l2 h1 h2 h3 h4 => ?_⟩
  · obtain ⟨e, hv⟩ := wipeD_get e
    obtain ⟨v, e1, e2⟩ := r.im i d e
    exact ⟨v, by rw [wipe_get hv]; exact e1, e2⟩
  · obtain ⟨e, hv⟩ := wipeD_get e
    obtain ⟨p, vs', e1, e2⟩ := r.ow i pin ds e
    exact ⟨p, vs', by rw [wipe_get hv]; exact e1, e2⟩
  · obtain ⟨g1, v1⟩ := wipeD_get h1
    obtain ⟨g2, v2⟩ := wipeD_get h2
    rw [wipe_get v1] at h3
    rw [wipe_get v2] at h4
    exact r.sep i j p q s ds es g1 g2 h3 h4
  · obtain ⟨e, hv⟩ := wipeD_get e
    obtain ⟨p, us, e1, e2⟩ := r.dw i kvs e
    exact ⟨p, us, by rw [wipe_get hv]; exact e1, e2⟩
  · obtain ⟨g1, v1⟩ := wipeD_get h1
    obtain ⟨g2, v2⟩ := wipeD_get h2
    rw [wipe_get v1] at h3
    rw [wipe_get v2] at h4
    exact r.dsep i j p ks ls l1 l2 g1 g2 h3 h4
/-- behind a turn: the block's own names as they were -/
theorem R.back {M0 F0 : Hp} {H0 : Hp} (r0 : R K M0 F0 Γ σ H0) (s : Same M0 M) (r : R K M F Γ' σ' H) {vs : List Nat} (hl : σ'.length = σ.length) (hs : ∀ j, j ∉ vs → σ'[j]? = σ[j]?) (hn : noOwn Γ vs) : R K M F (back Γ Γ' vs) σ H := by
  refine ⟨r.sM, r.sF, r.dj, by rw [back_length, r.len, hl], fun i d e => ?_, fun i pin ds e => ?_, fun i j p q s' ds es h1 h2 h3 h4 => ?_, fun i kvs e => ?_, fun i j p ks ls l1 l2 h1 h2 h3 h4 => ?_⟩
  · rcases back_get e with ⟨_, e⟩ | ⟨hv, e⟩
    · obtain ⟨v, e1, e2⟩ := r0.im i d e
      exact ⟨v, e1, e2.up s⟩
    · obtain ⟨v, e1, e2⟩ := r.im i d e
      exact ⟨v, by rw [← hs i hv]; exact e1, e2⟩
  · rcases back_get e with ⟨hv, e⟩ | ⟨hv, e⟩
    · exact absurd e (noOwn_at hn i hv pin ds)
    · obtain ⟨p, vs', e1, e2⟩ := r.ow i pin ds e
      exact ⟨p, vs', by rw [← hs i hv]; exact e1, e2⟩
  · rcases back_get h1 with ⟨hv, e⟩ | ⟨v1, g1⟩
    · exact absurd e (noOwn_at hn i hv _ _)
    · rcases back_get h2 with ⟨hv, e⟩ | ⟨v2, g2⟩
      · exact absurd e (noOwn_at hn j hv _ _)
      · rw [← hs i v1] at h3
        rw [← hs j v2] at h4
        exact r.sep i j p q s' ds es g1 g2 h3 h4
  · rcases back_get e with ⟨hv, e⟩ | ⟨hv, e⟩
    · exact absurd e (noDic_at hn i hv kvs)
    · obtain ⟨p, us, e1, e2⟩ := r.dw i kvs e
      exact ⟨p, us, by rw [← hs i hv]; exact e1, e2⟩
  · rcases back_get h1 with ⟨hv, e⟩ | ⟨v1, g1⟩
    · exact absurd e (noDic_at hn i hv _)
    · rcases back_get h2 with ⟨hv, e⟩ | ⟨v2, g2⟩
      · exact absurd e (noDic_at hn j hv _)
      · rw [← hs i v1] at h3
        rw [← hs j v2] at h4
        exact r.dsep i j p ks ls l1 l2 g1 g2 h3 h4
theorem back_noOwn {vs : List Nat} (hn : noOwn Γ vs) : noOwn (Pd.back Γ Γ' vs) vs := noOwn_of (fun i hi pin ds e => by
  rcases back_get e with ⟨hv, e⟩ | ⟨hv, e⟩
  · exact noOwn_at hn i hv pin ds e
  · exact hv hi) fun i hi kvs e => by
  rcases back_get e with ⟨hv, e⟩ | ⟨hv, e⟩
  · exact noDic_at hn i hv kvs e
  · exact hv hi
theorem sim_lc {ti : TI} {wi : WI} {g : TG} {is vs : List Nat} {wg : WG} {tt : TT} {wt : WT} {te : TE} {we : WE} (hi : SimI K W ti wi) (hg : SimG K g is wg) (hsub : ∀ j ∈ is, j ∈ vs) (ht : SimT K W tt wt) (he : Sim K W te we) :
    Sim K W (tLc ti g tt te vs) (wLc wi wg wt we vs) := by
  intro M F Γ σ H Q Q' r ok w h
  refine hi M F Γ σ H _ _ r ok w fun J items M1 Γ1 H1 s1 r1 j1 w1 C hC => ?_
  obtain ⟨n1, w1⟩ := w1
  obtain ⟨G, Y, wk, hG, hY⟩ := j1
  refine lc_it wk (fun i H => ∃ M' Γ' acc av, Same M1 M' ∧ R K M' F Γ' σ H ∧ M' C = none ∧ F C = none ∧ H C = some (.lst av) ∧ RpAll K M' av acc ∧ ¬ OwnAt Γ' σ C ∧ noOwn Γ' vs ∧ lcGo wg wt we vs (fun acc Γ' => Q (.f acc) Γ') (items.drop i) acc Γ')
    ⟨M1, Γ1, [], [], Same.refl M1, r1.raw hC, r1.sM.free hC, r1.sF.free hC, upd_same, .nil, r1.notOwn_of_none hC, n1, by simpa using w1⟩ (fun i H _ q => ?_) (fun i x H H' hi q y => ?_) (fun H q => ?_)
  · obtain ⟨M', Γ', _, _, s, r, _⟩ := q
    exact hG H (s.trans r.sM)
  · obtain ⟨M2, Γ2, acc, av, s2, r2, c1, c2, c3, c4, c5, n2, w2⟩ := q
    have r2' := r2.moreF c3 c1 c5
    obtain ⟨M3, d, s3, r3, e3, p3⟩ := hY i H x H' M2 _ Γ2 σ hi s2 r2' y
    have ed : items.drop i = d :: items.drop (i + 1) := by
      obtain ⟨hl, e⟩ := List.getElem?_eq_some_iff.mp e3
      rw [← e]
      exact List.drop_eq_getElem_cons hl
    rw [ed] at w2
    have s03 := s1.trans (s2.trans s3)
    refine hg M3 _ (wipeD Γ2 vs) (wipe σ vs) H' x d _ _ (r3.wiped vs) p3 w2 fun Γ4 σ4 r4 l4 k4 w4 => ?_
    have l4' : σ4.length = σ.length := l4.trans (wipe_length σ vs)
    have k4' : ∀ j, j ∉ vs → σ4[j]? = σ[j]? := fun j hj => (k4 j fun z => hj (hsub j z)).trans (wipe_get hj)
    refine ⟨wipe_eq l4' k4', ?_⟩
    refine ht M3 _ Γ4 σ4 H' _ _ r4 (W.mono s03 (same_upd c2) ok) w4 fun b M5 Γ5 H5 s5 r5 w5 => ?_
    -- what is true of the new list's own cell all along
    have cell : ∀ {M6 : Hp} {Γ6 : Sl} {H6 : Hp}, Same M3 M6 → R K M6 (upd F C (.lst av)) Γ6 σ4 H6 → H6 C = some (.lst av) ∧ M6 C = none ∧ ¬ OwnAt (Pd.back Γ2 Γ6 vs) σ C ∧ R K M6 F (Pd.back Γ2 Γ6 vs) σ H6 := fun {M6 Γ6 H6} s6 r6 => by
      have a1 := r6.sF C _ upd_same
      have a2 := r6.dj C _ upd_same
      have rb := r2.back (s3.trans s6) r6 l4' k4' n2
      refine ⟨a1, a2, fun z => ?_, rb.weakF (same_upd c2)⟩
      obtain ⟨_, q, _⟩ := rb.ownM z
      rw [upd_same] at q; cases q
    cases b with
    | true =>
      rw [if_pos rfl] at w5 ⊢
      refine he M5 _ Γ5 σ4 H5 _ _ r5 (W.mono (s03.trans s5) (same_upd c2) ok) w5 fun o v M6 Γ6 H6 s6 r6 v6 w6 => ?_
      obtain ⟨M7, Γ7, dv, s7, r7, p7, k7, _⟩ := fz_ok r6 v6 w6
      have s37 := s5.trans (s6.trans s7)
      obtain ⟨a1, a2, a3, a4⟩ := cell s37 r7
      have av7 := c4.up (s3.trans s37)
      refine ⟨av, a1, by rw [c4.length]; exact k7.1, M7, _, acc ++ [dv], av ++ [v], s2.trans (s3.trans s37), a4.updOut a2 c2 a3 a1, a2, c2, upd_same, av7.append (.one p7), a3, back_noOwn n2, k7.2⟩
    | false =>
      rw [if_neg Bool.false_ne_true] at w5 ⊢
      obtain ⟨a1, a2, a3, a4⟩ := cell s5 r5
      exact ⟨M5, _, acc, av, s2.trans (s3.trans s5), a4, a2, c2, a1, c4.up (s3.trans s5), a3, back_noOwn n2, w5⟩
  · obtain ⟨M2, Γ2, acc, av, s2, r2, c1, c2, c3, c4, c5, n2, w2⟩ := q
    rw [List.drop_length] at w2
    exact h (.f acc) _ M2 Γ2 H (s1.trans s2) r2 ⟨C, av, rfl, c1, c2, c3, c4, c5⟩ w2
def wYes : WT := fun Γ Q => Q true Γ
theorem sim_yes : SimT K W tYes wYes := fun M F Γ σ H Q Q' r ok w h => h true M Γ H (Same.refl M) r w
end
end Pd
end

section
set_option maxRecDepth 100000
/-! Pd5: defs, their promises by data, calls. -/
namespace Pd
open PySem PySem.Spec L2
open PyProof.Rows hiding St
set_option autoImplicit false

/-- what a def of data does: arguments, what is wanted of its value -/
abbrev FSpec := List D → (D → Prop) → Prop
/-- .. whose value is a new list -/
abbrev OSpec := List D → (List D → Prop) → Prop
/-- .. whose first argument is a list that it changes -/
abbrev MSpec := List D → List D → (D → List D → Prop) → Prop
def Dj (M F : Hp) : Prop := ∀ p x, F p = some x → M p = none
def spP (K : PySem.W.Frag) (ws : FSpec) : Sp := fun vs H Q _ => ∃ (M F : Hp) (ds : List D) (Qd : D → Prop), Same M H ∧ Same F H ∧ Dj M F ∧ RpAll K M vs ds ∧ ws ds Qd ∧
  ∀ v d M' H', Same M M' → Same M' H' → Same F H' → Dj M' F → Rp K M' v d → Qd d → Q v H'
def spM (K : PySem.W.Frag) (ws : MSpec) : Sp := fun vs H Q _ => ∃ (M F : Hp) (p : Addr) (cv rest : List V) (cs ds : List D) (Qd : D → List D → Prop), vs = .ref p :: rest ∧ Same M H ∧ Same F H ∧ Dj M F ∧
  M p = none ∧ F p = none ∧ H p = some (.lst cv) ∧ RpAll K M cv cs ∧ RpAll K M rest ds ∧ ws cs ds Qd ∧
  ∀ v d cv' cs' M' H', Same M M' → Same M' H' → Same F H' → Dj M' F → M' p = none → H' p = some (.lst cv') → RpAll K M' cv' cs' → Rp K M' v d → Qd d cs' → Q v H'

section
variable {K : PySem.W.Frag} {W : XW} {M M' F F' H H' : Hp} {Γ Γ' : Sl} {σ σ' : L2.St}
open Classical in
/-- all that a callee may not touch -/
noncomputable def kept (Γ : Sl) (σ : L2.St) (F H : Hp) (skip : Addr → Prop) : Hp := fun a => if (OwnAt Γ σ a ∨ DicAt Γ σ a) ∧ ¬ skip a then H a else F a
theorem kept_own {skip : Addr → Prop} {a : Addr} (h : OwnAt Γ σ a) (n : ¬ skip a) : kept Γ σ F H skip a = H a := by
  unfold kept; rw [if_pos ⟨.inl h, n⟩]
theorem kept_dic {skip : Addr → Prop} {a : Addr} (h : DicAt Γ σ a) (n : ¬ skip a) : kept Γ σ F H skip a = H a := by
  unfold kept; rw [if_pos ⟨.inr h, n⟩]
theorem kept_not {skip : Addr → Prop} {a : Addr} (h : ¬ OwnAt Γ σ a) (h' : ¬ DicAt Γ σ a) : kept Γ σ F H skip a = F a := by
  unfold kept; rw [if_neg fun z => z.1.elim h h']
theorem kept_skip {skip : Addr → Prop} {a : Addr} (h : skip a) : kept Γ σ F H skip a = F a := by
  unfold kept; rw [if_neg fun z => z.2 h]
theorem kept_same (r : R K M F Γ σ H) {skip : Addr → Prop} : Same (kept Γ σ F H skip) H := fun b x e => by
  unfold kept at e
  split at e
  · exact e
  · exact r.sF b x e
theorem kept_dj (r : R K M F Γ σ H) {skip : Addr → Prop} : Dj M (kept Γ σ F H skip) := fun b x e => by
  unfold kept at e
  split at e
  · next h => exact h.1.elim (fun z => (r.ownM z).1) fun z => (r.dicM z).1
  · exact r.dj b x e
theorem kept_F (r : R K M F Γ σ H) {skip : Addr → Prop} : Same F (kept Γ σ F H skip) := fun b x e => by
  by_cases h : OwnAt Γ σ b
  · have := (r.ownM h).2.1
    rw [e] at this; cases this
  · by_cases h' : DicAt Γ σ b
    · have := (r.dicM h').2.1
      rw [e] at this; cases this
    · rw [kept_not h h']; exact e
/-- behind a call that kept all -/
theorem R.called (r : R K M F Γ σ H) (s : Same M M') (hM : Same M' H') (hF : Same (kept Γ σ F H fun _ => False) H') (d : Dj M' (kept Γ σ F H fun _ => False)) : R K M' F Γ σ H' := by
  refine ⟨hM, (kept_F r).trans hF, fun p x e => d p x (kept_F r p x e), r.len, fun i d e => ?_, fun i pin ds e => ?_, r.sep, fun i kvs e => ?_, r.dsep⟩
  · obtain ⟨v, e1, e2⟩ := r.im i d e
    exact ⟨v, e1, e2.up s⟩
  · obtain ⟨p, vs, e1, e2, e3, e4, e5, e6⟩ := r.ow i pin ds e
    have ho : OwnAt Γ σ p := ⟨i, pin, ds, e, e1⟩
    have k : kept Γ σ F H (fun _ => False) p = some (.lst vs) := by rw [kept_own ho (fun z => z)]; exact e5
    exact ⟨p, vs, e1, e2, d p _ k, e4, hF p _ k, e6.up s⟩
  · obtain ⟨p, us, e1, e3, e6⟩ := r.dw i kvs e
    refine ⟨p, us, e1, e3.imp (s _ _) fun l e3 e4 e5 => ?_, e6.up s⟩
    have k : kept Γ σ F H (fun _ => False) p = some (dkO us) := by rw [kept_dic ⟨i, kvs, e, e1, l⟩ (fun z => z)]; exact e5
    exact ⟨d p _ k, e4, hF p _ k⟩
def wCall (ws : FSpec) (wa : WA) : WE := fun Γ Q => wa Γ fun os Γ1 => fzs os Γ1 fun ds Γ2 => ws ds fun d => Q (.d d) Γ2
theorem sim_call {ws : FSpec} {ta : TA} {wa : WA} {E : XK} (ha : SimA K W ta wa) : Sim K W (tCall (spP K ws) [] E ta) (wCall ws wa) := by
  intro M F Γ σ H Q Q' r ok w h
  refine ha M F Γ σ H _ _ r ok w fun os vs M1 Γ1 H1 s1 r1 v1 w1 => ?_
  obtain ⟨M2, Γ2, ds, s2, r2, p2, k2⟩ := fzs_ok r1 v1 w1
  rw [List.append_nil]
  refine ⟨M2, kept Γ2 σ F H1 (fun _ => False), ds, _, r2.sM, kept_same r2, kept_dj r2, p2, k2, fun v d M' H' a1 a2 a3 a4 a5 a6 => ?_⟩
  exact h (.d d) v M' Γ2 H' (s1.trans (s2.trans a1)) (r2.called a1 a2 a3 a4) a5 a6
/-- .. whose value is a list of the caller's own -/
def spO (K : PySem.W.Frag) (ws : OSpec) : Sp := fun vs H Q _ => ∃ (M F : Hp) (ds : List D) (Qd : List D → Prop), Same M H ∧ Same F H ∧ Dj M F ∧ RpAll K M vs ds ∧ ws ds Qd ∧
  ∀ p us xs M' H', Same M M' → Same M' H' → Same F H' → Dj M' F → M' p = none → F p = none → H' p = some (.lst us) → RpAll K M' us xs → Qd xs → Q (.ref p) H'
def wCallO (ws : OSpec) (wa : WA) : WE := fun Γ Q => wa Γ fun os Γ1 => fzs os Γ1 fun ds Γ2 => ws ds fun xs => Q (.f xs) Γ2
theorem sim_callO {ws : OSpec} {ta : TA} {wa : WA} {E : XK} (ha : SimA K W ta wa) : Sim K W (tCall (spO K ws) [] E ta) (wCallO ws wa) := by
  intro M F Γ σ H Q Q' r ok w h
  refine ha M F Γ σ H _ _ r ok w fun os vs M1 Γ1 H1 s1 r1 v1 w1 => ?_
  obtain ⟨M2, Γ2, ds, s2, r2, p2, k2⟩ := fzs_ok r1 v1 w1
  rw [List.append_nil]
  refine ⟨M2, kept Γ2 σ F H1 (fun _ => False), ds, _, r2.sM, kept_same r2, kept_dj r2, p2, k2, fun p us xs M' H' a1 a2 a3 a4 b1 b2 b3 b4 a6 => ?_⟩
  have hno : ¬ OwnAt Γ2 σ p := fun z => by
    obtain ⟨i, pin, ds', e, e1⟩ := z
    obtain ⟨q, ws', g1, g2, g3, g4, g5, g6⟩ := r2.ow i pin ds' e
    rw [e1] at g1; cases g1
    rw [kept_own ⟨i, pin, ds', e, e1⟩ (fun z => z), g5] at b2
    cases b2
  have hno2 : ¬ DicAt Γ2 σ p := fun z => by
    obtain ⟨_, _, us, g⟩ := r2.dicM z
    rw [kept_dic z (fun z => z), g] at b2
    cases b2
  have hF : F p = none := by rw [kept_not hno hno2] at b2; exact b2
  exact h (.f xs) (.ref p) M' Γ2 H' (s1.trans (s2.trans a1)) (r2.called a1 a2 a3 a4) ⟨p, us, rfl, b1, hF, b3, b4, hno⟩ a6
/-- the call of a def that changes the list of slot i -/
def wCallM (ws : MSpec) (i : Nat) (wa : WA) : WE := fun Γ Q => wOwn Γ i fun _ _ => wa Γ fun os Γ1 => fzs os Γ1 fun ds Γ2 => wOwn Γ2 i fun pin cs => ws cs ds fun d cs' => Q (.d d) (Γ2.set i (some (.own pin cs')))
theorem sim_callM {ws : MSpec} {i : Nat} {ta : TA} {wa : WA} {E : XK} (ha : SimA K W ta wa) : Sim K W (tCall (spM K ws) [] E (tCons (tVar i) ta)) (wCallM ws i wa) := by
  intro M F Γ σ H Q Q' r ok w h
  obtain ⟨_, _, p0, _, _, k0, e0, _, _⟩ := wOwn_ok r w
  refine ⟨_, e0, ha M F Γ σ H _ _ r ok k0 fun os vs M1 Γ1 H1 s1 r1 v1 w1 => ?_⟩
  obtain ⟨M2, Γ2, ds, s2, r2, p2, k2⟩ := fzs_ok r1 v1 w1
  obtain ⟨pin, cs, p, cv, e1, k3, e2, e3, e4⟩ := wOwn_ok r2 k2
  rw [e0] at e2; cases e2
  have hown : OwnAt Γ2 σ p0 := ⟨i, pin, cs, e1, e0⟩
  rw [List.append_nil]
  refine ⟨M2, kept Γ2 σ F H1 (fun a => a = p0), p0, cv, vs, cs, ds, _, rfl, r2.sM, kept_same r2, kept_dj r2, (r2.ownM hown).1, (kept_skip (skip := fun a => a = p0) (a := p0) rfl).trans (r2.ownM hown).2.1, e3, e4, p2, k3, fun v d cv' cs' M' H' a1 a2 a3 a4 a5 a6 a7 a8 a9 => ?_⟩
  refine h (.d d) v M' _ H' (s1.trans (s2.trans a1)) ⟨a2, (kept_F r2).trans a3, fun q x e => a4 q x (kept_F r2 q x e), by simp [r2.len], fun j d e => ?_, fun j pin' ds' e => ?_, fun j k q a b ds1 es h1 h2 h3 h4 => ?_, fun j kvs e => ?_, fun j k q ks ls l1 l2 h1 h2 h3 h4 => ?_⟩ a8 a9
  · rcases get_set e with ⟨_, f1, _⟩ | ⟨ne, e⟩
    · cases f1
    · obtain ⟨v, f1, f2⟩ := r2.im j d e
      exact ⟨v, f1, f2.up a1⟩
  · rcases get_set e with ⟨rfl, f1, _⟩ | ⟨ne, e⟩
    · cases f1
      obtain ⟨q, _, g1, g2, _⟩ := r2.ow i pin cs e1
      rw [e0] at g1; cases g1
      exact ⟨p0, cv', e0, g2, a5, (r2.ownM hown).2.1, a6, a7⟩
    · obtain ⟨q, ws, g1, g2, g3, g4, g5, g6⟩ := r2.ow j pin' ds' e
      have hq : q ≠ p0 := fun z => ne (r2.sep i j p0 _ _ _ _ e1 e e0 (by rw [← z]; exact g1))
      have k : kept Γ2 σ F H1 (fun a => a = p0) q = some (.lst ws) := by rw [kept_own ⟨j, pin', ds', e, g1⟩ hq]; exact g5
      exact ⟨q, ws, g1, g2, a4 q _ k, g4, a3 q _ k, g6.up a1⟩
  · have g1 : ∃ a' ds', Γ2[j]? = some (some (.own a' ds')) := by
      rcases get_set h1 with ⟨rfl, _, _⟩ | ⟨_, h1⟩
      · exact ⟨_, _, e1⟩
      · exact ⟨_, _, h1⟩
    have g2 : ∃ a' ds', Γ2[k]? = some (some (.own a' ds')) := by
      rcases get_set h2 with ⟨rfl, _, _⟩ | ⟨_, h2⟩
      · exact ⟨_, _, e1⟩
      · exact ⟨_, _, h2⟩
    obtain ⟨_, _, g1⟩ := g1
    obtain ⟨_, _, g2⟩ := g2
    exact r2.sep j k q _ _ _ _ g1 g2 h3 h4
  · rcases get_set e with ⟨_, f1, _⟩ | ⟨_, e⟩
    · cases f1
    · obtain ⟨q, us, g1, g3, g6⟩ := r2.dw j kvs e
      refine ⟨q, us, g1, g3.imp (a1 _ _) fun l g3 g4 g5 => ?_, g6.up a1⟩
      have hq : q ≠ p0 := fun z => by rw [z, e3] at g5; exact dkO_nl g5
      have k : kept Γ2 σ F H1 (fun a => a = p0) q = some (dkO us) := by rw [kept_dic ⟨j, kvs, e, g1, l⟩ hq]; exact g5
      exact ⟨a4 q _ k, g4, a3 q _ k⟩
  · rcases get_set h1 with ⟨_, f1, _⟩ | ⟨_, h1⟩
    · cases f1
    · rcases get_set h2 with ⟨_, f1, _⟩ | ⟨_, h2⟩
      · cases f1
      · exact r2.dsep j k q ks ls l1 l2 h1 h2 h3 h4
/-- the slots at a def's entry -/
def startD (n : Nat) (ds : List D) : Sl := ds.map (fun d => some (.imm d)) ++ List.replicate (n - ds.length) none
def endsP (Qd : D → Prop) : EndsD where
  nx := fun _ => Qd .none
  rt := fun d _ => Qd d
def endsO (Qd : List D → Prop) : EndsD where
  nx := fun _ => False
  rt := fun _ _ => False
  ro := fun xs _ => Qd xs
def startM (n : Nat) (p : Addr) (cs ds : List D) : Sl := some (.own (some p) cs) :: (ds.map (fun d => some (.imm d)) ++ List.replicate (n - (ds.length + 1)) none)
/-- what the list at p holds at last -/
def own0 (Γ : Sl) (p : Addr) (k : List D → Prop) : Prop := match Γ[0]? with
  | some (some (SV.own (some q) cs)) => q = p ∧ k cs
  | _ => False
def endsM (p : Addr) (Qd : D → List D → Prop) : EndsD where
  nx := fun (Γ : Sl) => own0 Γ p (Qd .none)
  rt := fun d (Γ : Sl) => own0 Γ p (Qd d)
theorem start_get {N : List Str} {vs : List V} {i : Nat} {v : V} (h : vs[i]? = some v) : (L2.start N vs)[i]? = some (some v) := by
  unfold L2.start
  have hl : i < vs.length := (List.getElem?_eq_some_iff.mp h).1
  rw [List.getElem?_append_left (by simpa using hl), List.getElem?_map, h]
  rfl
theorem imms_get {ds : List D} {m i : Nat} {s : SV} (h : (ds.map (fun d => some (SV.imm d)) ++ List.replicate m none)[i]? = some (some s)) : ∃ d, ds[i]? = some d ∧ s = .imm d := by
  by_cases hl : i < ds.length
  · rw [List.getElem?_append_left (by simpa using hl), List.getElem?_map] at h
    cases e : ds[i]? with
    | none => rw [e] at h; cases h
    | some d => rw [e] at h; cases h; exact ⟨d, rfl, rfl⟩
  · rw [List.getElem?_append_right (by simpa using hl), List.getElem?_replicate] at h
    split at h <;> cases h
theorem startP_R {N : List Str} {vs : List V} {ds : List D} (hN : vs.length ≤ N.length) (sM : Same M H) (sF : Same F H) (dj : Dj M F) (h : RpAll K M vs ds) : R K M F (startD N.length ds) (L2.start N vs) H := by
  refine ⟨sM, sF, dj, ?_, fun i d e => ?_, fun i pin ds e => ?_, fun i j p q s ds es h1 h2 h3 h4 => ?_, fun i kvs e => ?_, fun i j p ks ls l1 l2 h1 h2 h3 h4 => ?_⟩
  · unfold startD L2.start
    have := h.length
    simp; omega
  · obtain ⟨d', e1, e2⟩ := imms_get e
    cases e2
    obtain ⟨v, e3, e4⟩ := h.getD e1
    exact ⟨v, start_get e3, e4⟩
  · obtain ⟨d', e1, e2⟩ := imms_get e
    cases e2
  · obtain ⟨d', e1, e2⟩ := imms_get h1
    cases e2
  · obtain ⟨d', e1, e2⟩ := imms_get e
    cases e2
  · obtain ⟨d', e1, e2⟩ := imms_get h1
    cases e2
theorem startM_R {N : List Str} {vs cv : List V} {ds cs : List D} {p : Addr} (hN : vs.length + 1 ≤ N.length) (sM : Same M H) (sF : Same F H) (dj : Dj M F) (hM : M p = none) (hF : F p = none) (hp : H p = some (.lst cv)) (hc : RpAll K M cv cs) (h : RpAll K M vs ds) :
    R K M F (startM N.length p cs ds) (L2.start N (.ref p :: vs)) H := by
  have at_ : ∀ {i : Nat} {s : SV}, (startM N.length p cs ds)[i]? = some (some s) → (i = 0 ∧ s = .own (some p) cs) ∨ ∃ j d, i = j + 1 ∧ ds[j]? = some d ∧ s = .imm d := by
    intro i s e
    cases i with
    | zero =>
      have : s = .own (some p) cs := by
        have e' : some (some (SV.own (some p) cs)) = some (some s) := e
        cases e'; rfl
      exact .inl ⟨rfl, this⟩
    | succ j =>
      have e' : (ds.map (fun d => some (SV.imm d)) ++ List.replicate (N.length - (ds.length + 1)) none)[j]? = some (some s) := e
      obtain ⟨d, e1, e2⟩ := imms_get e'
      exact .inr ⟨j, d, rfl, e1, e2⟩
  refine ⟨sM, sF, dj, ?_, fun i d e => ?_, fun i pin ds' e => ?_, fun i j q a b ds1 es h1 h2 h3 h4 => ?_, fun i kvs e => ?_, fun i j q ks ls l1 l2 h1 h2 h3 h4 => ?_⟩
  · unfold startM L2.start
    have := h.length
    simp; omega
  · rcases at_ e with ⟨_, q⟩ | ⟨j, d', rfl, e1, e2⟩
    · cases q
    · cases e2
      obtain ⟨v, e3, e4⟩ := h.getD e1
      exact ⟨v, start_get (i := j + 1) e3, e4⟩
  · rcases at_ e with ⟨rfl, q⟩ | ⟨j, d', rfl, e1, e2⟩
    · cases q
      exact ⟨p, cv, start_get (i := 0) rfl, fun q e => (by cases e; rfl), hM, hF, hp, hc⟩
    · cases e2
  · rcases at_ h1 with ⟨rfl, _⟩ | ⟨_, _, _, _, e2⟩
    · rcases at_ h2 with ⟨rfl, _⟩ | ⟨_, _, _, _, e2⟩
      · rfl
      · cases e2
    · cases e2
  · rcases at_ e with ⟨rfl, q⟩ | ⟨j, d', rfl, e1, e2⟩
    · cases q
    · cases e2
  · rcases at_ h1 with ⟨rfl, q⟩ | ⟨_, _, _, _, e2⟩
    · cases q
    · cases e2
end

/-! ### a def of the text -/
/-- the name x is a def of the text that keeps the promise sp -/
def Has (P : Program) (w : World) (K : PySem.W.Frag) (mg : Str → Option Value) (base : Heap) (k : Nat) (x : Str) (ps : List Str) (sp : Sp) : Prop :=
  ∃ f fd, mg x = some (.ref f) ∧ PySem.W.keepIn K (.ref f) = true ∧ Binds K fd ps [] ∧ FnOk P w K mg base CX0 k f fd ps sp
/-- the def st stands at the name x -/
def IsDef (K : PySem.W.Frag) (mg : Str → Option Value) (x : Str) (st : Stmt) : Prop := ∃ f fd, mg x = some (.ref f) ∧ FunD K x x (defArgs st) (defBody st) (defScope st) [] [] f fd
section
variable {P : Program} {w : World} {K : PySem.W.Frag} {mg : Str → Option Value} {base : Heap} {k : Nat} {x : Str} {st : Stmt} {N ps : List Str}
theorem fnok_def {ws : FSpec} {wb : WS} {f : Addr} {fd : FuncData} (F : FunD K x x (defArgs st) (defBody st) (defScope st) [] [] f fd) (S : FnScope N ps (defScope st)) (hl : ps.length ≤ N.length) (len : ∀ ds Q, ws ds Q → ds.length = ps.length)
    (ok : ∀ ds Qd, ws ds Qd → wb (endsP Qd) (startD N.length ds))
    (body : ∀ (f : Addr) (cdv : Value) (A : Around) (outer : List Env) (s : Shared) (H : Hp) (E : XK), Room k (A.deeper (envOfC x (defScope st) s.heap.objs.size f cdv)) →
      ∃ t, DSs (cxOf CX0 P w K mg base N x (defScope st) f cdv A outer s H E).nox W0 (defBody st) t wb) :
    FnOk P w K mg base CX0 (k + 1) f fd ps (spP K ws) := by
  refine F.ok S (fun vs H Q E h => ?_) fun cdv A outer s H vs Q E hr h => ?_
  · obtain ⟨M, F, ds, Qd, _, _, _, h4, h5, _⟩ := h
    exact h4.length.trans (len ds Qd h5)
  · obtain ⟨M, F, ds, Qd, h1, h2, h3, h4, h5, h6⟩ := h
    obtain ⟨t, ht⟩ := body f cdv A outer s H E hr
    have hv : vs.length ≤ N.length := by rw [h4.length, len ds Qd h5]; exact hl
    refine ⟨t, ht.pss.nox, ht.sim M F (startD N.length ds) (L2.start N vs) H (endsP Qd) _ (startP_R hv h1 h2 h3 h4) trivial (ok ds Qd h5) ⟨fun M' Γ' σ' H' s r q => ?_, fun v d M' Γ' σ' H' s r p q => ?_, fun _ _ _ _ _ _ q => q.elim, fun _ _ _ _ _ _ q => q.elim, fun _ _ _ _ _ _ _ _ _ _ _ _ _ q => q.elim⟩⟩
    · exact h6 .non .none M' H' s r.sM r.sF r.dj .non q
    · exact h6 v d M' H' s r.sM r.sF r.dj p q
theorem has_def {ws : FSpec} {wb : WS} (I : IsDef K mg x st) (S : FnScope N ps (defScope st)) (hl : ps.length ≤ N.length) (len : ∀ ds Q, ws ds Q → ds.length = ps.length)
    (hb : ∀ (kV doc pm : Value) (an : Option Addr) (cdv ct : Value) (us : List Value), us.length = ps.length → bindArgs (PySem.W.fnOf x x (defArgs st) (defBody st) (defScope st) .none kV doc pm an cdv ct) ⟨us, []⟩ = pure (ps.zip us))
    (ok : ∀ ds Qd, ws ds Qd → wb (endsP Qd) (startD N.length ds))
    (body : ∀ (f : Addr) (cdv : Value) (A : Around) (outer : List Env) (s : Shared) (H : Hp) (E : XK), Room k (A.deeper (envOfC x (defScope st) s.heap.objs.size f cdv)) →
      ∃ t, DSs (cxOf CX0 P w K mg base N x (defScope st) f cdv A outer s H E).nox W0 (defBody st) t wb) :
    Has P w K mg base (k + 1) x ps (spP K ws) := by
  obtain ⟨f, fd, hm, F⟩ := I
  exact ⟨f, fd, hm, F.kp, F.bindsN hb, fnok_def F S hl len ok body⟩
theorem has_defO {ws : OSpec} {wb : WS} (I : IsDef K mg x st) (S : FnScope N ps (defScope st)) (hl : ps.length ≤ N.length) (len : ∀ ds Q, ws ds Q → ds.length = ps.length)
    (hb : ∀ (kV doc pm : Value) (an : Option Addr) (cdv ct : Value) (us : List Value), us.length = ps.length → bindArgs (PySem.W.fnOf x x (defArgs st) (defBody st) (defScope st) .none kV doc pm an cdv ct) ⟨us, []⟩ = pure (ps.zip us))
    (ok : ∀ ds Qd, ws ds Qd → wb (endsO Qd) (startD N.length ds))
    (body : ∀ (f : Addr) (cdv : Value) (A : Around) (outer : List Env) (s : Shared) (H : Hp) (E : XK), Room k (A.deeper (envOfC x (defScope st) s.heap.objs.size f cdv)) →
      ∃ t, DSs (cxOf CX0 P w K mg base N x (defScope st) f cdv A outer s H E).nox W0 (defBody st) t wb) :
    Has P w K mg base (k + 1) x ps (spO K ws) := by
  obtain ⟨f, fd, hm, F⟩ := I
  refine ⟨f, fd, hm, F.kp, F.bindsN hb, F.ok S (fun vs H Q E h => ?_) fun cdv A outer s H vs Q E hr h => ?_⟩
  · obtain ⟨M, F, ds, Qd, _, _, _, h4, h5, _⟩ := h
    exact h4.length.trans (len ds Qd h5)
  · obtain ⟨M, F, ds, Qd, h1, h2, h3, h4, h5, h6⟩ := h
    obtain ⟨t, ht⟩ := body f cdv A outer s H E hr
    have hv : vs.length ≤ N.length := by rw [h4.length, len ds Qd h5]; exact hl
    exact ⟨t, ht.pss.nox, ht.sim M F (startD N.length ds) (L2.start N vs) H (endsO Qd) _ (startP_R hv h1 h2 h3 h4) trivial (ok ds Qd h5) ⟨fun _ _ _ _ _ _ q => q.elim, fun _ _ _ _ _ _ _ _ _ q => q.elim, fun _ _ _ _ _ _ q => q.elim, fun _ _ _ _ _ _ q => q.elim,
      fun p us xs M' Γ' σ' H' s r g1 g2 g3 g4 q => h6 p us xs M' H' s r.sM r.sF r.dj g1 g2 g3 g4 q⟩⟩
/-- a promise that nobody may ask for -/
theorem has_none {ws : FSpec} (I : IsDef K mg x st) (h : ∀ ds Q, ¬ ws ds Q)
    (hb : ∀ (kV doc pm : Value) (an : Option Addr) (cdv ct : Value) (us : List Value), us.length = ps.length → bindArgs (PySem.W.fnOf x x (defArgs st) (defBody st) (defScope st) .none kV doc pm an cdv ct) ⟨us, []⟩ = pure (ps.zip us)) :
    Has P w K mg base k x ps (spP K ws) := by
  obtain ⟨f, fd, hm, F⟩ := I
  refine ⟨f, fd, hm, F.kp, F.bindsN hb, fun vs H Q E q => ?_, fun A outer s H args us vs Q E _ _ _ _ q => ?_⟩
  · obtain ⟨_, _, ds, Qd, _, _, _, _, z, _⟩ := q
    exact absurd z (h ds Qd)
  · obtain ⟨_, _, ds, Qd, _, _, _, _, z, _⟩ := q
    exact absurd z (h ds Qd)
theorem has_defM {ws : MSpec} {wb : WS} (I : IsDef K mg x st) (S : FnScope N ps (defScope st)) (hl : ps.length ≤ N.length) (len : ∀ cs ds Q, ws cs ds Q → ds.length + 1 = ps.length)
    (hb : ∀ (kV doc pm : Value) (an : Option Addr) (cdv ct : Value) (us : List Value), us.length = ps.length → bindArgs (PySem.W.fnOf x x (defArgs st) (defBody st) (defScope st) .none kV doc pm an cdv ct) ⟨us, []⟩ = pure (ps.zip us))
    (ok : ∀ p cs ds Qd, ws cs ds Qd → wb (endsM p Qd) (startM N.length p cs ds))
    (body : ∀ (f : Addr) (cdv : Value) (A : Around) (outer : List Env) (s : Shared) (H : Hp) (E : XK), Room k (A.deeper (envOfC x (defScope st) s.heap.objs.size f cdv)) →
      ∃ t, DSs (cxOf CX0 P w K mg base N x (defScope st) f cdv A outer s H E).nox W0 (defBody st) t wb) :
    Has P w K mg base (k + 1) x ps (spM K ws) := by
  obtain ⟨f, fd, hm, F⟩ := I
  refine ⟨f, fd, hm, F.kp, F.bindsN hb, F.ok S (fun vs H Q E h => ?_) fun cdv A outer s H vs Q E hr h => ?_⟩
  · obtain ⟨M, F, p, cv, rest, cs, ds, Qd, rfl, _, _, _, _, _, _, _, h9, h10, _⟩ := h
    show rest.length + 1 = _
    rw [h9.length]
    exact len cs ds Qd h10
  · obtain ⟨M, F, p, cv, rest, cs, ds, Qd, rfl, h1, h2, h3, h5, h6, h7, h8, h9, h10, h11⟩ := h
    obtain ⟨t, ht⟩ := body f cdv A outer s H E hr
    have hv : rest.length + 1 ≤ N.length := by rw [h9.length, len cs ds Qd h10]; exact hl
    have fin : ∀ {Γ' : Sl} {σ' : L2.St} {M' H' : Hp} {v : V} {d : D}, R K M' F Γ' σ' H' → Same M M' → Rp K M' v d → own0 Γ' p (Qd d) → Q v H' := by
      intro Γ' σ' M' H' v d r s hv q
      unfold own0 at q
      split at q
      · next q' cs' e =>
        obtain ⟨rfl, q⟩ := q
        obtain ⟨p', vs', g1, g2, g3, g4, g5, g6⟩ := r.ow 0 (some q') cs' e
        have := g2 q' rfl
        subst this
        exact h11 v d vs' cs' M' H' s r.sM r.sF r.dj g3 g5 g6 hv q
      · exact q.elim
    refine ⟨t, ht.pss.nox, ht.sim M F (startM N.length p cs ds) (L2.start N (.ref p :: rest)) H (endsM p Qd) _ (startM_R hv h1 h2 h3 h5 h6 h7 h8 h9) trivial (ok p cs ds Qd h10) ⟨fun M' Γ' σ' H' s r q => ?_, fun v d M' Γ' σ' H' s r p q => ?_, fun _ _ _ _ _ _ q => q.elim, fun _ _ _ _ _ _ q => q.elim, fun _ _ _ _ _ _ _ _ _ _ _ _ _ q => q.elim⟩⟩
    · exact fin (v := .non) (d := .none) r s .non q
    · exact fin r s p q
end
/-- a law: any script of so many ints, and True -/
def spLaw (m : Nat) : FSpec := fun ds Q => match ds with
  | [.dict [(.none, .list xs)]] => (∃ ns : List Int, xs = ns.map PyData.int ∧ ns.length ≤ m) ∧ Q (.bool true)
  | _ => False
theorem spLaw_len (m : Nat) : ∀ ds Q, spLaw m ds Q → ds.length = 1 := fun ds Q h => by
  unfold spLaw at h
  split at h
  · rfl
  · exact h.elim
theorem spLaw_start {K : PySem.W.Frag} {m : Nat} {H : Hp} {a : Addr} {ns : List Int} (hl : ns.length ≤ m) (hS : SqL K H a (ns.map V.int)) : spP K (spLaw m) [.ref a] H (fun v _ => v = .bl true) fun _ _ _ => False :=
  ⟨H, fun _ => none, [.dict [(.none, .list (ns.map PyData.int))]], fun d => d = .bool true, Same.refl H, fun _ _ e => (by cases e), fun _ _ e => (by cases e), .one (.scr hS (RpAll.ofInts ns)), ⟨⟨ns, rfl, hl⟩, rfl⟩,
    fun v d M' H' _ _ _ _ p e => by subst e; cases p; rfl⟩
end Pd
end

section
set_option maxRecDepth 100000
/-! Pd6: operators and built-ins by data. -/
namespace Pd
open PySem PySem.Spec L2
open PyProof.Rows hiding St
set_option autoImplicit false

section
variable {X : Cx} {K : PySem.W.Frag} {W : XW} {M M' F F' H H' : Hp} {Γ Γ' : Sl} {σ σ' : L2.St}
/-! ### ints -/
theorem bok_int {r : R2} {C : Int → Int → Prop} {g : Int → Int → D} {gv : Int → Int → V} (hg : ∀ i j M, Rp K M (gv i j) (g i j)) (hr : ∀ i j H Q, C i j → Q (gv i j) H → r (.int i) (.int j) H Q) :
    BOk2 K r (fun d e Q => match d, e with | .int i, .int j => C i j ∧ Q (.d (g i j)) | _, _ => False) := by
  intro M F Γ σ H x y d e Q Q' rr p q w h
  match d, e, w with
  | .int i, .int j, w =>
    rw [p.int, q.int]
    exact hr i j H Q' w.1 (fin_d (Q := Q) rr (hg i j M) w.2 h)
def opSub : F2 := fun d e Q => match d, e with | .int i, .int j => True ∧ Q (.d (.int (i - j))) | _, _ => False
theorem b_sub : BOk2 K (rI0 fun i j => .int (i - j)) opSub := bok_int (fun _ _ _ => .int _) fun i j H Q _ q => ⟨i, j, rfl, rfl, q⟩
def opFdiv : F2 := fun d e Q => match d, e with | .int i, .int j => CDivW i j ∧ Q (.d (.int (i / j))) | _, _ => False
theorem b_fdiv : BOk2 K (rI CDivW fun i j => .int (i / j)) opFdiv := bok_int (fun _ _ _ => .int _) fun i j H Q c q => ⟨i, j, rfl, rfl, c, q⟩
def opMod : F2 := fun d e Q => match d, e with | .int i, .int j => (0 : Int) < j ∧ Q (.d (.int (i % j))) | _, _ => False
theorem b_mod : BOk2 K (rI (fun _ j => 0 < j) fun i j => .int (i % j)) opMod := bok_int (C := fun _ j => 0 < j) (fun _ _ _ => .int _) fun i j H Q c q => ⟨i, j, rfl, rfl, c, q⟩
def opPow : F2 := fun d e Q => match d, e with | .int i, .int j => CPow i j ∧ Q (.d (.int (i ^ j.toNat))) | _, _ => False
theorem b_pow : BOk2 K (rI CPow fun i j => .int (i ^ j.toNat)) opPow := bok_int (fun _ _ _ => .int _) fun i j H Q c q => ⟨i, j, rfl, rfl, c, q⟩
def opLt : F2 := fun d e Q => match d, e with | .int i, .int j => True ∧ Q (.d (.bool (decide (i < j)))) | _, _ => False
theorem b_lt : BOk2 K (rI0 fun i j => .bl (decide (i < j))) opLt := bok_int (fun _ _ _ => .bl _) fun i j H Q _ q => ⟨i, j, rfl, rfl, q⟩
def opLe : F2 := fun d e Q => match d, e with | .int i, .int j => True ∧ Q (.d (.bool (decide (i ≤ j)))) | _, _ => False
theorem b_le : BOk2 K (rI0 fun i j => .bl (decide (i ≤ j))) opLe := bok_int (fun _ _ _ => .bl _) fun i j H Q _ q => ⟨i, j, rfl, rfl, q⟩
def opGt : F2 := fun d e Q => match d, e with | .int i, .int j => True ∧ Q (.d (.bool (decide (j < i)))) | _, _ => False
theorem b_gt : BOk2 K (rI0 fun i j => .bl (decide (j < i))) opGt := bok_int (fun _ _ _ => .bl _) fun i j H Q _ q => ⟨i, j, rfl, rfl, q⟩
def opGe : F2 := fun d e Q => match d, e with | .int i, .int j => True ∧ Q (.d (.bool (decide (j ≤ i)))) | _, _ => False
theorem b_ge : BOk2 K (rI0 fun i j => .bl (decide (j ≤ i))) opGe := bok_int (fun _ _ _ => .bl _) fun i j H Q _ q => ⟨i, j, rfl, rfl, q⟩
def opNeg : F1 := fun d Q => match d with | .int i => Q (.d (.int (-i))) | _ => False
theorem b_neg : BOk1 K (rU fun i => .int (-i)) opNeg := by
  intro M F Γ σ H x d Q Q' rr p w h
  match d, w with
  | .int i, w =>
    rw [p.int]
    exact ⟨i, rfl, fin_d (Q := Q) rr (.int _) w h⟩

/-! ### +, * -/
def rAddD (K : PySem.W.Frag) : R2 := fun x y H Q => ((rI0 fun i j => .int (i + j)) x y H Q ∨ rCat x y H Q) ∨ (rCatA K x y H Q ∨ (fun (x y : V) (H : Hp) (Q : VK) => ∃ i j, x = .str i ∧ y = .str j ∧ i.length + j.length ≤ sizeLine ∧ Q (.str (i ++ j)) H) x y H Q)
theorem op_addD : OpR X (binaryOp .Add) (rAddD X.K) := (op_add.or op_cat).or (op_catA.or op_add_str)
def opAdd : F2 := fun d e Q => match d, e with
  | .int i, .int j => Q (.d (.int (i + j)))
  | .list a, .list b => a.length + b.length ≤ sizeLine ∧ Q (.f (a ++ b))
  | .tuple a, .tuple b => a.length + b.length ≤ sizeLine ∧ Q (.d (.tuple (a ++ b)))
  | .str a, .str b => a.length + b.length ≤ sizeLine ∧ Q (.d (.str (a ++ b)))
  | _, _ => False
theorem nil_of_rp {vs : List V} {ds : List D} (h : RpAll K M vs ds) (e : vs = []) : ds = [] := by
  subst e; cases h; rfl
theorem b_add : BOk2 K (rAddD K) opAdd := by
  intro M F Γ σ H x y d e Q Q' rr p q w h
  match d, e, w with
  | .int i, .int j, w =>
    rw [p.int, q.int]
    exact .inl (.inl ⟨i, j, rfl, rfl, fin_d (Q := Q) rr (.int _) w h⟩)
  | .list a, .list b, w =>
    obtain ⟨l, vs, rfl, e1, e2⟩ := p.list rr.sM
    obtain ⟨m, ws, rfl, f1, f2⟩ := q.list rr.sM
    exact .inl (.inr ⟨l, m, vs, ws, rfl, rfl, e1, f1, by rw [e2.length, f2.length]; exact w.1, fun p hp => fin_f (Q := Q) (Q' := Q') rr hp (e2.append f2) w.2 h⟩)
  | .tuple a, .tuple b, w =>
    obtain ⟨l, vs, rfl, e1, e2, e3⟩ := p.tuple rr.sM
    obtain ⟨m, ws, rfl, f1, f2, f3⟩ := q.tuple rr.sM
    refine .inr (.inl ⟨l, m, vs, ws, rfl, rfl, e1, f1, by rw [e2.length, f2.length]; exact w.1, fun z => ?_, fun _ z => ?_, fun _ _ p hp => fin_t (Q := Q) (Q' := Q') rr hp (e2.append f2) w.2 h⟩)
    · have := nil_of_rp e2 z
      subst this
      exact fin_d (Q := Q) (Q' := Q') rr f3 (by simpa using w.2) h
    · have := nil_of_rp f2 z
      subst this
      exact fin_d (Q := Q) (Q' := Q') rr e3 (by simpa using w.2) h
  | .str a, .str b, w =>
    rw [p.str, q.str]
    exact .inr (.inr ⟨a, b, rfl, rfl, w.1, fin_d (Q := Q) (Q' := Q') rr (.str _) w.2 h⟩)
/-- what a product of ints asks: both within a million bits, or one within ±2^64 -/
def MulOk (i j : Int) : Prop := CMulW i j ∨ CMul i j
def rMulI : R2 := fun x y H Q => (rI CMulW fun i j => .int (i * j)) x y H Q ∨ (rI CMul fun i j => .int (i * j)) x y H Q
theorem op_mulI : OpR X (binaryOp .Mult) rMulI := op_mulW.or op_mul
theorem rMulI_of {i j : Int} {H : Hp} {Q : V → Hp → Prop} (h : MulOk i j) (q : Q (.int (i * j)) H) : rMulI (.int i) (.int j) H Q :=
  h.elim (fun h => .inl ⟨i, j, rfl, rfl, h, q⟩) fun h => .inr ⟨i, j, rfl, rfl, h, q⟩
def rMulD : R2 := fun x y H Q => rMulI x y H Q ∨ rRep x y H Q
theorem op_mulD : OpR X (binaryOp .Mult) rMulD := op_mulI.or op_rep
def opMul : F2 := fun d e Q => match d, e with
  | .int i, .int j => MulOk i j ∧ Q (.d (.int (i * j)))
  | .list a, .int k => -(2 ^ 63) ≤ k ∧ k < 2 ^ 63 ∧ a.length * k.toNat ≤ sizeLine ∧ Q (.f (List.replicate k.toNat a).flatten)
  | _, _ => False
theorem b_mul : BOk2 K rMulD opMul := by
  intro M F Γ σ H x y d e Q Q' rr p q w h
  match d, e, w with
  | .int i, .int j, w =>
    rw [p.int, q.int]
    exact .inl (rMulI_of w.1 (fin_d (Q := Q) rr (.int _) w.2 h))
  | .list a, .int k, w =>
    obtain ⟨l, vs, rfl, e1, e2⟩ := p.list rr.sM
    rw [q.int]
    exact .inr ⟨l, k, vs, rfl, rfl, e1, w.1, w.2.1, by rw [e2.length]; exact w.2.2.1, fun p hp => fin_f (Q := Q) (Q' := Q') rr hp (e2.rep _) w.2.2.2 h⟩

/-! ### ==, !=, in, is -/
def opEq : F2 := fun d e Q => match d, e with
  | .str a, .str b => Q (.d (.bool (a == b)))
  | d, e => SeqAt.shaped d = true ∧ SeqAt.shaped e = true ∧ Q (.d (.bool (PyData.eqv d e)))
def rEqS (K : PySem.W.Frag) : R2 := fun x y H Q => rEqD K x y H Q ∨ rEq x y H Q
theorem b_eq : BOk2 K (rEqS K) opEq := fun M F Γ σ H x y d e Q Q' rr p q w h => by
  unfold opEq at w
  split at w
  · rw [p.str, q.str]
    exact .inr ⟨rfl, fin_d (Q := Q) (Q' := Q') rr (by rw [dec_str]; exact .bl _) w h⟩
  · exact .inl ⟨d, e, p.dp rr.sM w.1, q.dp rr.sM w.2.1, w.1, w.2.1, fin_d (Q := Q) rr (.bl _) w.2.2 h⟩
def opNe : F2 := fun d e Q => match d, e with
  | .str a, .str b => Q (.d (.bool (!(a == b))))
  | d, e => SeqAt.shaped d = true ∧ SeqAt.shaped e = true ∧ Q (.d (.bool (!PyData.eqv d e)))
def rNeS (K : PySem.W.Frag) : R2 := fun x y H Q => rNeD K x y H Q ∨ rNe x y H Q
theorem b_ne : BOk2 K (rNeS K) opNe := fun M F Γ σ H x y d e Q Q' rr p q w h => by
  unfold opNe at w
  split at w
  · rw [p.str, q.str]
    exact .inr ⟨rfl, fin_d (Q := Q) (Q' := Q') rr (by rw [dec_str]; exact .bl _) w h⟩
  · exact .inl ⟨d, e, p.dp rr.sM w.1, q.dp rr.sM w.2.1, w.1, w.2.1, fin_d (Q := Q) rr (.bl _) w.2.2 h⟩
def flatD : D → Bool
  | .none => true
  | .bool _ => true
  | .int _ => true
  | .str _ => true
  | _ => false
theorem flat_of : ∀ {v : V} {d : D}, Rp K M v d → flatD d = true → flatV v = true
  | _, _, .non, _ => rfl
  | _, _, .bl _, _ => rfl
  | _, _, .int _, _ => rfl
  | _, _, .str _, _ => rfl
  | _, _, .lst _ _, h => by cases h
  | _, _, .tup _ _, h => by cases h
  | _, _, .scr _ _, h => by cases h
theorem eqv_of {v u : V} {d e : D} (h1 : Rp K M v d) (h2 : Rp K M u e) (f1 : flatD d = true) (f2 : flatD e = true) : eqV v u = PyData.eqv d e := by
  cases h1 <;> cases h2 <;> first | rfl | cases f1 | cases f2
theorem any_of {v : V} {d : D} (hv : Rp K M v d) (fd : flatD d = true) : ∀ {vs : List V} {ds : List D}, RpAll K M vs ds → ds.all flatD = true → vs.all flatV = true ∧ inV v vs = ds.any fun z => PyData.eqv z d
  | _, _, .nil, _ => ⟨rfl, rfl⟩
  | _, _, .cons h t, f => by
    simp only [List.all_cons, Bool.and_eq_true] at f
    obtain ⟨a, b⟩ := any_of hv fd t f.2
    refine ⟨by simp [flat_of h f.1, a], ?_⟩
    have e := eqv_of h hv f.1 fd
    unfold inV at b ⊢
    rw [List.any_cons, List.any_cons, e, b]
/-- d in a tuple of any data -/
def rInTD (K : PySem.W.Frag) : R2 := fun x y H Q => ∃ d ds, Dp K H x d ∧ Dp K H y (.tuple ds) ∧ SeqAt.shaped d = true ∧ SeqAt.shaped (.tuple ds) = true ∧ Q (.bl (ds.any fun z => PyData.eqv z d)) H
theorem op_inTD (hu : X.A.units + 65 < cLine) : OpR X (compareOp .In) (rInTD X.K) := by
  intro pins s σ H x y v u Q I rx ry h
  obtain ⟨d, ds, hd, he, sd, se, q⟩ := h
  obtain ⟨_, w1⟩ := Dp.reads I d x v hd rx
  obtain ⟨_, w2⟩ := Dp.reads I (.tuple ds) y u he ry
  exact SeqAt.in_tuple_reads w2 w1 (SeqAt.canLay_of_shaped se) (SeqAt.canLay_of_shaped sd) (room_in_shaped sd hu) ⟨.bl _, H, I, rfl, q⟩
def rInDD (K : PySem.W.Frag) : R2 := fun x y H Q => rInD K x y H Q ∨ (rIn K false x y H Q ∨ rInTD K x y H Q)
theorem op_inDD (hu : X.A.units + 65 < cLine) : OpR X (compareOp .In) (rInDD X.K) := (op_inD hu).or (op_in_seq.or (op_inTD hu))
def opIn : F2 := fun d e Q => match e with
  | .list es => SeqAt.shaped d = true ∧ SeqAt.shaped (.list es) = true ∧ Q (.d (.bool (es.any fun z => PyData.eqv z d)))
  | .tuple es => (flatD d = true ∧ es.all flatD = true ∨ SeqAt.shaped d = true ∧ SeqAt.shaped (.tuple es) = true) ∧ Q (.d (.bool (es.any fun z => PyData.eqv z d)))
  | _ => False
theorem rp_flat {v : V} {d : D} (p : ReadAt K M H v d) (f : flatD d = true) : Rp K M v d := by
  cases p with
  | rp h => exact h
  | own _ _ => cases f
theorem b_in : BOk2 K (rInDD K) opIn := by
  intro M F Γ σ H x y d e Q Q' rr p q w h
  match e, w with
  | .list es, w => exact .inl ⟨d, es, p.dp rr.sM w.1, q.dp rr.sM w.2.1, w.1, w.2.1, fin_d (Q := Q) (Q' := Q') rr (.bl _) w.2.2 h⟩
  | .tuple es, w =>
    rcases w with ⟨w1 | w1, w2⟩
    · obtain ⟨m, ws, rfl, f1, f2, _⟩ := q.tuple rr.sM
      have hv := rp_flat p w1.1
      obtain ⟨g1, g2⟩ := any_of hv w1.1 f2 w1.2
      exact .inr (.inl ⟨m, ws, rfl, .inr f1, flat_of hv w1.1, g1, by rw [if_neg Bool.false_ne_true, g2]; exact fin_d (Q := Q) (Q' := Q') rr (.bl _) w2 h⟩)
    · exact .inr (.inr ⟨d, es, p.dp rr.sM w1.1, q.dp rr.sM w1.2, w1.1, w1.2, fin_d (Q := Q) (Q' := Q') rr (.bl _) w2 h⟩)
def rIsD : R2 := fun x y H Q => (y = .non ∧ Q (.bl (decide (x = .non))) H) ∨ (∃ a b, x = .bl a ∧ y = .bl b ∧ Q (.bl (decide (a = b))) H)
theorem op_isD : OpR X (compareOp .Is) rIsD := op_isN.or op_is_bl
def rNotIsD : R2 := fun x y H Q => (y = .non ∧ Q (.bl (!decide (x = .non))) H) ∨ (∃ a b, x = .bl a ∧ y = .bl b ∧ Q (.bl (!decide (a = b))) H)
theorem op_isNotD : OpR X (compareOp .IsNot) rNotIsD := op_notN.or op_isnot_bl
def isNone : D → Bool
  | .none => true
  | _ => false
def opIs : F2 := fun d e Q => match e, d with
  | .none, d => Q (.d (.bool (isNone d)))
  | .bool b, .bool a => Q (.d (.bool (decide (a = b))))
  | _, _ => False
def opIsNot : F2 := fun d e Q => match e, d with
  | .none, d => Q (.d (.bool (!isNone d)))
  | .bool b, .bool a => Q (.d (.bool (!decide (a = b))))
  | _, _ => False
theorem isNone_of {v : V} {d : D} (p : ReadAt K M H v d) : decide (v = V.non) = isNone d := by
  cases p with
  | rp h => cases h <;> rfl
  | own _ _ => rfl
theorem b_is : BOk2 K rIsD opIs := by
  intro M F Γ σ H x y d e Q Q' rr p q w h
  match e, d, w with
  | .none, d, w =>
    rw [q.none]
    exact .inl ⟨rfl, by rw [isNone_of p]; exact fin_d (Q := Q) (Q' := Q') rr (.bl _) w h⟩
  | .bool b, .bool a, w =>
    rw [p.bool, q.bool]
    exact .inr ⟨a, b, rfl, rfl, fin_d (Q := Q) (Q' := Q') rr (.bl _) w h⟩
theorem b_isNot : BOk2 K rNotIsD opIsNot := by
  intro M F Γ σ H x y d e Q Q' rr p q w h
  match e, d, w with
  | .none, d, w =>
    rw [q.none]
    exact .inl ⟨rfl, by rw [isNone_of p]; exact fin_d (Q := Q) (Q' := Q') rr (.bl _) w h⟩
  | .bool b, .bool a, w =>
    rw [p.bool, q.bool]
    exact .inr ⟨a, b, rfl, rfl, fin_d (Q := Q) (Q' := Q') rr (.bl _) w h⟩

/-! ### items, slices -/
def rIxD (K : PySem.W.Frag) : R2 := fun x y H Q => rIxL K x y H Q ∨ rIxT K x y H Q
theorem ix_D : IxR X (rIxD X.K) := ix_list.or ix_tup
def opIx : F2 := fun d e Q => match d, e with
  | .list ds, .int i => (match atI ds i with | some z => Q (.d z) | none => False)
  | .tuple ds, .int i => (match atI ds i with | some z => Q (.d z) | none => False)
  | _, _ => False
theorem atI_of {vs : List V} {ds : List D} {i : Int} {d : D} (h : RpAll K M vs ds) (e : atI ds i = some d) : ∃ v, atI vs i = some v ∧ Rp K M v d := by
  unfold atI at e ⊢
  rw [h.length]
  cases q : ixN ds.length i with
  | none => rw [q] at e; cases e
  | some j =>
    rw [q] at e
    exact h.getD e
theorem b_ix : BOk2 K (rIxD K) opIx := by
  intro M F Γ σ H x y d e Q Q' rr p q w h
  match d, e, w with
  | .list ds, .int i, w =>
    obtain ⟨l, vs, rfl, e1, e2⟩ := p.list rr.sM
    rw [q.int]
    have w' : (match atI ds i with | some z => Q (.d z) | none => False) := w
    split at w'
    · next z ez =>
      obtain ⟨v, h1, h2⟩ := atI_of e2 ez
      exact .inl ⟨l, vs, i, v, rfl, rfl, SqL.of e1, h1, fin_d (Q := Q) (Q' := Q') rr h2 w' h⟩
    · exact w'.elim
  | .tuple ds, .int i, w =>
    obtain ⟨l, vs, rfl, e1, e2, _⟩ := p.tuple rr.sM
    rw [q.int]
    have w' : (match atI ds i with | some z => Q (.d z) | none => False) := w
    split at w'
    · next z ez =>
      obtain ⟨v, h1, h2⟩ := atI_of e2 ez
      exact .inr ⟨l, vs, i, v, rfl, rfl, e1, h1, fin_d (Q := Q) (Q' := Q') rr h2 w' h⟩
    · exact w'.elim
def cutD (xs : List D) (lo hi : Option Int) : List D := (xs.drop (HT.sIx xs.length 0 lo)).take (HT.sIx xs.length xs.length hi - HT.sIx xs.length 0 lo)
theorem cut_of {vs : List V} {ds : List D} (h : RpAll K M vs ds) (lo hi : Option Int) : RpAll K M (cutV vs lo hi) (cutD ds lo hi) := by
  unfold cutV cutD
  rw [h.length]
  exact (h.drop _).take _
theorem cutD_whole {ds : List D} {lo hi : Option Int} (h : HT.sIx ds.length 0 lo = 0 ∧ HT.sIx ds.length ds.length hi = ds.length) : cutD ds lo hi = ds := by
  unfold cutD
  rw [h.1, h.2]
  simp
def rSlD (K : PySem.W.Frag) : V → Option Int → Option Int → Hp → VK → Prop := fun x lo hi H Q => rSlL K x lo hi H Q ∨ rSlA K x lo hi H Q
theorem sl_D : SlR X (rSlD X.K) := sl_list.or sl_tupA
def opSl : FS := fun d l u Q => match d with
  | .list ds => Q (.f (cutD ds l u))
  | .dict [(.none, .list ds)] => Q (.f (cutD ds l u))
  | .tuple ds => Q (.d (.tuple (cutD ds l u)))
  | _ => False
theorem s_sl : SOk K (rSlD K) opSl := by
  intro M F Γ σ H x d l u Q Q' rr p w h
  match d, w with
  | .list ds, w =>
    obtain ⟨a, vs, rfl, e1, e2⟩ := p.list rr.sM
    exact .inl ⟨a, vs, rfl, SqL.of e1, fun p hp => fin_f (Q := Q) (Q' := Q') rr hp (cut_of e2 l u) w h⟩
  | .dict [(.none, .list ds)], w =>
    cases p with
    | rp p =>
      cases p with
      | scr e1 e2 => exact .inl ⟨_, _, rfl, rr.sM.seq e1, fun p hp => fin_f (Q := Q) (Q' := Q') rr hp (cut_of e2 l u) w h⟩
  | .tuple ds, w =>
    obtain ⟨a, vs, rfl, e1, e2, e3⟩ := p.tuple rr.sM
    refine .inr ⟨a, vs, rfl, e1, fun z => ?_, fun _ p hp => fin_t (Q := Q) (Q' := Q') rr hp (cut_of e2 l u) w h⟩
    rw [e2.length] at z
    have w' : Q (.d (.tuple (cutD ds l u))) := w
    rw [cutD_whole z] at w'
    exact fin_d (Q := Q) (Q' := Q') rr e3 w' h

/-! ### built-ins -/
def bLen : FB := fun ds Q => match ds with
  | [.list xs] => Q (.d (.int xs.length))
  | [.tuple xs] => Q (.d (.int xs.length))
  | [.str y] => y.length ≤ sizeLine ∧ Q (.d (.int y.length))
  | _ => False
theorem b_len : BOk K (fun xs H Q => ∃ x n, xs = [x] ∧ LenV K x H n ∧ Q (.int n) H) bLen := by
  intro M F Γ σ H vs ds Q Q' rr p w h
  match ds, w with
  | [.list xs], w =>
    obtain ⟨v, rfl, e⟩ := rd1 p
    obtain ⟨a, ws, rfl, e1, e2⟩ := e.list rr.sM
    exact ⟨_, xs.length, rfl, .inl ⟨ws, SqL.of e1, e2.length.symm⟩, fin_d (Q := Q) (Q' := Q') rr (.int _) w h⟩
  | [.tuple xs], w =>
    obtain ⟨v, rfl, e⟩ := rd1 p
    obtain ⟨a, ws, rfl, e1, e2, _⟩ := e.tuple rr.sM
    exact ⟨_, xs.length, rfl, .inr ⟨ws, e1, e2.length.symm⟩, fin_d (Q := Q) (Q' := Q') rr (.int _) w h⟩
  | [.str y], w =>
    obtain ⟨v, rfl, e⟩ := rd1 p
    rw [e.str]
    exact ⟨_, y.length, rfl, ⟨w.1, rfl⟩, fin_d (Q := Q) (Q' := Q') rr (.int _) w.2 h⟩
def bAbs : FB := fun ds Q => match ds with
  | [.int i] => Q (.d (.int (if i < 0 then -i else i)))
  | _ => False
theorem b_abs : BOk K (fun xs H Q => ∃ i, xs = [.int i] ∧ Q (.int (if i < 0 then -i else i)) H) bAbs := by
  intro M F Γ σ H vs ds Q Q' rr p w h
  match ds, w with
  | [.int i], w =>
    obtain ⟨v, rfl, e⟩ := rd1 p
    rw [e.int]
    exact ⟨i, rfl, fin_d (Q := Q) (Q' := Q') rr (.int _) w h⟩
def bInt : FB := fun ds Q => match ds with
  | [.int i] => Q (.d (.int i))
  | [.bool k] => Q (.d (.int (if k then 1 else 0)))
  | _ => False
theorem b_int : BOk K (fun xs H Q => (∃ i, xs = [.int i] ∧ Q (.int i) H) ∨ ∃ k, xs = [.bl k] ∧ Q (.int (if k then 1 else 0)) H) bInt := by
  intro M F Γ σ H vs ds Q Q' rr p w h
  match ds, w with
  | [.int i], w =>
    obtain ⟨v, rfl, e⟩ := rd1 p
    rw [e.int]
    exact .inl ⟨i, rfl, fin_d (Q := Q) (Q' := Q') rr (.int _) w h⟩
  | [.bool i], w =>
    obtain ⟨v, rfl, e⟩ := rd1 p
    rw [e.bool]
    exact .inr ⟨i, rfl, fin_d (Q := Q) (Q' := Q') rr (.int _) w h⟩
/-- a list of ints alone -/
def allInts : List D → Option (List Int)
  | [] => some []
  | .int i :: r => (allInts r).map (i :: ·)
  | _ => none
def allBools : List D → Option (List Bool)
  | [] => some []
  | .bool i :: r => (allBools r).map (i :: ·)
  | _ => none
theorem allInts_eq : ∀ {ds : List D} {ns : List Int}, allInts ds = some ns → ds = ns.map PyData.int
  | [], ns, h => by cases h; rfl
  | .int i :: r, ns, h => by
    unfold allInts at h
    cases e : allInts r with
    | none => rw [e] at h; cases h
    | some ms => rw [e] at h; cases h; rw [allInts_eq e]; rfl
  | .none :: _, _, h => by cases h
  | .bool _ :: _, _, h => by cases h
  | .str _ :: _, _, h => by cases h
  | .list _ :: _, _, h => by cases h
  | .tuple _ :: _, _, h => by cases h
  | .dict _ :: _, _, h => by cases h
theorem allBools_eq : ∀ {ds : List D} {ns : List Bool}, allBools ds = some ns → ds = ns.map PyData.bool
  | [], ns, h => by cases h; rfl
  | .bool i :: r, ns, h => by
    unfold allBools at h
    cases e : allBools r with
    | none => rw [e] at h; cases h
    | some ms => rw [e] at h; cases h; rw [allBools_eq e]; rfl
  | .none :: _, _, h => by cases h
  | .int _ :: _, _, h => by cases h
  | .str _ :: _, _, h => by cases h
  | .list _ :: _, _, h => by cases h
  | .tuple _ :: _, _, h => by cases h
  | .dict _ :: _, _, h => by cases h
theorem allInts_map : ∀ ns : List Int, allInts (ns.map PyData.int) = some ns
  | [] => rfl
  | n :: ns => by
    show (allInts (ns.map PyData.int)).map (n :: ·) = _
    rw [allInts_map ns]; rfl
theorem allBools_map : ∀ ns : List Bool, allBools (ns.map PyData.bool) = some ns
  | [] => rfl
  | n :: ns => by
    show (allBools (ns.map PyData.bool)).map (n :: ·) = _
    rw [allBools_map ns]; rfl
def withInts (ds : List D) (k : List Int → Prop) : Prop := match allInts ds with
  | some ns => k ns
  | none => False
def withBools (ds : List D) (k : List Bool → Prop) : Prop := match allBools ds with
  | some ns => k ns
  | none => False
theorem withInts_map {ns : List Int} {k : List Int → Prop} : withInts (ns.map PyData.int) k = k ns := by
  unfold withInts; rw [allInts_map]
theorem withBools_map {ns : List Bool} {k : List Bool → Prop} : withBools (ns.map PyData.bool) k = k ns := by
  unfold withBools; rw [allBools_map]
theorem withInts_ok {ds : List D} {k : List Int → Prop} {vs : List V} (h : withInts ds k) (p : RpAll K M vs ds) : ∃ ns, vs = ns.map V.int ∧ ds = ns.map PyData.int ∧ k ns := by
  unfold withInts at h
  split at h
  · next ns e =>
    have := allInts_eq e
    subst this
    exact ⟨ns, p.ints, rfl, h⟩
  · exact h.elim
theorem withBools_ok {ds : List D} {k : List Bool → Prop} {vs : List V} (h : withBools ds k) (p : RpAll K M vs ds) : ∃ ns, vs = ns.map V.bl ∧ ds = ns.map PyData.bool ∧ k ns := by
  unfold withBools at h
  split at h
  · next ns e =>
    have := allBools_eq e
    subst this
    exact ⟨ns, p.bools, rfl, h⟩
  · exact h.elim
/-- the sum of a tuple of ints -/
def rSumT (K : PySem.W.Frag) : List V → Hp → VK → Prop := fun vs H Q => ∃ (a : Addr) (ns : List Int), vs = [V.ref a] ∧ SqT K H a (ns.map V.int) ∧ Q (.int ns.sum) H
theorem cr_sumT {X : Cx} (hc : X.calm = true) : CallR X (.builtin "sum") (rSumT X.K) := by
  intro pins s σ H vs us Q I r h
  obtain ⟨a, ns, rfl, hs, q⟩ := h
  obtain ⟨its, rv, ht, _⟩ := I.tuple hs
  rw [Vals.ref1 r]
  obtain ⟨xs, e⟩ := rv.ints.allInts.items
  have hn : numsOf (intItems xs).toList = ns := by rw [← e]; exact rv.ints.numsOf
  rw [nums_intItems] at hn
  have ht2 : s.heap.IsTuple a its.toArray := ht
  rw [e] at ht2
  refine PySem.W.ktm_sumG (I.ok.hd hc) ht2 fun h' tk t' hk => ?_
  rw [preSum_eq, List.take_of_length_le (by simp), hn]
  exact ⟨.int _, H, I.kept hk, ⟨_, rfl⟩, q⟩
def rSumD (K : PySem.W.Frag) : List V → Hp → VK → Prop := fun vs H Q => rSum K vs H Q ∨ rSumT K vs H Q
theorem cr_sumD {X : Cx} (hc : X.calm = true) : CallR X (.builtin "sum") (rSumD X.K) := fun pins s σ H vs us Q I r h => h.elim (cr_sum hc pins s σ H vs us Q I r) (cr_sumT hc pins s σ H vs us Q I r)
def bSum : FB := fun ds Q => match ds with
  | [.list xs] => withInts xs fun ns => Q (.d (.int ns.sum))
  | [.tuple xs] => withInts xs fun ns => Q (.d (.int ns.sum))
  | _ => False
theorem b_sum : BOk K (rSumD K) bSum := by
  intro M F Γ σ H vs ds Q Q' rr p w h
  match ds, w with
  | [.list xs], w =>
    obtain ⟨v, rfl, e⟩ := rd1 p
    obtain ⟨a, ws, rfl, e1, e2⟩ := e.list rr.sM
    obtain ⟨ns, rfl, rfl, k⟩ := withInts_ok w e2
    exact .inl ⟨a, ns, rfl, SqL.of e1, fin_d (Q := Q) (Q' := Q') rr (.int _) k h⟩
  | [.tuple xs], w =>
    obtain ⟨v, rfl, e⟩ := rd1 p
    obtain ⟨a, ws, rfl, e1, e2, _⟩ := e.tuple rr.sM
    obtain ⟨ns, rfl, rfl, k⟩ := withInts_ok w e2
    exact .inr ⟨a, ns, rfl, e1, fin_d (Q := Q) (Q' := Q') rr (.int _) k h⟩
def bMax : FB := fun ds Q => match ds with
  | [.list xs] => withInts xs fun ns => 0 < ns.length ∧ ∀ m, m ∈ ns → (∀ y, y ∈ ns → y ≤ m) → Q (.d (.int m))
  | _ => False
theorem b_max : BOk K (rMax K) bMax := by
  intro M F Γ σ H vs ds Q Q' rr p w h
  match ds, w with
  | [.list xs], w =>
    obtain ⟨v, rfl, e⟩ := rd1 p
    obtain ⟨a, ws, rfl, e1, e2⟩ := e.list rr.sM
    obtain ⟨ns, rfl, rfl, k⟩ := withInts_ok w e2
    exact ⟨a, ns, rfl, SqL.of e1, k.1, fun m h1 h2 => fin_d (Q := Q) (Q' := Q') rr (.int _) (k.2 m h1 h2) h⟩
def bMin : FB := fun ds Q => match ds with
  | [.list xs] => withInts xs fun ns => 0 < ns.length ∧ ∀ m, m ∈ ns → (∀ y, y ∈ ns → m ≤ y) → Q (.d (.int m))
  | _ => False
theorem b_min : BOk K (rMin K) bMin := by
  intro M F Γ σ H vs ds Q Q' rr p w h
  match ds, w with
  | [.list xs], w =>
    obtain ⟨v, rfl, e⟩ := rd1 p
    obtain ⟨a, ws, rfl, e1, e2⟩ := e.list rr.sM
    obtain ⟨ns, rfl, rfl, k⟩ := withInts_ok w e2
    exact ⟨a, ns, rfl, SqL.of e1, k.1, fun m h1 h2 => fin_d (Q := Q) (Q' := Q') rr (.int _) (k.2 m h1 h2) h⟩
def bAll : FB := fun ds Q => match ds with
  | [.list xs] => withBools xs fun ns => Q (.d (.bool (ns.all id)))
  | _ => False
theorem b_all : BOk K (rAll K) bAll := by
  intro M F Γ σ H vs ds Q Q' rr p w h
  match ds, w with
  | [.list xs], w =>
    obtain ⟨v, rfl, e⟩ := rd1 p
    obtain ⟨a, ws, rfl, e1, e2⟩ := e.list rr.sM
    obtain ⟨ns, rfl, rfl, k⟩ := withBools_ok w e2
    exact ⟨a, ns, rfl, SqL.of e1, fin_d (Q := Q) (Q' := Q') rr (.bl _) k h⟩
def bAny : FB := fun ds Q => match ds with
  | [.list xs] => withBools xs fun ns => Q (.d (.bool (ns.any id)))
  | _ => False
theorem b_any : BOk K (rAny K) bAny := by
  intro M F Γ σ H vs ds Q Q' rr p w h
  match ds, w with
  | [.list xs], w =>
    obtain ⟨v, rfl, e⟩ := rd1 p
    obtain ⟨a, ws, rfl, e1, e2⟩ := e.list rr.sM
    obtain ⟨ns, rfl, rfl, k⟩ := withBools_ok w e2
    exact ⟨a, ns, rfl, SqL.of e1, fin_d (Q := Q) (Q' := Q') rr (.bl _) k h⟩
def bSorted : FB := fun ds Q => match ds with
  | [.list xs] => withInts xs fun ns => ∀ ns' : List Int, ns'.Perm ns → ns'.Pairwise (· ≤ ·) → Q (.f (ns'.map PyData.int))
  | _ => False
theorem b_sorted : BOk K (rSortedI K) bSorted := by
  intro M F Γ σ H vs ds Q Q' rr p w h
  match ds, w with
  | [.list xs], w =>
    obtain ⟨v, rfl, e⟩ := rd1 p
    obtain ⟨a, ws, rfl, e1, e2⟩ := e.list rr.sM
    obtain ⟨ns, rfl, rfl, k⟩ := withInts_ok w e2
    exact ⟨a, ns, rfl, SqL.of e1, fun ns' p h1 h2 hp => fin_f (Q := Q) (Q' := Q') rr hp (RpAll.ofInts ns') (k ns' h1 h2) h⟩
def bTuple : FB := fun ds Q => match ds with
  | [.list xs] => Q (.d (.tuple xs))
  | [.tuple xs] => Q (.d (.tuple xs))
  | _ => False
theorem b_tuple : BOk K (fun xs H Q => ∃ p ys, xs = [.ref p] ∧ ((SqL K H p ys ∧ ∀ l, H l = none → Q (.ref l) (upd H l (.tup ys))) ∨ (SqT K H p ys ∧ Q (.ref p) H))) bTuple := by
  intro M F Γ σ H vs ds Q Q' rr p w h
  match ds, w with
  | [.list xs], w =>
    obtain ⟨v, rfl, e⟩ := rd1 p
    obtain ⟨a, ws, rfl, e1, e2⟩ := e.list rr.sM
    exact ⟨a, ws, rfl, .inl ⟨SqL.of e1, fun l hl => fin_t (Q := Q) (Q' := Q') rr hl e2 w h⟩⟩
  | [.tuple xs], w =>
    obtain ⟨v, rfl, e⟩ := rd1 p
    obtain ⟨a, ws, rfl, e1, e2, e3⟩ := e.tuple rr.sM
    exact ⟨a, ws, rfl, .inr ⟨e1, fin_d (Q := Q) (Q' := Q') rr e3 w h⟩⟩
def bList : FB := fun ds Q => match ds with
  | [.list xs] => Q (.f xs)
  | [.tuple xs] => Q (.f xs)
  | _ => False
theorem b_list : BOk K (fun xs H Q => ∃ p ys, xs = [.ref p] ∧ (SqL K H p ys ∨ SqT K H p ys) ∧ ∀ l, H l = none → Q (.ref l) (upd H l (.lst ys))) bList := by
  intro M F Γ σ H vs ds Q Q' rr p w h
  match ds, w with
  | [.list xs], w =>
    obtain ⟨v, rfl, e⟩ := rd1 p
    obtain ⟨a, ws, rfl, e1, e2⟩ := e.list rr.sM
    exact ⟨a, ws, rfl, .inl (SqL.of e1), fun l hl => fin_f (Q := Q) (Q' := Q') rr hl e2 w h⟩
  | [.tuple xs], w =>
    obtain ⟨v, rfl, e⟩ := rd1 p
    obtain ⟨a, ws, rfl, e1, e2, e3⟩ := e.tuple rr.sM
    exact ⟨a, ws, rfl, .inr e1, fun l hl => fin_f (Q := Q) (Q' := Q') rr hl e2 w h⟩
/-! ### isinstance -/
inductive Kd where
  | int | bool | str | list | tuple | dict
def Kd.name : Kd → String
  | .int => "int" | .bool => "bool" | .str => "str" | .list => "list" | .tuple => "tuple" | .dict => "dict"
def isScr : List (D × D) → Bool
  | [(.none, _)] => true
  | _ => false
def tyD : D → String
  | .none => "NoneType" | .bool _ => "bool" | .int _ => "int" | .str _ => "str" | .list _ => "list" | .tuple _ => "tuple" | .dict kvs => if isScr kvs then "list" else "dict"
def isD (k : Kd) (d : D) : Bool := match k, d with
  | .int, .int _ => true
  | .int, .bool _ => true
  | .bool, .bool _ => true
  | .str, .str _ => true
  | .list, .list _ => true
  | .tuple, .tuple _ => true
  | .list, .dict kvs => isScr kvs
  | .dict, .dict kvs => !isScr kvs
  | _, _ => false
theorem kit_isD (k : Kd) (d : D) : kitB (tyD d) k.name = some (isD k d) := by
  cases d with
  | dict kvs => cases e : isScr kvs <;> cases k <;> (simp only [tyD, Kd.name, isD, e]; decide +kernel)
  | _ => cases k <;> (simp only [tyD, Kd.name, isD]; decide +kernel)
theorem tyX_of {v : V} {d : D} (s : Same M H) (p : ReadAt K M H v d) : TyX K H v (.type (tyD d)) := by
  cases p with
  | own h1 _ => exact .base (.lst h1)
  | rp h =>
    cases h with
    | non => exact .base .non
    | bl b => exact .base (.bl b)
    | int i => exact .base (.int i)
    | str x => exact .base (.str x)
    | lst h1 _ => exact .base (.lst (s _ _ h1))
    | tup h1 _ =>
      rcases sqT_mono s h1 with (h | ⟨o, h⟩) | ⟨o, its, n, h, c, _⟩
      · exact .base (.tup h)
      · exact .fTuple h
      · exact .kTuple h c
    | scr h1 _ =>
      rcases s.seq h1 with (h | ⟨o, h⟩) | ⟨o, its, n, h, c, _⟩
      · exact .base (.lst h)
      · exact .base (.frz h)
      · exact .kList h c
def wIsi (k : Kd) (we : WE) : WE := fun Γ Q => we Γ fun o Γ1 => rs Γ1 (stl o) fun d => Q (.d (.bool (isD k d))) Γ1
theorem sim_isi {k : Kd} {te : TE} {we : WE} (he : Sim K W te we) : Sim K W (tCB (rIsi K) (tCons te (tCons (tC (.ty k.name)) tNil))) (wIsi k we) := by
  intro M F Γ σ H Q Q' r ok w h
  refine he M F Γ σ H _ _ r ok w fun o x M1 Γ1 H1 s1 r1 v1 w1 => ?_
  obtain ⟨M2, s2, r2, v2⟩ := stl_ok r1 v1
  obtain ⟨d, p, q⟩ := rs_read r2 v2 w1
  exact ⟨x, _, _, _, isD k d, rfl, .ty _, tyX_of r2.sM p, kit_ty (kit_isD k d), h (.d (.bool _)) _ M2 Γ1 H1 (s1.trans s2) r2 (.bl _) q⟩
def wIsi2 (k l : Kd) (we : WE) : WE := fun Γ Q => we Γ fun o Γ1 => rs Γ1 (stl o) fun d => Q (.d (.bool (isD k d || isD l d))) Γ1
theorem sim_isi2 {k l : Kd} {te : TE} {we : WE} (he : Sim K W te we) : Sim K W (tCB (rIsiT K) (tCons te (tCons (tTup (tCons (tC (.ty k.name)) (tCons (tC (.ty l.name)) tNil))) tNil))) (wIsi2 k l we) := by
  intro M F Γ σ H Q Q' r ok w h
  refine he M F Γ σ H _ _ r ok w fun o x M1 Γ1 H1 s1 r1 v1 w1 => ?_
  obtain ⟨M2, s2, r2, v2⟩ := stl_ok r1 v1
  obtain ⟨d, p, q⟩ := rs_read r2 v2 w1
  refine ⟨by show 2 ≤ sizeLine; decide, fun a ha => ?_⟩
  have hs : Same H1 (upd H1 a (.tup [.ty k.name, .ty l.name])) := same_upd ha
  have hty : TyX K (upd H1 a (.tup [.ty k.name, .ty l.name])) x (.type (tyD d)) := by
    have p' : ReadAt K M2 (upd H1 a (.tup [.ty k.name, .ty l.name])) x d := by
      cases p with
      | rp h => exact .rp h
      | own h1 h2 => exact .own (hs _ _ h1) h2
    exact tyX_of (r2.sM.trans hs) p'
  refine ⟨x, a, _, _, _, isD k d || isD l d, rfl, upd_same, .cons (.ty _) (.cons (.ty _) .nil), hty, ?_, h (.d (.bool _)) _ M2 Γ1 _ (s1.trans s2) (r2.ext hs) (.bl _) q⟩
  refine kitAny_cons (kit_ty (kit_isD k d)) (fun e => kitAny_cons (r := isD k d || isD l d) (kit_ty (kit_isD l d)) (fun e2 => by rw [e, e2]; exact kitAny_nil) (fun e2 => by rw [e2]; simp)) (fun e => by rw [e]; simp)
end
end Pd
end

section
set_option maxRecDepth 100000
/-! Pd7: one rule a construct: what the machine does and what it means by data. -/
namespace Pd
open PySem PySem.Spec L2
open PyProof.Rows hiding St
set_option autoImplicit false

theorem bb_len : bootBuiltins "len" = some (.builtin "len") := by decide +kernel
theorem bb_abs : bootBuiltins "abs" = some (.builtin "abs") := by decide +kernel
theorem bb_sum : bootBuiltins "sum" = some (.builtin "sum") := by decide +kernel
theorem bb_max : bootBuiltins "max" = some (.builtin "max") := by decide +kernel
theorem bb_min : bootBuiltins "min" = some (.builtin "min") := by decide +kernel
theorem bb_all : bootBuiltins "all" = some (.builtin "all") := by decide +kernel
theorem bb_any : bootBuiltins "any" = some (.builtin "any") := by decide +kernel
theorem bb_sorted : bootBuiltins "sorted" = some (.builtin "sorted") := by decide +kernel
theorem bb_isinstance : bootBuiltins "isinstance" = some (.builtin "isinstance") := by decide +kernel
theorem bb_int : bootBuiltins "int" = some (.type "int") := by decide +kernel
theorem bb_tuple : bootBuiltins "tuple" = some (.type "tuple") := by decide +kernel
theorem bb_list : bootBuiltins "list" = some (.type "list") := by decide +kernel
theorem bb_kd : ∀ k : Kd, ∀ x : Str, x = Str.ofString k.name → bootBuiltins x = some (.type k.name) := by
  intro k x e
  subst e
  cases k <;> (simp only [Kd.name]; decide +kernel)

section
variable {X : Cx} {W : XW} {a b c e : Expr} {es : List Expr} {ta tb tc te : TE} {wa wb wc we : WE} {t u : TT} {w v : WT} {tl : TA} {wl : WA} {pos p : Pos} {x : Str}

/-! ### expressions -/
theorem e_var (i : Nat) (hN : X.N[i]? = some x := by rfl) (hv : Vis X.env.scope x := by first | exact Or.inl rfl | exact Or.inr (Or.inl rfl) | exact Or.inr (Or.inr rfl)) (hd : (x == ("__debug__" : Str)) = false := by decide)
    (hc : (x == ("__classdict__" : Str)) = false := by decide) : DE X W (.Name x pos) (tVar i) (wVar i) := ⟨pe_var hN hv hd hc, sim_var i⟩
theorem e_int {i : Int} {j} : DE X W (.Constant (.int i) j pos) (tC (.int i)) (wC (.int i)) := ⟨pe_int, sim_c fun _ => .int i⟩
theorem e_bl {i : Bool} {j} : DE X W (.Constant (.bool i) j pos) (tC (.bl i)) (wC (.bool i)) := ⟨pe_bl, sim_c fun _ => .bl i⟩
theorem e_non {j} : DE X W (.Constant .none j pos) (tC .non) (wC .none) := ⟨pe_non, sim_c fun _ => .non⟩
theorem e_str {z : Str} {j} : DE X W (.Constant (.str z) j pos) (tC (.str z)) (wC (.str z)) := ⟨pe_str, sim_c fun _ => .str z⟩
/-- a constant of the module: an int -/
def GInt (mg : Str → Option Value) (x : Str) (n : Int) : Prop := ∃ t, mg x = some (.int n t)
theorem e_gint {n : Int} (h : GInt X.mg x n) (hg : Gl X x := by rfl) (hd : (x == ("__debug__" : Str)) = false := by decide) : DE X W (.Name x pos) (tC (.int n)) (wC (.int n)) :=
  let ⟨t, ht⟩ := h
  ⟨pe_glob hg ht ⟨t, rfl⟩ hd, sim_c fun _ => .int n⟩
/-- .. a tuple -/
def GTup (K : PySem.W.Frag) (mg : Str → Option Value) (x : Str) (ds : List D) : Prop := ∃ a vs, mg x = some (.ref a) ∧ (∀ H, SqT K H a vs) ∧ ∀ M, RpAll K M vs ds
theorem e_gtup {ds : List D} (h : GTup X.K X.mg x ds) (hg : Gl X x := by rfl) (hd : (x == ("__debug__" : Str)) = false := by decide) : ∃ z, DE X W (.Name x pos) (tC z) (wC (.tuple ds)) :=
  let ⟨a, vs, h1, h2, h3⟩ := h
  ⟨.ref a, pe_glob hg h1 rfl hd, sim_c fun M => .tup (h2 M) (h3 M)⟩
theorem e_add {K : PySem.W.Frag} (ha : DE X W a ta wa) (hb : DE X W b tb wb) (hK : X.K = K := by rfl) : DE X W (.BinOp a .Add b pos) (tOp (rAddD K) ta tb) (wOp opAdd wa wb) := by
  subst hK
  exact ⟨pe_op op_addD ha.pe hb.pe, sim_op b_add ha.sim hb.sim⟩
theorem e_sub (ha : DE X W a ta wa) (hb : DE X W b tb wb) : DE X W (.BinOp a .Sub b pos) (tOp (rI0 fun i j => .int (i - j)) ta tb) (wOp opSub wa wb) := ⟨pe_op op_sub ha.pe hb.pe, sim_op b_sub ha.sim hb.sim⟩
theorem e_mul (ha : DE X W a ta wa) (hb : DE X W b tb wb) : DE X W (.BinOp a .Mult b pos) (tOp rMulD ta tb) (wOp opMul wa wb) := ⟨pe_op op_mulD ha.pe hb.pe, sim_op b_mul ha.sim hb.sim⟩
theorem e_fdiv (ha : DE X W a ta wa) (hb : DE X W b tb wb) : DE X W (.BinOp a .FloorDiv b pos) (tOp (rI CDivW fun i j => .int (i / j)) ta tb) (wOp opFdiv wa wb) := ⟨pe_op op_fdivW ha.pe hb.pe, sim_op b_fdiv ha.sim hb.sim⟩
theorem e_mod (ha : DE X W a ta wa) (hb : DE X W b tb wb) : DE X W (.BinOp a .Mod b pos) (tOp (rI (fun _ j => 0 < j) fun i j => .int (i % j)) ta tb) (wOp opMod wa wb) := ⟨pe_op op_mod ha.pe hb.pe, sim_op b_mod ha.sim hb.sim⟩
theorem e_pow (ha : DE X W a ta wa) (hb : DE X W b tb wb) : DE X W (.BinOp a .Pow b pos) (tOp (rI CPow fun i j => .int (i ^ j.toNat)) ta tb) (wOp opPow wa wb) := ⟨pe_op op_pow ha.pe hb.pe, sim_op b_pow ha.sim hb.sim⟩
theorem e_neg (ha : DE X W a ta wa) : DE X W (.UnaryOp .USub a pos) (tUn (rU fun i => .int (-i)) ta) (wUn opNeg wa) := ⟨pe_un un_neg ha.pe, sim_un b_neg ha.sim⟩
/-- comparisons: the operator's own facts -/
structure Cm (X : Cx) (op : CmpOp) (r : R2) (f : F2) : Prop where
  op : OpR X (compareOp op) r
  ok : BOk2 X.K r f
theorem c_eq {K : PySem.W.Frag} {k : Nat} (hr : Room k X.A) (hK : X.K = K := by rfl) : Cm X .Eq (rEqS K) opEq := by
  subst hK
  exact ⟨(op_eqD hr.units).or op_eq, b_eq⟩
theorem c_ne {K : PySem.W.Frag} {k : Nat} (hr : Room k X.A) (hK : X.K = K := by rfl) : Cm X .NotEq (rNeS K) opNe := by
  subst hK
  exact ⟨(op_neD hr.units).or op_ne, b_ne⟩
theorem c_lt : Cm X .Lt (rI0 fun i j => .bl (decide (i < j))) opLt := ⟨op_lt, b_lt⟩
theorem c_le : Cm X .LtE (rI0 fun i j => .bl (decide (i ≤ j))) opLe := ⟨op_le, b_le⟩
theorem c_gt : Cm X .Gt (rI0 fun i j => .bl (decide (j < i))) opGt := ⟨op_gt, b_gt⟩
theorem c_ge : Cm X .GtE (rI0 fun i j => .bl (decide (j ≤ i))) opGe := ⟨op_ge, b_ge⟩
theorem c_in {K : PySem.W.Frag} {k : Nat} (hr : Room k X.A) (hK : X.K = K := by rfl) : Cm X .In (rInDD K) opIn := by
  subst hK
  exact ⟨op_inDD (by have := hr.un; omega), b_in⟩
theorem c_is : Cm X .Is rIsD opIs := ⟨op_isD, b_is⟩
theorem c_isNot : Cm X .IsNot rNotIsD opIsNot := ⟨op_isNotD, b_isNot⟩
theorem e_cmp {op : CmpOp} {r : R2} {f : F2} (h : Cm X op r f) (ha : DE X W a ta wa) (hb : DE X W b tb wb) (hm : behindInMarks op b = false := by first | exact nomark _ | with_unfolding_all rfl) : DE X W (.Compare a [op] [b] pos) (tOp r ta tb) (wOp f wa wb) :=
  ⟨pe_cmpR h.op ha.pe hb.pe hm, sim_op h.ok ha.sim hb.sim⟩
theorem t_cmp {op : CmpOp} {r : R2} {f : F2} (h : Cm X op r f) (ha : DE X W a ta wa) (hb : DE X W b tb wb) (hm : behindInMarks op b = false := by first | exact nomark _ | with_unfolding_all rfl) : DT X W (.Compare a [op] [b] pos) (tTest (tOp r ta tb)) (wTest (wOp f wa wb)) :=
  ⟨pt_cmpR h.op ha.pe hb.pe hm, sim_test (sim_op h.ok ha.sim hb.sim)⟩
theorem e_chain {op op' : CmpOp} {r r' : R2} {f f' : F2} (h : Cm X op r f) (h' : Cm X op' r' f') (ha : DE X W a ta wa) (hb : DE X W b tb wb) (hc : DE X W c tc wc) (hm : lastMarks [op, op'] [b, c] = false := by with_unfolding_all rfl) :
    DE X W (.Compare a [op, op'] [b, c] pos) (tChain r r' ta tb tc) (wChain f f' wa wb wc) := ⟨pe_chain h.op h'.op ha.pe hb.pe hc.pe hm, sim_chain h.ok h'.ok ha.sim hb.sim hc.sim⟩
theorem t_chain {op op' : CmpOp} {r r' : R2} {f f' : F2} (h : Cm X op r f) (h' : Cm X op' r' f') (ha : DE X W a ta wa) (hb : DE X W b tb wb) (hc : DE X W c tc wc) (hm : lastMarks [op, op'] [b, c] = false := by with_unfolding_all rfl) :
    DT X W (.Compare a [op, op'] [b, c] pos) (tTest (tChain r r' ta tb tc)) (wTest (wChain f f' wa wb wc)) := ⟨pt_chain h.op h'.op ha.pe hb.pe hc.pe hm, sim_test (sim_chain h.ok h'.ok ha.sim hb.sim hc.sim)⟩
theorem t_val {K : PySem.W.Frag} (ha : DE X W a ta wa) (he : ∀ whole, isTrue a X.env whole = (do let v ← whole; standAt a.pos; holding [v] (truthy v)) := by intro _; rfl) (hK : X.K = K := by rfl) : DT X W a (fun σ H Q => ta σ H fun x H' => ∃ k, TruV K x H' k ∧ Q k H') (wTruth wa) := by
  subst hK
  exact ⟨pt_truth ha.pe he, sim_truth ha.sim⟩
theorem t_not (h : DT X W a t w) : DT X W (.UnaryOp .Not a pos) (tNot t) (wNot w) := ⟨pt_not h.pt, sim_not h.sim⟩
theorem t_pw (h : DW X W a t w) : DT X W a t w := ⟨h.pw.pt, h.sim⟩
theorem w_and1 (h : DT X W a t w) : DW X W (.BoolOp .And [a] pos) t w := ⟨pw_and1 h.pt, h.sim⟩
theorem w_or1 (h : DT X W a t w) : DW X W (.BoolOp .Or [a] pos) t w := ⟨pw_or1 h.pt, h.sim⟩
theorem w_and (h : DT X W a t w) (h' : DW X W (.BoolOp .And (b :: es) pos) u v) : DW X W (.BoolOp .And (a :: b :: es) pos) (tAnd t u) (wAnd w v) := ⟨pw_and h.pt h'.pw, sim_and h.sim h'.sim⟩
theorem w_or (h : DT X W a t w) (h' : DW X W (.BoolOp .Or (b :: es) pos) u v) : DW X W (.BoolOp .Or (a :: b :: es) pos) (tOr t u) (wOr w v) := ⟨pw_or h.pt h'.pw, sim_or h.sim h'.sim⟩
theorem e_one {op} (h : DE X W a ta wa) : DE X W (.BoolOp op [a] pos) ta wa := ⟨pe_one h.pe, h.sim⟩
theorem e_and (ha : DE X W a ta wa) (hb : DE X W (.BoolOp .And (b :: es) pos) tb wb) : DE X W (.BoolOp .And (a :: b :: es) pos) (tAndV ta tb) (wAndV wa wb) := ⟨pe_and ha.pe hb.pe, sim_andV ha.sim hb.sim⟩
theorem e_or (ha : DE X W a ta wa) (hb : DE X W (.BoolOp .Or (b :: es) pos) tb wb) : DE X W (.BoolOp .Or (a :: b :: es) pos) (tOrV ta tb) (wOrV wa wb) := ⟨pe_or ha.pe hb.pe, sim_orV ha.sim hb.sim⟩
theorem e_not (ha : DE X W a ta wa) : DE X W (.UnaryOp .Not a pos) (tNotV ta) (wNotV wa) := ⟨pe_not ha.pe, sim_notV ha.sim⟩
theorem e_if (hc : DT X W c t w) (ha : DE X W a ta wa) (hb : DE X W b tb wb) : DE X W (.IfExp c a b pos) (tIf t ta tb) (wIf w wa wb) := ⟨pe_ifExp hc.pt ha.pe hb.pe, sim_if hc.sim ha.sim hb.sim⟩

/-! ### arguments, displays, items -/
theorem a_nil : DA X W [] tNil wNil := ⟨pa_nil, sim_nil⟩
theorem a_cons (ha : DE X W e te we) (hr : DA X W es tl wl) (hs : starEach (e :: es) X.env = (false, eval e X.env) :: starEach es X.env := by rfl) : DA X W (e :: es) (tCons te tl) (wCons we wl) := ⟨pa_cons ha.pe hr.pa hs, sim_cons ha.sim hr.sim⟩
theorem f_nil : DF X W [] tNil wNil := ⟨pa_nil, simf_nil⟩
theorem f_cons (ha : DE X W e te we) (hr : DF X W es tl wl) (hs : starEach (e :: es) X.env = (false, eval e X.env) :: starEach es X.env := by rfl) : DF X W (e :: es) (tCons te tl) (wFCons we wl) := ⟨pa_cons ha.pe hr.pa hs, simf_cons ha.sim hr.sim⟩
theorem e_tup {k} (h : DA X W es tl wl) : DE X W (.Tuple es k pos) (tTup tl) (wTup wl) := ⟨pe_tup h.pa, sim_tup h.sim⟩
theorem e_lst (h : DA X W es tl wl) : DE X W (.List es pos) (tLst tl) (wLst wl) := ⟨pe_lst h.pa, sim_lst h.sim⟩
theorem e_ix {K : PySem.W.Frag} (ha : DE X W a ta wa) (hb : DE X W b tb wb) (hs : PlainIx b := by exact fun _ _ => rfl) (hK : X.K = K := by rfl) : DE X W (.Subscript a b pos) (tOp (rIxD K) ta tb) (wOp opIx wa wb) := by
  subst hK
  exact ⟨pe_ix ix_D ha.pe hb.pe hs, sim_op b_ix ha.sim hb.sim⟩
theorem o_none : DO X W none tNoPart wNoPart := ⟨po_none, sim_noPart⟩
theorem o_some (h : DE X W e te we) : DO X W (some e) (tPart te) (wPart we) := ⟨po_some h.pe, sim_part h.sim⟩
theorem e_sl {K : PySem.W.Frag} {lo hi : Option Expr} {t1 t2 : TO} {w1 w2 : WO} {p2 : Pos} (ha : DE X W a ta wa) (hl : DO X W lo t1 w1) (hh : DO X W hi t2 w2) (hK : X.K = K := by rfl) : DE X W (.Subscript a (.Slice lo hi none p2) pos) (tSl (rSlD K) ta t1 t2) (wSl opSl wa w1 w2) := by
  subst hK
  exact ⟨pe_slice sl_D ha.pe hl.po hh.po, sim_sl s_sl ha.sim hl.sim hh.sim⟩
/-! ### calls -/
theorem e_call {K : PySem.W.Frag} {k : Nat} {ps : List Str} {ws : FSpec} (h : Has X.prog X.w X.K X.mg X.base k x ps (spP X.K ws)) (hr : Room k X.A) (ha : DA X W (e :: es) tl wl) (hg : Gl X x := by rfl) (hdb : (x == ("__debug__" : Str)) = false := by decide)
    (he : starEach (e :: es) X.env = (false, eval e X.env) :: starEach es X.env := by rfl) (hpl : (backTo pos (starEach es X.env)).any (·.1) = false := by rfl) (hK : X.K = K := by rfl) :
    DE X W (.Call (.Name x p) (e :: es) [] pos) (tCall (spP K ws) [] E0 tl) (wCall ws wl) := by
  subst hK
  exact let ⟨_, _, hm, hk, hb, F⟩ := h
    ⟨pe_call F hr hg hm hk hb .nil pass0 ha.pa hdb he hpl, sim_call ha.sim⟩
theorem e_call0 {K : PySem.W.Frag} {k : Nat} {ps : List Str} {ws : FSpec} (h : Has X.prog X.w X.K X.mg X.base k x ps (spP X.K ws)) (hr : Room k X.A) (hg : Gl X x := by rfl) (hdb : (x == ("__debug__" : Str)) = false := by decide) (hK : X.K = K := by rfl) :
    DE X W (.Call (.Name x p) [] [] pos) (tCall (spP K ws) [] E0 tNil) (wCall ws wNil) := by
  subst hK
  exact let ⟨_, _, hm, hk, hb, F⟩ := h
    ⟨pe_call0 F hr hg hm hk hb .nil pass0 hdb, sim_call sim_nil⟩
theorem e_callO {K : PySem.W.Frag} {k : Nat} {ps : List Str} {ws : OSpec} (h : Has X.prog X.w X.K X.mg X.base k x ps (spO X.K ws)) (hr : Room k X.A) (ha : DA X W (e :: es) tl wl) (hg : Gl X x := by rfl) (hdb : (x == ("__debug__" : Str)) = false := by decide)
    (he : starEach (e :: es) X.env = (false, eval e X.env) :: starEach es X.env := by rfl) (hpl : (backTo pos (starEach es X.env)).any (·.1) = false := by rfl) (hK : X.K = K := by rfl) :
    DE X W (.Call (.Name x p) (e :: es) [] pos) (tCall (spO K ws) [] E0 tl) (wCallO ws wl) := by
  subst hK
  exact let ⟨_, _, hm, hk, hb, F⟩ := h
    ⟨pe_call F hr hg hm hk hb .nil pass0 ha.pa hdb he hpl, sim_callO ha.sim⟩
/-- the first argument is the name of a list that the def changes -/
theorem e_callM {K : PySem.W.Frag} {k : Nat} {ps : List Str} {ws : MSpec} (i : Nat) (h : Has X.prog X.w X.K X.mg X.base k x ps (spM X.K ws)) (hr : Room k X.A) (ha : DE X W e (tVar i) (wVar i)) (hl : DA X W es tl wl) (hg : Gl X x := by rfl) (hdb : (x == ("__debug__" : Str)) = false := by decide)
    (he : starEach (e :: es) X.env = (false, eval e X.env) :: starEach es X.env := by rfl) (hpl : (backTo pos (starEach es X.env)).any (·.1) = false := by rfl) (hK : X.K = K := by rfl) :
    DE X W (.Call (.Name x p) (e :: es) [] pos) (tCall (spM K ws) [] E0 (tCons (tVar i) tl)) (wCallM ws i wl) := by
  subst hK
  exact let ⟨_, _, hm, hk, hb, F⟩ := h
    ⟨pe_call F hr hg hm hk hb .nil pass0 (pa_cons ha.pe hl.pa he) hdb he hpl, sim_callM hl.sim⟩
/-- a built-in by its rule and its meaning -/
structure Bt (X : Cx) (fn : Value) (r : List V → Hp → VK → Prop) (f : FB) : Prop where
  call : CallR X fn r
  ok : BOk X.K r f
section
variable {K : PySem.W.Frag}
theorem bt_len (hK : X.K = K := by rfl) : Bt X (.builtin "len") (fun xs H Q => ∃ x n, xs = [x] ∧ LenV K x H n ∧ Q (.int n) H) bLen := by subst hK; exact ⟨call_len, b_len⟩
theorem bt_abs : Bt X (.builtin "abs") (fun xs H Q => ∃ i, xs = [.int i] ∧ Q (.int (if i < 0 then -i else i)) H) bAbs := ⟨call_abs, b_abs⟩
theorem bt_int : Bt X (.type "int") (fun xs H Q => (∃ i, xs = [.int i] ∧ Q (.int i) H) ∨ ∃ k, xs = [.bl k] ∧ Q (.int (if k then 1 else 0)) H) bInt := ⟨call_int1, b_int⟩
theorem bt_sum (hc : X.calm = true := by rfl) (hK : X.K = K := by rfl) : Bt X (.builtin "sum") (rSumD K) bSum := by subst hK; exact ⟨cr_sumD hc, b_sum⟩
theorem bt_max (hc : X.calm = true := by rfl) (hK : X.K = K := by rfl) : Bt X (.builtin "max") (rMax K) bMax := by subst hK; exact ⟨cr_max hc, b_max⟩
theorem bt_min (hc : X.calm = true := by rfl) (hK : X.K = K := by rfl) : Bt X (.builtin "min") (rMin K) bMin := by subst hK; exact ⟨cr_min hc, b_min⟩
theorem bt_all (hc : X.calm = true := by rfl) (hK : X.K = K := by rfl) : Bt X (.builtin "all") (rAll K) bAll := by subst hK; exact ⟨cr_all hc, b_all⟩
theorem bt_any (hc : X.calm = true := by rfl) (hK : X.K = K := by rfl) : Bt X (.builtin "any") (rAny K) bAny := by subst hK; exact ⟨cr_any hc, b_any⟩
theorem bt_sorted (hK : X.K = K := by rfl) : Bt X (.builtin "sorted") (rSortedI K) bSorted := by subst hK; exact ⟨cr_sortedI, b_sorted⟩
theorem bt_tuple (hK : X.K = K := by rfl) : Bt X (.type "tuple") (fun xs H Q => ∃ p ys, xs = [.ref p] ∧ ((SqL K H p ys ∧ ∀ l, H l = none → Q (.ref l) (upd H l (.tup ys))) ∨ (SqT K H p ys ∧ Q (.ref p) H))) bTuple := by subst hK; exact ⟨call_tuple_of, b_tuple⟩
theorem bt_list (hK : X.K = K := by rfl) : Bt X (.type "list") (fun xs H Q => ∃ p ys, xs = [.ref p] ∧ (SqL K H p ys ∨ SqT K H p ys) ∧ ∀ l, H l = none → Q (.ref l) (upd H l (.lst ys))) bList := by subst hK; exact ⟨call_list_of, b_list⟩
end
theorem e_blt {id : String} {r : List V → Hp → VK → Prop} {f : FB} (h : Bt X (.builtin id) r f) (hv : bootBuiltins x = some (.builtin id)) (hm : X.mg x = none) (ha : DA X W (e :: es) tl wl) (hg : Gl X x := by rfl) (hn : x ≠ "__name__" := by decide)
    (hdb : (x == ("__debug__" : Str)) = false := by decide) (he : starEach (e :: es) X.env = (false, eval e X.env) :: starEach es X.env := by rfl) (hpl : (backTo pos (starEach es X.env)).any (·.1) = false := by rfl) :
    DE X W (.Call (.Name x p) (e :: es) [] pos) (tCB r tl) (wCB f wl) := ⟨pe_callB h.call hg hm hv ha.pa hn hdb he hpl, sim_cb h.ok ha.sim⟩
theorem e_typ {T : String} {r : List V → Hp → VK → Prop} {f : FB} (h : Bt X (.type T) r f) (hv : bootBuiltins x = some (.type T)) (hm : X.mg x = none) (ha : DA X W (e :: es) tl wl) (hg : Gl X x := by rfl) (hn : x ≠ "__name__" := by decide)
    (hdb : (x == ("__debug__" : Str)) = false := by decide) (he : starEach (e :: es) X.env = (false, eval e X.env) :: starEach es X.env := by rfl) (hpl : (backTo pos (starEach es X.env)).any (·.1) = false := by rfl) :
    DE X W (.Call (.Name x p) (e :: es) [] pos) (tCB r tl) (wCB f wl) := ⟨pe_callTy h.call hg hm hv ha.pa hn hdb he hpl, sim_cb h.ok ha.sim⟩
/-- isinstance(e, T) -/
theorem e_isi {K : PySem.W.Frag} (k : Kd) {y : Str} {p2 : Pos} (hm : X.mg x = none) (hmy : X.mg y = none) (ha : DE X W e te we) (hx : x = Str.ofString "isinstance" := by rfl) (hy : y = Str.ofString k.name := by rfl) (hg : Gl X x := by rfl) (hgy : Gl X y := by rfl) (hn : x ≠ "__name__" := by decide) (hny : y ≠ "__name__" := by decide)
    (hdb : (x == ("__debug__" : Str)) = false := by decide) (hdy : (y == ("__debug__" : Str)) = false := by decide) (he : starEach [e, .Name y p2] X.env = (false, eval e X.env) :: starEach [.Name y p2] X.env := by rfl) (hpl : (backTo pos (starEach [.Name y p2] X.env)).any (·.1) = false := by rfl)
    (hs2 : starEach [.Name y p2] X.env = (false, eval (.Name y p2) X.env) :: starEach [] X.env := by rfl) (hK : X.K = K := by rfl) :
    DE X W (.Call (.Name x p) [e, .Name y p2] [] pos) (tCB (rIsi K) (tCons te (tCons (tC (.ty k.name)) tNil))) (wIsi k we) := by
  subst hK
  exact ⟨pe_callB call_isi hg hm (by rw [hx]; exact bb_isinstance) (pa_cons ha.pe (pa_cons (pe_bltn hgy hmy (bb_kd k y hy) rfl hny hdy) pa_nil hs2) he) hn hdb he hpl, sim_isi ha.sim⟩
/-- isinstance(e, (T, U)) -/
theorem e_isi2 {K : PySem.W.Frag} (k l : Kd) {y z : Str} {p2 p3 p4 : Pos} {n} (hm : X.mg x = none) (hmy : X.mg y = none) (hmz : X.mg z = none) (ha : DE X W e te we) (hx : x = Str.ofString "isinstance" := by rfl) (hy : y = Str.ofString k.name := by rfl) (hz : z = Str.ofString l.name := by rfl) (hg : Gl X x := by rfl) (hgy : Gl X y := by rfl) (hgz : Gl X z := by rfl)
    (hn : x ≠ "__name__" := by decide) (hny : y ≠ "__name__" := by decide) (hnz : z ≠ "__name__" := by decide) (hdb : (x == ("__debug__" : Str)) = false := by decide) (hdy : (y == ("__debug__" : Str)) = false := by decide) (hdz : (z == ("__debug__" : Str)) = false := by decide)
    (he : starEach [e, .Tuple [.Name y p2, .Name z p3] n p4] X.env = (false, eval e X.env) :: starEach [.Tuple [.Name y p2, .Name z p3] n p4] X.env := by rfl) (hpl : (backTo pos (starEach [.Tuple [.Name y p2, .Name z p3] n p4] X.env)).any (·.1) = false := by rfl)
    (hs2 : starEach [.Tuple [.Name y p2, .Name z p3] n p4] X.env = (false, eval (.Tuple [.Name y p2, .Name z p3] n p4) X.env) :: starEach [] X.env := by rfl)
    (hs3 : starEach [.Name y p2, .Name z p3] X.env = (false, eval (.Name y p2) X.env) :: starEach [.Name z p3] X.env := by rfl) (hs4 : starEach [.Name z p3] X.env = (false, eval (.Name z p3) X.env) :: starEach [] X.env := by rfl) (hK : X.K = K := by rfl) :
    DE X W (.Call (.Name x p) [e, .Tuple [.Name y p2, .Name z p3] n p4] [] pos) (tCB (rIsiT K) (tCons te (tCons (tTup (tCons (tC (.ty k.name)) (tCons (tC (.ty l.name)) tNil))) tNil))) (wIsi2 k l we) := by
  subst hK
  exact ⟨pe_callB call_isiT hg hm (by rw [hx]; exact bb_isinstance) (pa_cons ha.pe (pa_cons (pe_tup (pa_cons (pe_bltn hgy hmy (bb_kd k y hy) rfl hny hdy) (pa_cons (pe_bltn hgz hmz (bb_kd l z hz) rfl hnz hdz) pa_nil hs4) hs3)) pa_nil hs2) he) hn hdb he hpl, sim_isi2 ha.sim⟩
/-- methods of an owned list: mk is the library's rule at this call -/
theorem e_append {K : PySem.W.Frag} {C : Expr} (i : Nat) (he : DE X W e te we) (mk : PA X [e] (tCons te tNil) → PE X C (tBM X.K "list" rAppend (tVar i) (tCons te tNil))) (hs : starEach [e] X.env = (false, eval e X.env) :: starEach [] X.env := by rfl) (hK : X.K = K := by rfl) :
    DE X W C (tBM K "list" rAppend (tVar i) (tCons te tNil)) (wAppend i we) := by
  subst hK
  exact ⟨mk (pa_cons he.pe pa_nil hs), sim_append he.sim⟩
theorem e_extend {K : PySem.W.Frag} {C : Expr} (i : Nat) (he : DE X W e te we) (mk : PA X [e] (tCons te tNil) → PE X C (tBM X.K "list" rExtend (tVar i) (tCons te tNil))) (hs : starEach [e] X.env = (false, eval e X.env) :: starEach [] X.env := by rfl) (hK : X.K = K := by rfl) :
    DE X W C (tBM K "list" rExtend (tVar i) (tCons te tNil)) (wExtend i we) := by
  subst hK
  exact ⟨mk (pa_cons he.pe pa_nil hs), sim_extend he.sim⟩
theorem e_pop {K : PySem.W.Frag} {C : Expr} (i : Nat) (h : PE X C (tBM0 X.K "list" rPop (tVar i))) (hK : X.K = K := by rfl) : DE X W C (tBM0 K "list" rPop (tVar i)) (wPop i) := by
  subst hK
  exact ⟨h, sim_pop⟩
end

/-! ### what is walked, targets -/
section
variable {X : Cx} {W : XW} {a b e tg l : Expr} {es : List Expr} {te : TE} {we : WE} {tl : TA} {wl : WA} {pos p : Pos} {x : Str}
theorem pi_sq (hl : PE X l te) : PI X tg l (iSq X.K te) := by
  refine ⟨fun pins s σ H R I h => thn (hl.run pins s σ H _ I h) fun v s1 ⟨x, H1, I1, r1, q1⟩ => ?_⟩
  obtain ⟨a, rfl, q⟩ := q1
  cases r1
  have new : FpOk X pins H1 s1.heap.objs.size := I1.fpOk (Nat.le_refl _) (I1.hok.fresh (Nat.le_refl _))
  rcases q with ⟨xs, hq, q⟩ | ⟨xs, hq, q⟩
  · obtain ⟨its, _, pl, _⟩ := I1.list hq
    refine wpAny_pyIter_list pl.isList ⟨_, [_], _, _, H1, rfl, I1.kept (t' := s1.toks) (fun b o e => Heap.get?_push_of_some _ e), turn_list a _, ⟨_, Heap.get?_push_size _ rfl, rfl, rfl⟩, fun b hb => ?_, q⟩
    cases List.mem_singleton.mp hb
    exact new
  · obtain ⟨its, _, pt, _⟩ := I1.tuple hq
    refine wpAny_pyIter_tuple (items := its.toArray) pt ⟨_, [_], _, _, H1, rfl, I1.kept (t' := s1.toks) (fun b o e => Heap.get?_push_of_some _ e), turn_tuple a _, ⟨_, Heap.get?_push_size _ rfl, rfl, rfl⟩, fun b hb => ?_, q⟩
    cases List.mem_singleton.mp hb
    exact new
theorem i_sq {K : PySem.W.Frag} (h : DE X W l te we) (hK : X.K = K := by rfl) : DI X W tg l (iSq K te) (wSq we) := by
  subst hK
  exact ⟨pi_sq h.pe, simi_sq h.sim⟩
theorem i_range1 (hm : X.mg "range" = none) (h : DA X W [a] tl wl) (hg : Gl X "range" := by rfl) (hs : starEach [a] X.env = [(false, eval a X.env)] := by rfl) : DI X W tg (.Call (.Name "range" p) [a] [] pos) (iRng1 tl) (wRange1 wl) := ⟨pi_range1 hg hm h.pa hs, simi_range1 h.sim⟩
theorem i_range2 (hm : X.mg "range" = none) (h : DA X W [a, b] tl wl) (hg : Gl X "range" := by rfl) (hs : starEach [a, b] X.env = [(false, eval a X.env), (false, eval b X.env)] := by rfl) (hs2 : starEach [b] X.env = [(false, eval b X.env)] := by rfl) :
    DI X W tg (.Call (.Name "range" p) [a, b] [] pos) (iRng2 tl) (wRange2 wl) := ⟨pi_range2 hg hm h.pa hs hs2, simi_range2 h.sim⟩
theorem i_zip {K : PySem.W.Frag} {elts : List Expr} {kk : Nat} {tpos : Pos} (hm : X.mg "zip" = none) (h : DA X W [a, b] tl wl) (hg : Gl X "zip" := by rfl) (hs : starEach [a, b] X.env = (false, eval a X.env) :: starEach [b] X.env := by rfl) (hpl : (backTo pos (starEach [b] X.env)).any (·.1) = false := by rfl) (hK : X.K = K := by rfl) :
    DI X W (.Tuple elts kk tpos) (.Call (.Name "zip" p) [a, b] [] pos) (RZ.iZipA K tl) (wZip wl) := by
  subst hK
  exact ⟨RZ.pi_zipA hg hm h.pa hs hpl, simi_zip h.sim⟩
theorem i_enum {K : PySem.W.Frag} {elts : List Expr} {kk : Nat} {tpos : Pos} (hm : X.mg "enumerate" = none) (h : DA X W [a] tl wl) (hg : Gl X "enumerate" := by rfl) (hs : starEach [a] X.env = [(false, eval a X.env)] := by rfl) (hK : X.K = K := by rfl) :
    DI X W (.Tuple elts kk tpos) (.Call (.Name "enumerate" p) [a] [] pos) (iEnum K tl) (wEnum wl) := by
  subst hK
  exact ⟨pi_enum hg hm h.pa hs, simi_enum h.sim⟩
theorem g_name (i : Nat) (hN : X.N.Nodup) (hi : X.N[i]? = some x := by rfl) (hx : Loc X.env.scope x := by first | exact Or.inl rfl | exact Or.inr rfl) (hf : X.fn x = true ∨ X.env.scope.names.lookup x = some .local := by first | exact .inl rfl | exact .inr rfl) : DG X (.Name x pos) (gName i) [i] (wgName i) :=
  ⟨pg_name hN hi hx hf, simg_name i⟩
theorem gs_nil : DGs X [] gNil [] wgNil := ⟨pgs_nil, simg_nil⟩
theorem gs_cons {t : TG} {u : TGs} {is js : List Nat} {w : WG} {ws : WGs} (h : DG X e t is w) (h' : DGs X es u js ws) (hs : (assignEach (e :: es) X.env).map (·.2) = assign e X.env :: (assignEach es X.env).map (·.2) := by rfl) : DGs X (e :: es) (gCons t u) (is ++ js) (wgCons w ws) :=
  ⟨pgs_cons h.pg h'.pgs hs, simg_cons h.sim h'.sim⟩
theorem g_tup {k n : Nat} {u : TGs} {is : List Nat} {ws : WGs} {K : PySem.W.Frag} (hc : X.calm = true) (h : DGs X es u is ws) (hK : X.K = K := by rfl) (hn : (assignEach es X.env).length = n := by rfl) (hst : (assignEach es X.env).findIdx? (·.1) = none := by rfl) : DG X (.Tuple es k pos) (gTup K n u) is (wgTup n ws) := by
  subst hK
  exact ⟨pg_tup hc h.pgs hn hst, simg_tup h.sim⟩
end

/-! ### comprehensions -/
section
variable {X : Cx} {W : XW}
structure DTs (X : Cx) (W : XW) (ifs : List Expr) (t : TT) (w : WT) : Prop where
  pts : PTs X ifs t
  sim : SimT X.K W t w
theorem ts_nil : DTs X W [] tYes wYes := ⟨pts_nil, sim_yes⟩
theorem ts_one {c : Expr} {t : TT} {w : WT} (h : DT X W c t w) : DTs X W [c] t w := ⟨pts_one h.pt, h.sim⟩
variable {elt tg iter : Expr} {ifs : List Expr} {scope : Scope} {own : List (Str × Nat)} {pos : Pos} {ti : TI} {wi : WI} {g : TG} {is : List Nat} {wg : WG} {tt : TT} {wt : WT} {te : TE} {we : WE}
theorem e_lc (own : List (Str × Nat)) (hc : X.calm = true) (hN : X.N.Nodup) (hi : DI X W tg iter ti wi) (ok : BlkOk X.N X.env.scope scope own) (hg : ∀ (s : Shared) (H : Hp) (C : Addr) (cl : List (Str × Addr)) (fp : List Addr), DG (X.blk s H scope (compEnvC scope cl C X.env) fp) tg g is wg) (ht : ∀ (s : Shared) (H : Hp) (C : Addr) (cl : List (Str × Addr)) (fp : List Addr), DTs (X.blk s H scope (compEnvC scope cl C X.env) fp) W ifs tt wt) (he : ∀ (s : Shared) (H : Hp) (C : Addr) (cl : List (Str × Addr)) (fp : List Addr), DE (X.blk s H scope (compEnvC scope cl C X.env) fp) W elt te we)
    (hsub : ∀ j ∈ is, j ∈ own.map (·.2) := by decide) (hs : ∀ x, foldedSetIterable iter X.env x = pure x := by intro _; rfl) :
    DE X W (.ListComp elt [⟨tg, iter, ifs, 0⟩] scope pos) (tLc ti g tt te (own.map (·.2))) (wLc wi wg wt we (own.map (·.2))) :=
  ⟨pe_lc hc hN hi.pi ok (fun s H C cl fp => (hg s H C cl fp).pg) (fun s H C cl fp => (ht s H C cl fp).pts) (fun s H C cl fp => (he s H C cl fp).pe) hs,
   sim_lc hi.sim (hg X.s_0 X.H_0 0 [] []).sim hsub (ht X.s_0 X.H_0 0 [] []).sim (he X.s_0 X.H_0 0 [] []).sim⟩
theorem s_setLc (i : Nat) (own : List (Str × Nat)) {y : Str} {py spos : Pos} (hc : X.calm = true) (hN : X.N.Nodup) (hi : DI X W tg iter ti wi) (ok : BlkOk X.N X.env.scope scope own) (hg : ∀ (s : Shared) (H : Hp) (C : Addr) (cl : List (Str × Addr)) (fp : List Addr), DG (X.blk s H scope (compEnvC scope cl C X.env) fp) tg g is wg) (ht : ∀ (s : Shared) (H : Hp) (C : Addr) (cl : List (Str × Addr)) (fp : List Addr), DTs (X.blk s H scope (compEnvC scope cl C X.env) fp) W ifs tt wt) (he : ∀ (s : Shared) (H : Hp) (C : Addr) (cl : List (Str × Addr)) (fp : List Addr), DE (X.blk s H scope (compEnvC scope cl C X.env) fp) W elt te we)
    (hy : X.N[i]? = some y := by rfl) (hyl : X.env.scope.names.lookup y = some .local := by rfl) (hsw : swapsWith (.ListComp elt [⟨tg, iter, ifs, 0⟩] scope pos) (some (.Name y py)) spos.line X.env = pure true := by exact sw_true rfl rfl rfl (by decide +kernel))
    (hsub : ∀ j ∈ is, j ∈ own.map (·.2) := by decide) (hs : ∀ x, foldedSetIterable iter X.env x = pure x := by intro _; rfl) :
    DS X W (.Assign [.Name y py] (.ListComp elt [⟨tg, iter, ifs, 0⟩] scope pos) spos) (tAsg (tLc ti g tt te (own.map (·.2))) (gName i)) (wSet i (wLc wi wg wt we (own.map (·.2)))) :=
  ⟨ps_setLc hc hN hy hyl hsw hi.pi ok (fun s H C cl fp => (hg s H C cl fp).pg) (fun s H C cl fp => (ht s H C cl fp).pts) (fun s H C cl fp => (he s H C cl fp).pe) hs,
   sim_set (sim_lc hi.sim (hg X.s_0 X.H_0 0 [] []).sim hsub (ht X.s_0 X.H_0 0 [] []).sim (he X.s_0 X.H_0 0 [] []).sim)⟩
end

/-! ### statements -/
section
variable {X : Cx} {W : XW} {st : Stmt} {rest body : List Stmt} {t u : TS} {w v : WS} {e c o ix : Expr} {te ti : TE} {we wx : WE} {tc : TT} {wc : WT} {tl : TA} {wl : WA} {pos : Pos} {x y z : Str}
theorem ss_nil : DSs X W [] tNext wNext := ⟨pss_nil, sim_next⟩
theorem ss_cons (h : DS X W st t w) (h' : DSs X W rest u v) : DSs X W (st :: rest) (tSeq t u) (wSeq w v) := ⟨pss_cons h.ps h'.pss, sim_seq h.sim h'.sim⟩
theorem ss_one (h : DS X W st t w) : DSs X W [st] t w := ⟨pss_one h.ps, h.sim⟩
theorem ss_never : DSs X W body tNever wNever := ⟨pss_never, sim_never⟩
theorem s_never : DS X W st tNever wNever := ⟨ps_never, sim_never⟩
theorem s_pass : DS X W (.Pass pos) tNext wNext := ⟨ps_pass, sim_next⟩
theorem s_break : DS X W (.Break pos) tBreak wBreak := ⟨ps_break, sim_break⟩
theorem s_cont : DS X W (.Continue pos) tCont wCont := ⟨ps_continue, sim_cont⟩
theorem s_expr (h : DE X W e te we) (hs : swapsWith e none pos.line X.env = pure false := by rfl) : DS X W (.Expr e pos) (tDrop te) (wDrop we) := ⟨ps_expr h.pe hs, sim_drop h.sim⟩
theorem s_ret (h : DE X W e te we) : DS X W (.Return (some e) pos) (tRet te) (wRet we) := ⟨ps_ret h.pe, sim_ret h.sim⟩
theorem s_retO (h : DE X W e te we) : DS X W (.Return (some e) pos) (tRet te) (wRetO we) := ⟨ps_ret h.pe, sim_retO h.sim⟩
theorem s_retN : DS X W (.Return none pos) tRetN wRetN := ⟨ps_retN, sim_retN⟩
theorem s_if (h : DT X W c tc wc) (ha : DSs X W body t w) (hb : DSs X W rest u v) : DS X W (.If c body rest pos) (tIfS tc t u) (wIfS wc w v) := ⟨ps_if h.pt ha.pss hb.pss, sim_ifS h.sim ha.sim hb.sim⟩
theorem s_set (i : Nat) {py : Pos} (hN : X.N.Nodup) (h : DE X W e te we) (hi : X.N[i]? = some x := by rfl) (hx : Loc X.env.scope x := by first | exact Or.inl rfl | exact Or.inr rfl) (hs : swapsWith e (some (.Name x py)) pos.line X.env = pure false := by rfl)
    (hf : X.fn x = true ∨ X.env.scope.names.lookup x = some .local := by first | exact .inl rfl | exact .inr rfl) : DS X W (.Assign [.Name x py] e pos) (tAsg te (gName i)) (wSet i we) := ⟨ps_set hN hi hx h.pe hs hf, sim_set h.sim⟩
theorem s_asg {tg : Expr} {g : TG} {is : List Nat} {wg : WG} (h : DE X W e te we) (hg : DG X tg g is wg) (hs : swapsWithSole [tg] e pos.line X.env = pure false := by rfl) (hw : swappedStores [tg] e X.env = pure none := by rfl) (h1 : (assignEach [tg] X.env).map (·.2) = [assign tg X.env] := by rfl) :
    DS X W (.Assign [tg] e pos) (tAsg te g) (wAsg we wg) := ⟨ps_asg h.pe hg.pg hs hw h1, sim_asg h.sim hg.sim⟩
theorem s_par2 (i j : Nat) {a b : Expr} {px py pt : Pos} {kt k2 pt2} (hc : X.calm = true) (hN : X.N.Nodup) (h : DF X W [a, b] tl wl) (hi : X.N[i]? = some x := by rfl) (hj : X.N[j]? = some y := by rfl) (hij : i ≠ j := by decide) (hx : X.env.scope.names.lookup x = some .local := by rfl) (hy : X.env.scope.names.lookup y = some .local := by rfl)
    (hw : swappedStores [.Tuple [.Name x px, .Name y py] kt pt] (.Tuple [a, b] k2 pt2) X.env = pure (some [x, y]) := by rfl) (hs : swapsWithSole [.Tuple [.Name x px, .Name y py] kt pt] (.Tuple [a, b] k2 pt2) pos.line X.env = pure false := by rfl) :
    DS X W (.Assign [.Tuple [.Name x px, .Name y py] kt pt] (.Tuple [a, b] k2 pt2) pos) (tPar i j tl) (wPar [i, j] wl) := ⟨ps_par hc hN hi hj hij hx hy h.pa hw hs, sim_par2 h.sim⟩
theorem s_par3 (i j l : Nat) {a b d : Expr} {px py pz pt : Pos} {kt k2 pt2} (hc : X.calm = true) (hN : X.N.Nodup) (h : DF X W [a, b, d] tl wl) (hi : X.N[i]? = some x := by rfl) (hj : X.N[j]? = some y := by rfl) (hl : X.N[l]? = some z := by rfl) (hij : i ≠ j := by decide) (hil : i ≠ l := by decide) (hjl : j ≠ l := by decide)
    (hx : X.env.scope.names.lookup x = some .local := by rfl) (hy : X.env.scope.names.lookup y = some .local := by rfl) (hz : X.env.scope.names.lookup z = some .local := by rfl)
    (hw : swappedStores [.Tuple [.Name x px, .Name y py, .Name z pz] kt pt] (.Tuple [a, b, d] k2 pt2) X.env = pure (some [x, y, z]) := by rfl) (hs : swapsWithSole [.Tuple [.Name x px, .Name y py, .Name z pz] kt pt] (.Tuple [a, b, d] k2 pt2) pos.line X.env = pure false := by rfl) :
    DS X W (.Assign [.Tuple [.Name x px, .Name y py, .Name z pz] kt pt] (.Tuple [a, b, d] k2 pt2) pos) (tPar3 i j l tl) (wPar [i, j, l] wl) := ⟨ps_par3 hc hN hi hj hl hij hil hjl hx hy hz h.pa hw hs, sim_par3 h.sim⟩
/-- names one behind another -/
theorem gns_nil : PGs X [] (gNames []) := pgs_nil
theorem gns_cons (i : Nat) {es : List Expr} {is : List Nat} {px : Pos} (hN : X.N.Nodup) (h' : PGs X es (gNames is)) (hi : X.N[i]? = some x := by rfl) (hx : Loc X.env.scope x := by first | exact Or.inl rfl | exact Or.inr rfl) (hf : X.fn x = true ∨ X.env.scope.names.lookup x = some .local := by first | exact .inl rfl | exact .inr rfl)
    (hs : (assignEach (.Name x px :: es) X.env).map (·.2) = assign (.Name x px) X.env :: (assignEach es X.env).map (·.2) := by rfl) : PGs X (.Name x px :: es) (gNames (i :: is)) := pgs_cons (pg_name hN hi hx hf) h' hs
theorem s_parT {K : PySem.W.Frag} (n : Nat) {es ts : List Expr} {is : List Nat} {k k2 : Nat} {tp p2 : Pos} (hc : X.calm = true) (h : DF X W es tl wl) (hg : PGs X ts (gNames is)) (hn : (assignEach ts X.env).length = n := by rfl) (hst : (assignEach ts X.env).findIdx? (·.1) = none := by rfl) (hln : is.length = n := by rfl) (hsm : n ≤ 1000 := by decide)
    (hs : swapsWithSole [.Tuple ts k tp] (.Tuple es k2 p2) pos.line X.env = pure false := by rfl) (hw : swappedStores [.Tuple ts k tp] (.Tuple es k2 p2) X.env = pure none := by rfl) (h1 : (assignEach [.Tuple ts k tp] X.env).map (·.2) = [assign (.Tuple ts k tp) X.env] := by rfl) (hK : X.K = K := by rfl) :
    DS X W (.Assign [.Tuple ts k tp] (.Tuple es k2 p2) pos) (tAsg (tTup tl) (gTup K n (gNames is))) (wPar is wl) := by
  subst hK
  exact ⟨ps_asg (pe_tup h.pa) (pg_tup hc hg hn hst) hs hw h1, sim_parT h.sim hln hsm⟩
/-- x op= e -/
structure Ip (X : Cx) (op : Operator) (r : TIp) (f : F2) : Prop where
  op : PIp X op r
  ok : BOk2 X.K r f
theorem ip_plus : Ip X .Add (ipI fun i j => i + j) (fun d e Q => match d, e with | .int i, .int j => True ∧ Q (.d (.int (i + j))) | _, _ => False) := ⟨ip_add, bok_int (fun _ _ _ => .int _) fun i j H Q _ q => ⟨i, j, rfl, rfl, q⟩⟩
theorem ip_minus : Ip X .Sub (ipI fun i j => i - j) (fun d e Q => match d, e with | .int i, .int j => True ∧ Q (.d (.int (i - j))) | _, _ => False) := ⟨ip_sub, bok_int (fun _ _ _ => .int _) fun i j H Q _ q => ⟨i, j, rfl, rfl, q⟩⟩
theorem s_aug (i : Nat) {op : Operator} {r : TIp} {f : F2} {py : Pos} (hN : X.N.Nodup) (ho : Ip X op r f) (h : DE X W e te we) (hi : X.N[i]? = some x := by rfl) (hx : Loc X.env.scope x := by first | exact Or.inl rfl | exact Or.inr rfl) (hf : X.fn x = true ∨ X.env.scope.names.lookup x = some .local := by first | exact .inl rfl | exact .inr rfl) :
    DS X W (.AugAssign (.Name x py) op e pos) (tAug i te r) (wAug i f we) := ⟨ps_aug hN hi hx h.pe ho.op hf, sim_aug ho.ok h.sim⟩
/-- xs[i] = e, xs an owned list's name -/
theorem s_setIx (i : Nat) {ps : Pos} (h : DE X W e te we) (ho : DE X W o (tVar i) (wVar i)) (hx : DE X W ix ti wx)
    (ha : ∀ v, assign (.Subscript o ix ps) X.env v = (do
      let ov ← holding [v] (eval o X.env)
      let iv ← holding [v, ov] (eval ix X.env)
      standAt ps
      holding [v, ov, iv] (setItem ov iv v)
      release [v, ov, iv] []) := by intro _; rfl)
    (hs : swapsWithSole [.Subscript o ix ps] e pos.line X.env = pure false := by rfl) (hw : swappedStores [.Subscript o ix ps] e X.env = pure none := by rfl) (h1 : (assignEach [.Subscript o ix ps] X.env).map (·.2) = [assign (.Subscript o ix ps) X.env] := by rfl) :
    DS X W (.Assign [.Subscript o ix ps] e pos) (tAsg te (gSub (tVar i) ti rSetL)) (wSetIx i we wx) := ⟨ps_asg h.pe (pg_sub ho.pe hx.pe set_list ha) hs hw h1, sim_setIx h.sim hx.sim⟩
theorem s_while (hc : DT X W c tc wc) (hb : DSs X W body t w) (hp : PassesOwn (model X.prog X.w) X.A X.env X.xe := by exact PassesOwn.never) : DS X W (.While c body [] pos) (tWhile tc t) (wWhile wc w) := ⟨ps_while hp hc.pt hb.pss, sim_while hc.sim hb.sim⟩
theorem s_for {tg iter : Expr} {ti : TI} {wi : WI} {g : TG} {is : List Nat} {wg : WG} (hc : X.calm = true) (hi : DI X W tg iter ti wi) (hg : DG X tg g is wg) (hb : DSs X W body t w) (hs : ∀ x, foldedSetIterable iter X.env x = pure x := by intro _; rfl)
    (hp : PassesOwn (model X.prog X.w) X.A X.env X.xe := by exact PassesOwn.never) : DS X W (.For tg iter body [] pos) (tFor ti g t) (wFor wi wg w) := ⟨ps_for hp hc hi.pi hg.pg hb.pss hs, sim_for hi.sim hg.sim hb.sim⟩
end
end Pd
end

section
set_option maxRecDepth 100000
/-! Pd8: further built-ins. -/
namespace Pd
open PySem PySem.Spec L2
open PyProof.Rows hiding St
set_option autoImplicit false

def ipAdd : F2 := fun d e Q => match d, e with | .int i, .int j => True ∧ Q (.d (.int (i + j))) | _, _ => False
def ipSub : F2 := fun d e Q => match d, e with | .int i, .int j => True ∧ Q (.d (.int (i - j))) | _, _ => False
section
variable {X : Cx} {K : PySem.W.Frag} {W : XW} {M M' F F' H H' : Hp} {Γ Γ' : Sl} {σ σ' : L2.St}
/-! ### xs.count(k), of ints -/
def isLst : D → Prop
  | .list _ => True
  | _ => False
def wCount (we wa : WE) : WE := fun Γ Q => we Γ fun o Γ1 => rs Γ1 (stl o) fun d0 => isLst d0 ∧ wa Γ1 fun o2 Γ2 => rs Γ2 (stl o) fun d1 => rs Γ2 o2 fun d2 => match d1, d2 with
  | .list xs, .int k => withInts xs fun ns => Q (.d (.int (ns.count k : Nat))) Γ2
  | _, _ => False
theorem sim_count {te ta : TE} {we wa : WE} (he : Sim K W te we) (ha : Sim K W ta wa) : Sim K W (tBM K "list" (rCntI K) te (tCons ta tNil)) (wCount we wa) := by
  intro M F Γ σ H Q Q' r ok w h
  refine he M F Γ σ H _ _ r ok w fun o x M1 Γ1 H1 s1 r1 v1 w1 => ?_
  obtain ⟨M1', s1', r1', v1'⟩ := stl_ok r1 v1
  obtain ⟨d0, p0, q0, w2⟩ := rs_read r1' v1' w1
  refine ⟨?_, ha M1' F Γ1 σ H1 _ _ r1' (XW.up ok (s1.trans s1')) w2 fun o2 y M2 Γ2 H2 s2 r2 v2 w3 => ?_⟩
  · cases d0 with
    | list xs =>
      obtain ⟨a, vs, rfl, e1, _⟩ := p0.list r1'.sM
      exact tyV_list e1
    | _ => exact q0.elim
  · obtain ⟨d1, p1, w4⟩ := rs_read r2 (stl_mono v1' s2) w3
    obtain ⟨d2, p2, w5⟩ := rs_read r2 v2 w4
    match d1, d2, w5 with
    | .list xs, .int k, w5 =>
      obtain ⟨a, vs, rfl, e1, e2⟩ := p1.list r2.sM
      obtain ⟨ns, rfl, rfl, q⟩ := withInts_ok w5 e2
      rw [p2.int]
      exact ⟨a, ns, k, rfl, rfl, SqL.of e1, h (.d (.int _)) _ M2 Γ2 H2 (s1.trans (s1'.trans s2)) r2 (.int _) q⟩
theorem e_count {e a C : Expr} {te ta : TE} {we wa : WE} (he : DE X W e te we) (ha : DE X W a ta wa) (mk : PE X e te → PA X [a] (tCons ta tNil) → PE X C (tBM X.K "list" (rCntI X.K) te (tCons ta tNil))) (hs : starEach [a] X.env = (false, eval a X.env) :: starEach [] X.env := by rfl) (hK : X.K = K := by rfl) :
    DE X W C (tBM K "list" (rCntI K) te (tCons ta tNil)) (wCount we wa) := by
  subst hK
  exact ⟨mk he.pe (pa_cons ha.pe pa_nil hs), sim_count he.sim ha.sim⟩
/-! ### not in -/
def opNotIn : F2 := fun d e Q => match e with
  | .tuple es => flatD d = true ∧ es.all flatD = true ∧ Q (.d (.bool (!es.any fun z => PyData.eqv z d)))
  | .list es => flatD d = true ∧ es.all flatD = true ∧ Q (.d (.bool (!es.any fun z => PyData.eqv z d)))
  | _ => False
theorem b_notIn : BOk2 K (rIn K true) opNotIn := by
  intro M F Γ σ H x y d e Q Q' rr p q w h
  match e, w with
  | .tuple es, w =>
    obtain ⟨m, ws, rfl, f1, f2, _⟩ := q.tuple rr.sM
    have hv := rp_flat p w.1
    obtain ⟨g1, g2⟩ := any_of hv w.1 f2 w.2.1
    exact ⟨m, ws, rfl, .inr f1, flat_of hv w.1, g1, by rw [if_pos rfl, g2]; exact fin_d (Q := Q) (Q' := Q') rr (.bl _) w.2.2 h⟩
  | .list es, w =>
    obtain ⟨m, ws, rfl, f1, f2⟩ := q.list rr.sM
    have hv := rp_flat p w.1
    obtain ⟨g1, g2⟩ := any_of hv w.1 f2 w.2.1
    exact ⟨m, ws, rfl, .inl (SqL.of f1), flat_of hv w.1, g1, by rw [if_pos rfl, g2]; exact fin_d (Q := Q) (Q' := Q') rr (.bl _) w.2.2 h⟩
theorem c_notIn {k : Nat} (hr : Room k X.A) (hK : X.K = K := by rfl) : Cm X .NotIn (rIn K true) opNotIn := by
  subst hK
  exact ⟨op_notIn_seq, b_notIn⟩
/-! ### max, min of two -/
def bMax2 : FB := fun ds Q => match ds with
  | [.int i, .int j] => Q (.d (.int (if j > i then j else i)))
  | _ => False
def bMin2 : FB := fun ds Q => match ds with
  | [.int i, .int j] => Q (.d (.int (if j < i then j else i)))
  | _ => False
theorem bt_max2 (hc : X.calm = true := by rfl) : Bt X (.builtin "max") (fun xs H Q => ∃ i j, xs = [.int i, .int j] ∧ Q (.int (if j > i then j else i)) H) bMax2 := by
  refine ⟨call_max2 hc, ?_⟩
  intro M F Γ σ H vs ds Q Q' rr p w h
  match ds, w with
  | [.int i, .int j], w =>
    obtain ⟨v, u, rfl, e, f⟩ := rd2 p
    rw [e.int, f.int]
    exact ⟨i, j, rfl, fin_d (Q := Q) (Q' := Q') rr (.int _) w h⟩
theorem bt_min2 (hc : X.calm = true := by rfl) : Bt X (.builtin "min") (fun xs H Q => ∃ i j, xs = [.int i, .int j] ∧ Q (.int (if j < i then j else i)) H) bMin2 := by
  refine ⟨call_min2 hc, ?_⟩
  intro M F Γ σ H vs ds Q Q' rr p w h
  match ds, w with
  | [.int i, .int j], w =>
    obtain ⟨v, u, rfl, e, f⟩ := rd2 p
    rw [e.int, f.int]
    exact ⟨i, j, rfl, fin_d (Q := Q) (Q' := Q') rr (.int _) w h⟩
end
end Pd
end

section
set_option maxRecDepth 100000
/-! Pd9: loops and comprehensions by data, for the laws of each def. -/
namespace Pd
open PySem PySem.Spec L2
open PyProof.Rows hiding St
set_option autoImplicit false

/-- a while by an invariant and a measure -/
theorem wWhile_by {wc : WT} {wb : WS} {De : EndsD} (Inv : Sl → Prop) (μ : Sl → Nat)
    (step : ∀ (Γ : Sl) (N : Sl → Prop), Inv Γ → (∀ Γ', Inv Γ' → μ Γ' < μ Γ → N Γ') → wc Γ fun b Γ1 => if b = true then wb { De with nx := N, ct := N, bk := De.nx } Γ1 else De.nx Γ1) {Γ : Sl} (h : Inv Γ) : wWhile wc wb De Γ := by
  have key : ∀ (n : Nat) (Γ : Sl), Inv Γ → μ Γ < n → whN wc wb De n Γ := by
    intro n
    induction n with
    | zero => intro Γ _ h; exact absurd h (Nat.not_lt_zero _)
    | succ n ih => intro Γ hi hm; exact step Γ (whN wc wb De n) hi fun Γ' h' hl => ih Γ' h' (by omega)
  exact ⟨_, key _ Γ h (Nat.lt_succ_self _)⟩
/-- .. whose state is a value of one's own -/
theorem wWhile_st {α : Type} {wc : WT} {wb : WS} {De : EndsD} (st : α → Sl) (Inv : α → Prop) (μ : α → Nat)
    (step : ∀ (a : α) (N : Sl → Prop), Inv a → (∀ a', Inv a' → μ a' < μ a → N (st a')) → wc (st a) fun b Γ1 => if b = true then wb { De with nx := N, ct := N, bk := De.nx } Γ1 else De.nx Γ1) {a : α} (h : Inv a) : wWhile wc wb De (st a) := by
  have key : ∀ (n : Nat) (a : α), Inv a → μ a < n → whN wc wb De n (st a) := by
    intro n
    induction n with
    | zero => intro Γ _ h; exact absurd h (Nat.not_lt_zero _)
    | succ n ih => intro a hi hm; exact step a (whN wc wb De n) hi fun a' h' hl => ih a' h' (by omega)
  exact ⟨_, key _ a h (Nat.lt_succ_self _)⟩
/-- a for by what holds with so many items left -/
theorem forGo_by {wg : WG} {wb : WS} {De : EndsD} (Inv : List D → Sl → Prop)
    (step : ∀ (d : D) (ds : List D) (Γ : Sl) (N : Sl → Prop), Inv (d :: ds) Γ → (∀ Γ', Inv ds Γ' → N Γ') → wg d Γ fun Γ1 => wb { De with nx := N, ct := N, bk := De.nx } Γ1)
    (done : ∀ Γ, Inv [] Γ → De.nx Γ) : ∀ {ds : List D} {Γ : Sl}, Inv ds Γ → forGo wg wb De ds Γ
  | [], Γ, h => done Γ h
  | d :: ds, Γ, h => step d ds Γ (forGo wg wb De ds) h fun Γ' h' => forGo_by Inv step done h'
theorem forGo_nil {wg : WG} {wb : WS} {De : EndsD} {Γ : Sl} : forGo wg wb De [] Γ = De.nx Γ := rfl
theorem forGo_cons {wg : WG} {wb : WS} {De : EndsD} {Γ : Sl} {d : D} {ds : List D} : forGo wg wb De (d :: ds) Γ = wg d Γ fun Γ1 => wb { De with nx := forGo wg wb De ds, ct := forGo wg wb De ds, bk := De.nx } Γ1 := rfl
/-- a comprehension whose turns leave the slots as they are -/
theorem lcGo_by {wg : WG} {wt : WT} {we : WE} {vs : List Nat} {Q : List D → Sl → Prop} {Γ : Sl} (g : D → Bool) (f : D → D) : ∀ {ds acc : List D},
    (∀ d ∈ ds, ∀ (k1 : D → Sl → Prop) (k2 : Sl → Prop), (g d = true → k1 (f d) Γ) → (g d = false → k2 Γ) →
      wg d (wipeD Γ vs) fun Γ1 => wt Γ1 fun b Γ2 => if b = true then we Γ2 fun o Γ3 => fz Γ3 o fun y Γ4 => k1 y (back Γ Γ4 vs) else k2 (back Γ Γ2 vs)) →
    acc.length + ds.length ≤ sizeLine → Q (acc ++ (ds.filter g).map f) Γ → lcGo wg wt we vs Q ds acc Γ
  | [], acc, _, _, q => by simpa [lcGo] using q
  | d :: ds, acc, h, hl, q => by
    refine h d List.mem_cons_self (fun y Γ' => acc.length < sizeLine ∧ lcGo wg wt we vs Q ds (acc ++ [y]) Γ') (fun Γ' => lcGo wg wt we vs Q ds acc Γ') (fun e => ⟨?_, ?_⟩) fun e => ?_
    · simp only [List.length_cons] at hl; omega
    · refine lcGo_by g f (fun d hd => h d (List.mem_cons_of_mem _ hd)) ?_ ?_
      · simp only [List.length_cons, List.length_append, List.length_nil] at hl ⊢; omega
      · rw [List.filter_cons_of_pos e] at q
        simpa using q
    · refine lcGo_by g f (fun d hd => h d (List.mem_cons_of_mem _ hd)) ?_ ?_
      · simp only [List.length_cons] at hl ⊢; omega
      · rw [List.filter_cons_of_neg (by simp [e])] at q
        exact q
/-- .. without a test -/
theorem lcGo_map {wg : WG} {we : WE} {vs : List Nat} {Q : List D → Sl → Prop} {Γ : Sl} (f : D → D) {ds acc : List D}
    (h : ∀ d ∈ ds, ∀ (k1 : D → Sl → Prop), k1 (f d) Γ → wg d (wipeD Γ vs) fun Γ1 => we Γ1 fun o Γ3 => fz Γ3 o fun y Γ4 => k1 y (back Γ Γ4 vs))
    (hl : acc.length + ds.length ≤ sizeLine) (q : Q (acc ++ ds.map f) Γ) : lcGo wg wYes we vs Q ds acc Γ := by
  refine lcGo_by (fun _ => true) f (fun d hd k1 k2 h1 _ => ?_) hl (by rw [List.filter_eq_self.mpr (by simp)]; exact q)
  unfold wYes
  simp only [if_true]
  exact h d hd k1 (h1 rfl)
/-- over data of one kind, with a test -/
theorem lcGo_of {α : Type} (emb : α → D) {wg : WG} {wt : WT} {we : WE} {vs : List Nat} {Q : List D → Sl → Prop} {Γ : Sl} (g : α → Bool) (f : α → D) : ∀ {xs : List α} {acc : List D},
    (∀ x ∈ xs, ∀ (k1 : D → Sl → Prop) (k2 : Sl → Prop), (g x = true → k1 (f x) Γ) → (g x = false → k2 Γ) →
      wg (emb x) (wipeD Γ vs) fun Γ1 => wt Γ1 fun b Γ2 => if b = true then we Γ2 fun o Γ3 => fz Γ3 o fun y Γ4 => k1 y (back Γ Γ4 vs) else k2 (back Γ Γ2 vs)) →
    acc.length + xs.length ≤ sizeLine → Q (acc ++ (xs.filter g).map f) Γ → lcGo wg wt we vs Q (xs.map emb) acc Γ
  | [], acc, _, _, q => by simpa [lcGo] using q
  | x :: xs, acc, h, hl, q => by
    refine h x List.mem_cons_self (fun y Γ' => acc.length < sizeLine ∧ lcGo wg wt we vs Q (xs.map emb) (acc ++ [y]) Γ') (fun Γ' => lcGo wg wt we vs Q (xs.map emb) acc Γ') (fun e => ⟨?_, ?_⟩) fun e => ?_
    · simp only [List.length_cons] at hl; omega
    · refine lcGo_of emb g f (fun d hd => h d (List.mem_cons_of_mem _ hd)) ?_ ?_
      · simp only [List.length_cons, List.length_append, List.length_nil] at hl ⊢; omega
      · rw [List.filter_cons_of_pos e] at q
        simpa using q
    · refine lcGo_of emb g f (fun d hd => h d (List.mem_cons_of_mem _ hd)) ?_ ?_
      · simp only [List.length_cons] at hl ⊢; omega
      · rw [List.filter_cons_of_neg (by simp [e])] at q
        exact q
/-- .. without -/
theorem lcGo_all {α : Type} (emb : α → D) {wg : WG} {we : WE} {vs : List Nat} {Q : List D → Sl → Prop} {Γ : Sl} (f : α → D) {xs : List α} {acc : List D}
    (h : ∀ x ∈ xs, ∀ (k1 : D → Sl → Prop), k1 (f x) Γ → wg (emb x) (wipeD Γ vs) fun Γ1 => we Γ1 fun o Γ3 => fz Γ3 o fun y Γ4 => k1 y (back Γ Γ4 vs))
    (hl : acc.length + xs.length ≤ sizeLine) (q : Q (acc ++ xs.map f) Γ) : lcGo wg wYes we vs Q (xs.map emb) acc Γ := by
  refine lcGo_of emb (fun _ => true) f (fun d hd k1 k2 h1 _ => ?_) hl (by rw [List.filter_eq_self.mpr (by simp)]; exact q)
  unfold wYes
  simp only [if_true]
  exact h d hd k1 (h1 rfl)
/-- a for over data of one kind -/
theorem forGo_of {α : Type} (emb : α → D) {wg : WG} {wb : WS} {De : EndsD} (Inv : List α → Sl → Prop)
    (step : ∀ (x : α) (xs : List α) (Γ : Sl) (N : Sl → Prop), Inv (x :: xs) Γ → (∀ Γ', Inv xs Γ' → N Γ') → wg (emb x) Γ fun Γ1 => wb { De with nx := N, ct := N, bk := De.nx } Γ1)
    (done : ∀ Γ, Inv [] Γ → De.nx Γ) : ∀ {xs : List α} {Γ : Sl}, Inv xs Γ → forGo wg wb De (xs.map emb) Γ
  | [], Γ, h => done Γ h
  | x :: xs, Γ, h => step x xs Γ (forGo wg wb De (xs.map emb)) h fun Γ' h' => forGo_of emb Inv step done h'
def rangeI (lo : Int) (n : Nat) : List Int := (List.range n).map fun (i : Nat) => lo + i
theorem rangeD_ints (lo : Int) (n : Nat) : rangeD lo n = (rangeI lo n).map PyData.int := by simp [rangeD, rangeI]
theorem rangeI_len (lo : Int) (n : Nat) : (rangeI lo n).length = n := by simp [rangeI]
theorem rangeI_mem {lo : Int} {n : Nat} {x : Int} : x ∈ rangeI lo n ↔ lo ≤ x ∧ x < lo + n := by
  simp only [rangeI, List.mem_map, List.mem_range]
  constructor
  · rintro ⟨i, h, rfl⟩; omega
  · rintro ⟨h1, h2⟩; exact ⟨(x - lo).toNat, by omega, by omega⟩
theorem lcGo_nil {wg : WG} {wt : WT} {we : WE} {vs : List Nat} {Q : List D → Sl → Prop} {Γ : Sl} {acc : List D} : lcGo wg wt we vs Q [] acc Γ = Q acc Γ := rfl
theorem lcGo_cons {wg : WG} {wt : WT} {we : WE} {vs : List Nat} {Q : List D → Sl → Prop} {Γ : Sl} {d : D} {ds acc : List D} : lcGo wg wt we vs Q (d :: ds) acc Γ =
    wg d (wipeD Γ vs) fun Γ1 => wt Γ1 fun b Γ2 => if b = true then we Γ2 fun o Γ3 => fz Γ3 o fun y Γ4 => acc.length < sizeLine ∧ lcGo wg wt we vs Q ds (acc ++ [y]) (back Γ Γ4 vs) else lcGo wg wt we vs Q ds acc (back Γ Γ2 vs) := rfl

/-! ### ints that need no thought -/
theorem mulW {i j : Int} {a b : Nat} (ha : i.natAbs < 2 ^ a) (hb : j.natAbs < 2 ^ b) (h : 0 < a ∧ 0 < b ∧ a + b ≤ 1000000 := by decide) : MulOk i j := .inl (wide_mul ha hb h.1 h.2.1 h.2.2)
/-- factors below 2 ^ 512 -/
theorem mul512 {i j : Int} (ha : i.natAbs < 2 ^ 512) (hb : j.natAbs < 2 ^ 512) : MulOk i j := mulW ha hb
theorem div512 {i j : Int} (h : 0 < j) (hb : j.natAbs < 2 ^ 512) : CDivW i j := wide_div h hb (by decide) (by decide)
theorem mul64 {i j : Int} (h1 : -18446744073709551616 < i) (h2 : i < 18446744073709551616) (h3 : -18446744073709551616 < j) (h4 : j < 18446744073709551616) : MulOk i j :=
  mulW (a := 64) (b := 64) (by omega) (by omega)
/-- one factor of a word -/
theorem mulR {i j : Int} (h3 : -18446744073709551616 < j) (h4 : j < 18446744073709551616) : MulOk i j := .inr (.inr ⟨h3, h4⟩)
theorem mulL {i j : Int} (h3 : -18446744073709551616 < i) (h4 : i < 18446744073709551616) : MulOk i j := .inr (.inl ⟨h3, h4⟩)
theorem div64 {i j : Int} (h : 0 < j) (h4 : j < 18446744073709551616) : CDivW i j := wide_div (b := 64) h (by omega) (by decide) (by decide)
theorem in62_of {i : Int} (h1 : -4611686018427387904 ≤ i) (h2 : i < 4611686018427387904) : in62 i := ⟨by omega, by omega⟩
theorem line_of {n : Nat} (h : n ≤ 1000000) : n ≤ sizeLine := by rw [sizeLine_eq]; omega
theorem line_lt {n : Nat} (h : n ≤ 1000000) : n < sizeLine := by rw [sizeLine_eq]; omega
theorem rangeD_len (lo : Int) (n : Nat) : (rangeD lo n).length = n := by simp [rangeD]
theorem shaped_int (i : Int) : SeqAt.shaped (.int i) = true := rfl
theorem eqv_int (i j : Int) : PyData.eqv (.int i) (.int j) = (i == j) := by simp [PyData.eqv]
/-! what is of which kind -/
theorem isD_int_none : isD .int .none = false := rfl
theorem isD_int_bool (b : Bool) : isD .int (.bool b) = true := rfl
theorem isD_int_int (i : Int) : isD .int (.int i) = true := rfl
theorem isD_int_str (s : Str) : isD .int (.str s) = false := rfl
theorem isD_int_list (l : List D) : isD .int (.list l) = false := rfl
theorem isD_int_tuple (l : List D) : isD .int (.tuple l) = false := rfl
theorem isD_bool_none : isD .bool .none = false := rfl
theorem isD_bool_bool (b : Bool) : isD .bool (.bool b) = true := rfl
theorem isD_bool_int (i : Int) : isD .bool (.int i) = false := rfl
theorem isD_bool_str (s : Str) : isD .bool (.str s) = false := rfl
theorem isD_bool_list (l : List D) : isD .bool (.list l) = false := rfl
theorem isD_bool_tuple (l : List D) : isD .bool (.tuple l) = false := rfl
theorem isD_str_none : isD .str .none = false := rfl
theorem isD_str_bool (b : Bool) : isD .str (.bool b) = false := rfl
theorem isD_str_int (i : Int) : isD .str (.int i) = false := rfl
theorem isD_str_str (s : Str) : isD .str (.str s) = true := rfl
theorem isD_str_list (l : List D) : isD .str (.list l) = false := rfl
theorem isD_str_tuple (l : List D) : isD .str (.tuple l) = false := rfl
theorem isD_list_none : isD .list .none = false := rfl
theorem isD_list_bool (b : Bool) : isD .list (.bool b) = false := rfl
theorem isD_list_int (i : Int) : isD .list (.int i) = false := rfl
theorem isD_list_str (s : Str) : isD .list (.str s) = false := rfl
theorem isD_list_list (l : List D) : isD .list (.list l) = true := rfl
theorem isD_list_tuple (l : List D) : isD .list (.tuple l) = false := rfl
theorem isD_tuple_none : isD .tuple .none = false := rfl
theorem isD_tuple_bool (b : Bool) : isD .tuple (.bool b) = false := rfl
theorem isD_tuple_int (i : Int) : isD .tuple (.int i) = false := rfl
theorem isD_tuple_str (s : Str) : isD .tuple (.str s) = false := rfl
theorem isD_tuple_list (l : List D) : isD .tuple (.list l) = false := rfl
theorem isD_tuple_tuple (l : List D) : isD .tuple (.tuple l) = true := rfl
theorem isD_dict_none : isD .dict .none = false := rfl
theorem isD_dict_bool (b : Bool) : isD .dict (.bool b) = false := rfl
theorem isD_dict_int (i : Int) : isD .dict (.int i) = false := rfl
theorem isD_dict_str (s : Str) : isD .dict (.str s) = false := rfl
theorem isD_dict_list (l : List D) : isD .dict (.list l) = false := rfl
theorem isD_dict_tuple (l : List D) : isD .dict (.tuple l) = false := rfl
theorem shaped_bool (b : Bool) : SeqAt.shaped (.bool b) = true := rfl
theorem lay_ints : ∀ ns : List Int, PyData.canLayAll0 (ns.map PyData.int) = true
  | [] => by simp only [List.map_nil, PyData.canLayAll0]
  | n :: ns => by simp only [List.map_cons, PyData.canLayAll0, PyData.canLay0, lay_ints ns, Bool.and_self]
theorem depth_ints : ∀ ns : List Int, PyData.depthAll (ns.map PyData.int) = 0
  | [] => by simp only [List.map_nil, PyData.depthAll]
  | n :: ns => by simp only [List.map_cons, PyData.depthAll, PyData.depth, depth_ints ns, Nat.max_self]
theorem eqvAll_ints : ∀ a b : List Int, PyData.eqvAll (a.map PyData.int) (b.map PyData.int) = decide (a = b)
  | [], [] => by simp [PyData.eqvAll]
  | [], _ :: _ => by simp [PyData.eqvAll]
  | _ :: _, [] => by simp [PyData.eqvAll]
  | x :: a, y :: b => by simp [PyData.eqvAll, PyData.eqv, eqvAll_ints a b, Bool.beq_eq_decide_eq]
theorem shaped_intsL (ns : List Int) : SeqAt.shaped (.list (ns.map PyData.int)) = true := by simp [SeqAt.shaped, PyData.canLay0, PyData.depth, lay_ints, depth_ints]
theorem shaped_intsT (ns : List Int) : SeqAt.shaped (.tuple (ns.map PyData.int)) = true := by simp [SeqAt.shaped, PyData.canLay0, PyData.depth, lay_ints, depth_ints]
theorem eqv_intsL (a b : List Int) : PyData.eqv (.list (a.map PyData.int)) (.list (b.map PyData.int)) = decide (a = b) := by simp only [PyData.eqv, eqvAll_ints]
theorem eqv_intsT (a b : List Int) : PyData.eqv (.tuple (a.map PyData.int)) (.tuple (b.map PyData.int)) = decide (a = b) := by simp only [PyData.eqv, eqvAll_ints]
theorem eqv_self {d : D} (h : SeqAt.shaped d = true) : PyData.eqv d d = true := SeqAt.eqv_refl d (SeqAt.canLay_of_shaped h)
theorem eqv_bool (a b : Bool) : PyData.eqv (.bool a) (.bool b) = (a == b) := by cases a <;> cases b <;> rfl
theorem eqv_str (a b : Str) : PyData.eqv (.str a) (.str b) = (a == b) := by simp [PyData.eqv]
/-- one statement, then the rest, by what holds between -/
theorem wSeq_by {a b : WS} {De : EndsD} {Γ : Sl} (P : Sl → Prop) (h1 : ∀ N : Sl → Prop, (∀ Γ', P Γ' → N Γ') → a { De with nx := N } Γ) (h2 : ∀ Γ', P Γ' → b De Γ') : wSeq a b De Γ := h1 _ h2
theorem at5_0 {a b c d e : D} : atI [a, b, c, d, e] (0 : Int) = some a := rfl
theorem at5_1 {a b c d e : D} : atI [a, b, c, d, e] (1 : Int) = some b := rfl
theorem at5_2 {a b c d e : D} : atI [a, b, c, d, e] (2 : Int) = some c := rfl
theorem at5_3 {a b c d e : D} : atI [a, b, c, d, e] (3 : Int) = some d := rfl
theorem at5_4 {a b c d e : D} : atI [a, b, c, d, e] (4 : Int) = some e := rfl
theorem ix5_1 : ixN 5 (1 : Int) = some 1 := rfl
theorem ix5_2 : ixN 5 (2 : Int) = some 2 := rfl
theorem ix5_3 : ixN 5 (3 : Int) = some 3 := rfl
theorem ix5_4 : ixN 5 (4 : Int) = some 4 := rfl
/-- the item at i, given as a member -/
theorem atI_mem {α : Type} (emb : α → D) {xs : List α} {i : Int} (h0 : 0 ≤ i) (h1 : i < xs.length) : ∃ x ∈ xs, atI (xs.map emb) i = some (emb x) := by
  have hl : i.toNat < xs.length := by omega
  refine ⟨xs[i.toNat], List.getElem_mem hl, ?_⟩
  unfold atI ixN
  rw [List.length_map, if_pos h0, if_pos h1]
  show (List.map emb xs)[i.toNat]? = _
  rw [List.getElem?_map, List.getElem?_eq_getElem hl]
  rfl
end Pd
end

section
set_option maxRecDepth 100000
set_option maxHeartbeats 1000000
/-! Pg1: promises of defs that are called while no repr is under way; repr of data. -/
namespace Pd
open PySem PySem.Spec L2
open PyProof.Rows hiding St
set_option autoImplicit false

abbrev NoG (A : Around) : Prop := A.guards = some []
structure FnG (P : Program) (w : World) (K : PySem.W.Frag) (mg : Str → Option Value) (base : Heap) (k : Nat) (f : Addr) (fd : FuncData) (ps : List Str) (sp : Sp) : Prop where
  len : ∀ vs H Q E, sp vs H Q E → vs.length = ps.length
  go : ∀ (A : Around) (fs : List Env) (s : Shared) (H : Hp) (args : Args) (us : List Value) (vs : List V) (Q : VK) (E : XK), Room k A → NoG A → Env0 P w K mg base A fs s H → BindsTo s fd args (ps.zip us) → Vals vs us → sp vs H Q E →
    codeAny (model P w) A (.call (.ref f) args) (CR CX0 fs P w H s Q E) s
section
variable {P : Program} {w : World} {K : PySem.W.Frag} {mg : Str → Option Value} {base : Heap} {k : Nat} {x : Str} {st : Stmt} {N ps : List Str} {f : Addr} {fd : FuncData} {sp : Sp}
theorem fnG_of (F : FunD K x x (defArgs st) (defBody st) (defScope st) [] [] f fd) (S : FnScope N ps (defScope st)) (len : ∀ vs H Q E, sp vs H Q E → vs.length = ps.length)
    (bd : ∀ (cdv : Value) (A : Around) (fs : List Env) (s : Shared) (H : Hp) (vs : List V) (Q : VK) (E : XK), Room k (A.deeper (envOfC x (defScope st) s.heap.objs.size f cdv)) → NoG A → sp vs H Q E →
      ∃ t, PSs (cxOf CX0 P w K mg base N x (defScope st) f cdv A fs s H E) (defBody st) t ∧ t { nx := fun _ H' => Q .non H', rt := Q } (L2.start N vs) H) : FnG P w K mg base (k + 1) f fd ps sp := by
  obtain ⟨oc, od, dV, kV, doc, pm, an, cdv, ct, osl, rfl, lk, hcd, _, _⟩ := F.ex
  refine ⟨len, fun A fs s H args us vs Q E hr hg e0 hb rv hsp => ?_⟩
  have cell : ∀ y ∈ ps.zip us, (defScope st).names.lookup y.1 = some .local ∨ ((defScope st).names.lookup y.1 = some .cell ∧ ((cellsFrom (s.heap.objs.size + 1) (defScope st).names []).lookup y.1).isSome = true) := fun ⟨y, _⟩ hy =>
    (S.par y (List.of_mem_zip hy).1).elim .inl fun q => .inr ⟨q, PySem.W.cellsFrom_some _ _ _ (.inl q)⟩
  have kin : K.In s.heap := e0.mod.kin.keeps fun b o e => (e0.bs b o e).1
  refine codeAny_call_function hr.depth (kin _ _ lk) rfl S.co S.gen rfl (PySem.W.codeRec_of kin hcd) (hb _ _ _ _ (wpAny_newFunctionEnv_cells S.kind cell fun env he s1 ic => ?_))
  subst he
  refine ⟨(e0.mod.nolimit.keeps fun b o e => (e0.bs b o e).1).keeps ic.toInCall.keep, codeAny_func ?_⟩
  obtain ⟨t, pt, qt⟩ := bd cdv A fs s H vs Q E (hr.deeper _) hg hsp
  have I : Inv (cxOf CX0 P w K mg base N x (defScope st) f cdv A fs s H E) [] (L2.start N vs) H s1 := inv_start S hr.hd e0 (len _ _ _ _ hsp) rv ic
  refine wpAny_mono (pt.run [] s1 (L2.start N vs) H _ I qt) (fun fl s' hs => ?_) fun _ _ z => z
  match fl, hs with
  | .ret u, ⟨v, σ', H', J, r, q⟩ => exact ⟨v, H', J.os, J.bare, J.base, J.hok, r, q⟩
  | .next, ⟨σ', H', J, q⟩ => exact ⟨V.non, H', J.os, J.bare, J.base, J.hok, rfl, q⟩
  | .brk, ⟨_, _, _, q⟩ => exact q.elim
  | .cont, ⟨_, _, _, q⟩ => exact q.elim
end
section
variable {X : Cx} {k : Nat} {f : Addr} {fd : FuncData} {ps : List Str} {sp : Sp} {E : XK} {x : Str} {p pos : Pos} {e : Expr} {es : List Expr} {t : TA}
theorem go_fnG {pins : List (Addr × Obj)} {σ : L2.St} {H : Hp} {s : Shared} {Q : VK} {us : List Value} {vs : List V} (F : FnG X.prog X.w X.K X.mg X.base k f fd ps sp) (hr : Room k X.A) (hgd : NoG X.A) (hb : Binds X.K fd ps [])
    (I : Inv X pins σ H s) (r : Vals vs us) (h : sp (vs ++ []) H Q E0) : wpAny (model X.prog X.w) X.A (call (.ref f) us) (EP X pins σ Q) X.xe s := by
  rw [List.append_nil] at h
  have hl : (us ++ ([] : List Value)).length = ps.length := by rw [List.append_nil, ← r.length]; exact F.len _ _ _ _ h
  refine wpAny_call (codeAny_mono (F.go X.A X.stack s H ⟨us, []⟩ (us ++ []) vs Q E0 hr hgd I.env0 (hb s us I.kIn hl) (by rw [List.append_nil]; exact r) h) fun rs s' hq => ?_)
  match rs, hq with
  | .ok (.ret u), hq => exact I.after hq
  | .ok .next, hq => exact hq.elim
  | .ok .brk, hq => exact hq.elim
  | .ok .cont, hq => exact hq.elim
  | .error e, hq => exact hq.elim
theorem pe_callG (F : FnG X.prog X.w X.K X.mg X.base k f fd ps sp) (hr : Room k X.A) (hgd : NoG X.A) (hg : Gl X x) (hm : X.mg x = some (.ref f)) (hk : PySem.W.keepIn X.K (.ref f) = true) (hb : Binds X.K fd ps [])
    (ha : PA X (e :: es) t) (hdb : (x == ("__debug__" : Str)) = false) (he : starEach (e :: es) X.env = (false, eval e X.env) :: starEach es X.env) (hpl : (backTo pos (starEach es X.env)).any (·.1) = false) :
    PE X (.Call (.Name x p) (e :: es) [] pos) (tCall sp [] E0 t) :=
  ⟨fun pins s σ H Q I h => wpAny_Call_Name_kw (ld_glob I hg hm (PySem.W.callWith_K (h₀ := X.base) I.ok.mod.kin hk (thn (ha.run pos pins s σ H _ I h) fun us s1 ⟨vs, H1, I1, r, q⟩ => ⟨I1.kIn, go_fnG F hr hgd hb I1 r q⟩) he hpl) hdb)⟩
end
/-- the name x is a def of the text that keeps the promise sp where no repr is under way -/
def HasG (P : Program) (w : World) (K : PySem.W.Frag) (mg : Str → Option Value) (base : Heap) (k : Nat) (x : Str) (ps : List Str) (sp : Sp) : Prop :=
  ∃ f fd, mg x = some (.ref f) ∧ PySem.W.keepIn K (.ref f) = true ∧ Binds K fd ps [] ∧ FnG P w K mg base k f fd ps sp
section
variable {P : Program} {w : World} {K : PySem.W.Frag} {mg : Str → Option Value} {base : Heap} {k : Nat} {x : Str} {st : Stmt} {N ps : List Str}
theorem fnG_def {ws : FSpec} {wb : WS} {f : Addr} {fd : FuncData} (F : FunD K x x (defArgs st) (defBody st) (defScope st) [] [] f fd) (S : FnScope N ps (defScope st)) (hl : ps.length ≤ N.length) (len : ∀ ds Q, ws ds Q → ds.length = ps.length)
    (ok : ∀ ds Qd, ws ds Qd → wb (endsP Qd) (startD N.length ds))
    (body : ∀ (f : Addr) (cdv : Value) (A : Around) (outer : List Env) (s : Shared) (H : Hp) (E : XK), Room k (A.deeper (envOfC x (defScope st) s.heap.objs.size f cdv)) → NoG A →
      ∃ t, DSs (cxOf CX0 P w K mg base N x (defScope st) f cdv A outer s H E).nox W0 (defBody st) t wb) :
    FnG P w K mg base (k + 1) f fd ps (spP K ws) := by
  refine fnG_of F S (fun vs H Q E h => ?_) fun cdv A outer s H vs Q E hr hg h => ?_
  · obtain ⟨M, F, ds, Qd, _, _, _, h4, h5, _⟩ := h
    exact h4.length.trans (len ds Qd h5)
  · obtain ⟨M, F, ds, Qd, h1, h2, h3, h4, h5, h6⟩ := h
    obtain ⟨t, ht⟩ := body f cdv A outer s H E hr hg
    have hv : vs.length ≤ N.length := by rw [h4.length, len ds Qd h5]; exact hl
    refine ⟨t, ht.pss.nox, ht.sim M F (startD N.length ds) (L2.start N vs) H (endsP Qd) _ (startP_R hv h1 h2 h3 h4) trivial (ok ds Qd h5) ⟨fun M' Γ' σ' H' s r q => ?_, fun v d M' Γ' σ' H' s r p q => ?_, fun _ _ _ _ _ _ q => q.elim, fun _ _ _ _ _ _ q => q.elim, fun _ _ _ _ _ _ _ _ _ _ _ _ _ q => q.elim⟩⟩
    · exact h6 .non .none M' H' s r.sM r.sF r.dj .non q
    · exact h6 v d M' H' s r.sM r.sF r.dj p q
theorem hasG_def {ws : FSpec} {wb : WS} (I : IsDef K mg x st) (S : FnScope N ps (defScope st)) (hl : ps.length ≤ N.length) (len : ∀ ds Q, ws ds Q → ds.length = ps.length)
    (hb : ∀ (kV doc pm : Value) (an : Option Addr) (cdv ct : Value) (us : List Value), us.length = ps.length → bindArgs (PySem.W.fnOf x x (defArgs st) (defBody st) (defScope st) .none kV doc pm an cdv ct) ⟨us, []⟩ = pure (ps.zip us))
    (ok : ∀ ds Qd, ws ds Qd → wb (endsP Qd) (startD N.length ds))
    (body : ∀ (f : Addr) (cdv : Value) (A : Around) (outer : List Env) (s : Shared) (H : Hp) (E : XK), Room k (A.deeper (envOfC x (defScope st) s.heap.objs.size f cdv)) → NoG A →
      ∃ t, DSs (cxOf CX0 P w K mg base N x (defScope st) f cdv A outer s H E).nox W0 (defBody st) t wb) :
    HasG P w K mg base (k + 1) x ps (spP K ws) := by
  obtain ⟨f, fd, hm, F⟩ := I
  exact ⟨f, fd, hm, F.kp, F.bindsN hb, fnG_def F S hl len ok body⟩
theorem hasG_defM {ws : MSpec} {wb : WS} (I : IsDef K mg x st) (S : FnScope N ps (defScope st)) (hl : ps.length ≤ N.length) (len : ∀ cs ds Q, ws cs ds Q → ds.length + 1 = ps.length)
    (hb : ∀ (kV doc pm : Value) (an : Option Addr) (cdv ct : Value) (us : List Value), us.length = ps.length → bindArgs (PySem.W.fnOf x x (defArgs st) (defBody st) (defScope st) .none kV doc pm an cdv ct) ⟨us, []⟩ = pure (ps.zip us))
    (ok : ∀ p cs ds Qd, ws cs ds Qd → wb (endsM p Qd) (startM N.length p cs ds))
    (body : ∀ (f : Addr) (cdv : Value) (A : Around) (outer : List Env) (s : Shared) (H : Hp) (E : XK), Room k (A.deeper (envOfC x (defScope st) s.heap.objs.size f cdv)) → NoG A →
      ∃ t, DSs (cxOf CX0 P w K mg base N x (defScope st) f cdv A outer s H E).nox W0 (defBody st) t wb) :
    HasG P w K mg base (k + 1) x ps (spM K ws) := by
  obtain ⟨f, fd, hm, F⟩ := I
  refine ⟨f, fd, hm, F.kp, F.bindsN hb, fnG_of F S (fun vs H Q E h => ?_) fun cdv A outer s H vs Q E hr hg h => ?_⟩
  · obtain ⟨M, F, p, cv, rest, cs, ds, Qd, rfl, _, _, _, _, _, _, _, h9, h10, _⟩ := h
    show rest.length + 1 = _
    rw [h9.length]
    exact len cs ds Qd h10
  · obtain ⟨M, F, p, cv, rest, cs, ds, Qd, rfl, h1, h2, h3, h5, h6, h7, h8, h9, h10, h11⟩ := h
    obtain ⟨t, ht⟩ := body f cdv A outer s H E hr hg
    have hv : rest.length + 1 ≤ N.length := by rw [h9.length, len cs ds Qd h10]; exact hl
    have fin : ∀ {Γ' : Sl} {σ' : L2.St} {M' H' : Hp} {v : V} {d : D}, R K M' F Γ' σ' H' → Same M M' → Rp K M' v d → own0 Γ' p (Qd d) → Q v H' := by
      intro Γ' σ' M' H' v d r s hv q
      unfold own0 at q
      split at q
      · next q' cs' e =>
        obtain ⟨rfl, q⟩ := q
        obtain ⟨p', vs', g1, g2, g3, g4, g5, g6⟩ := r.ow 0 (some q') cs' e
        have := g2 q' rfl
        subst this
        exact h11 v d vs' cs' M' H' s r.sM r.sF r.dj g3 g5 g6 hv q
      · exact q.elim
    exact ⟨t, ht.pss.nox, ht.sim M F (startM N.length p cs ds) (L2.start N (.ref p :: rest)) H (endsM p Qd) _ (startM_R hv h1 h2 h3 h5 h6 h7 h8 h9) trivial (ok p cs ds Qd h10) ⟨fun M' Γ' σ' H' s r q => fin (v := .non) (d := .none) r s .non q, fun v d M' Γ' σ' H' s r p q => fin r s p q,
      fun _ _ _ _ _ _ q => q.elim, fun _ _ _ _ _ _ q => q.elim, fun _ _ _ _ _ _ _ _ _ _ _ _ _ q => q.elim⟩⟩
end
section
variable {X : Cx} {W : XW} {K : PySem.W.Frag} {x : Str} {e : Expr} {es : List Expr} {tl : TA} {wl : WA} {te : TE} {we : WE} {p pos : Pos}
theorem e_callG {K : PySem.W.Frag} {k : Nat} {ps : List Str} {ws : FSpec} (h : HasG X.prog X.w X.K X.mg X.base k x ps (spP X.K ws)) (hr : Room k X.A) (hgd : NoG X.A) (ha : DA X W (e :: es) tl wl) (hg : Gl X x := by rfl) (hdb : (x == ("__debug__" : Str)) = false := by decide)
    (he : starEach (e :: es) X.env = (false, eval e X.env) :: starEach es X.env := by rfl) (hpl : (backTo pos (starEach es X.env)).any (·.1) = false := by rfl) (hK : X.K = K := by rfl) :
    DE X W (.Call (.Name x p) (e :: es) [] pos) (tCall (spP K ws) [] E0 tl) (wCall ws wl) := by
  subst hK
  exact let ⟨_, _, hm, hk, hb, F⟩ := h
    ⟨pe_callG F hr hgd hg hm hk hb ha.pa hdb he hpl, sim_call ha.sim⟩
theorem e_callMG {K : PySem.W.Frag} {k : Nat} {ps : List Str} {ws : MSpec} (i : Nat) (h : HasG X.prog X.w X.K X.mg X.base k x ps (spM X.K ws)) (hr : Room k X.A) (hgd : NoG X.A) (ha : DE X W e (tVar i) (wVar i)) (hl : DA X W es tl wl) (hg : Gl X x := by rfl) (hdb : (x == ("__debug__" : Str)) = false := by decide)
    (he : starEach (e :: es) X.env = (false, eval e X.env) :: starEach es X.env := by rfl) (hpl : (backTo pos (starEach es X.env)).any (·.1) = false := by rfl) (hK : X.K = K := by rfl) :
    DE X W (.Call (.Name x p) (e :: es) [] pos) (tCall (spM K ws) [] E0 (tCons (tVar i) tl)) (wCallM ws i wl) := by
  subst hK
  exact let ⟨_, _, hm, hk, hb, F⟩ := h
    ⟨pe_callG F hr hgd hg hm hk hb (pa_cons ha.pe hl.pa he) hdb he hpl, sim_callM hl.sim⟩
theorem relabel_cf {env : Env} : ∀ {names : List (Str × NameKind)} {x : Str}, names.lookup x = some .cell ∨ names.lookup x = some .free →
    (names.map fun (n, k) => if (k == NameKind.free && env.scope.kind == .function && env.kindOf n == some .cell) then (n, NameKind.cell) else (n, k)).lookup x = some .cell ∨
      (names.map fun (n, k) => if (k == NameKind.free && env.scope.kind == .function && env.kindOf n == some .cell) then (n, NameKind.cell) else (n, k)).lookup x = some .free
  | [], _, h => by rcases h with h | h <;> cases h
  | (n, k) :: r, x, h => by
    have e : ∀ q : NameKind, List.lookup x ((n, q) :: r) = if x == n then some q else r.lookup x := fun q => by
      rw [List.lookup_cons]; split <;> simp_all
    rw [List.map_cons]
    by_cases hx : (x == n) = true
    · have hk : k = .cell ∨ k = .free := by simpa [e, hx] using h
      dsimp only
      split
      · exact .inl (by simp [List.lookup_cons, hx])
      · rcases hk with rfl | rfl
        · exact .inl (by simp [List.lookup_cons, hx])
        · exact .inr (by simp [List.lookup_cons, hx])
    · have h' : r.lookup x = some .cell ∨ r.lookup x = some .free := by simpa [e, hx] using h
      have ih := relabel_cf (env := env) h'
      dsimp only
      split <;> simpa [List.lookup_cons, hx] using ih
/-- a comprehension within another -/
theorem blkOk_in {X : Cx} {s : Shared} {H : Hp} {C : Addr} {cl : List (Str × Addr)} {fp : List Addr} {N : List Str} {sc scope : Scope} {own : List (Str × Nat)} (hN : X.N = N) (h : blkC N sc scope own = true) :
    BlkOk (X.blk s H sc (compEnvC sc cl C X.env) fp).N (X.blk s H sc (compEnvC sc cl C X.env) fp).env.scope scope own := by
  subst hN
  have ok : BlkOk X.N sc scope own := blkOk_by h
  exact ⟨ok.kind, ok.uniq, ok.ix, fun y hy e => relabel_cf (ok.free y hy e), ok.own⟩
/-! ### repr -/
def rRepr (K : PySem.W.Frag) : List V → Hp → VK → Prop := fun xs H Q => ∃ v d, xs = [v] ∧ Dp K H v d ∧ d.showable = true ∧ d.hasDict = false ∧ d.depth ≤ 60 ∧ d.shown.length ≤ sizeLine ∧ Q (.str d.shown) H
theorem bb_repr : bootBuiltins "repr" = some (.builtin "repr") := by decide +kernel
theorem call_reprD (hgd : NoG X.A) (hu : X.A.units + 64 < cLine) : CallR X (.builtin "repr") (rRepr X.K) := by
  intro pins s σ H xs us Q I r h
  obtain ⟨v, d, rfl, hd, h1, h2, h3, h4, q⟩ := h
  match us, r with
  | [u], .cons rv .nil =>
    obtain ⟨as, rd⟩ := Dp.reads I d v u hd rv
    have box : ∀ {a : Addr}, u = .ref a → wpAny (model X.prog X.w) X.A (call (.builtin "repr") [u]) (EP X pins σ Q) X.xe s := fun {a} e => by
      subst e
      exact repr_of_reads' rd h1 (fun z => by rw [h2] at z; cases z) hgd (by omega) (fun _ _ z => z) (fun h' t tk k => ⟨.str d.shown, H, I.kept k, ⟨t, rfl⟩, q⟩) h4
    cases rd with
    | none => exact P.repr_of_none ⟨.str _, H, I.tok _, ⟨_, rfl⟩, q⟩
    | bool b => exact P.repr_of_bool ⟨.str _, H, I.tok _, ⟨_, rfl⟩, q⟩
    | int i => exact P.repr_of_int (of_decide_eq_true h1) ⟨.str _, H, I.tok _, ⟨_, rfl⟩, q⟩
    | str y => exact P.repr_of_str ⟨.str _, H, I.tok _, ⟨_, rfl⟩, q⟩ h4
    | list => exact box rfl
    | tuple => exact box rfl
    | dict => exact box rfl
def reprOk (d : D) : Prop := SeqAt.shaped d = true ∧ d.showable = true ∧ d.depth ≤ 60 ∧ d.shown.length ≤ sizeLine
def bRepr : FB := fun ds Q => match ds with
  | [d] => reprOk d ∧ Q (.d (.str d.shown))
  | _ => False
theorem b_repr {K : PySem.W.Frag} : BOk K (rRepr K) bRepr := by
  intro M F Γ σ H vs ds Q Q' rr p w h
  match ds, w with
  | [d], w =>
    obtain ⟨v, rfl, e⟩ := rd1 p
    obtain ⟨⟨w1, w2, w3, w4⟩, w5⟩ := w
    exact ⟨v, d, rfl, e.dp rr.sM w1, w2, PyData.hasDict_of_canLay d (SeqAt.canLay_of_shaped w1), w3, w4, fin_d (Q := Q) (Q' := Q') rr (.str _) w5 h⟩
theorem bt_repr {k : Nat} (hgd : NoG X.A) (hr : Room k X.A) (hK : X.K = K := by rfl) : Bt X (.builtin "repr") (rRepr K) bRepr := by subst hK; exact ⟨call_reprD hgd hr.units, b_repr⟩
end
/-! ### the end of a law whose defs print -/
theorem law_callG {P : Program} {w : World} {K : PySem.W.Frag} {mg mb : Str → Option Value} {k : Nat} {fa a : Addr} {fd : FuncData} {x : Str} {sp : Sp} {s₁ : Shared} {vs : List Value} {ns : List Int}
    (kin : K.In s₁.heap) (hns : s₁.heap.Ns mainGlobals mg) (hb : s₁.heap.Ns builtinsNs mb) (hbb : ∀ x : Str, x ≠ "__name__" → mb x = bootBuiltins x) (lim : s₁.heap.NoLimit) (gens : s₁.gens = #[])
    (hat : s₁.heap.get? a = some { cls := .type "list", data := .seq vs.toArray }) (hints : IntsAre vs ns) (hl : ns.length ≤ sizeLine) (hr : Room k callerA)
    (F : ∀ base : Heap, K.In base → base.Ns mainGlobals mg → FnG P w K mg base k fa fd [x] sp) (bnd : ∀ (s : Shared) (u : Value), BindsTo s fd ⟨[u], []⟩ [(x, u)])
    (hsp : ∀ H : Hp, Only H → SqL K H a (ns.map V.int) → sp [.ref a] H (fun v _ => v = .bl true) fun _ _ _ => False) :
    codeAny (model P w) callerA (.call (.ref fa) ⟨[.ref a], []⟩) (fun r s' => r = .ok (.ret (.bool true)) ∧ OldK s₁.heap s'.heap ∧ s'.os = s₁.os ∧ AllBare s'.gens) s₁ := by
  have rv := vals_ints hints
  have key : ∀ H : Hp, Only H → SqL K H a (ns.map V.int) → HOk P w H s₁.heap → (∀ b, H b ≠ none → b = a ∧ K.lookup a = none) →
      codeAny (model P w) callerA (.call (.ref fa) ⟨[.ref a], []⟩) (fun r s' => r = .ok (.ret (.bool true)) ∧ OldK s₁.heap s'.heap ∧ s'.os = s₁.os ∧ AllBare s'.gens) s₁ := by
    intro H only hS hok hA
    have at_ : ∀ {b : Addr}, b ≠ a → H b = none := fun {b} ne => Classical.byContradiction fun z => ne (hA b z).1
    have free : ∀ {b : Addr} {o : Obj} {es : Array DictEntry} {ep : Nat}, s₁.heap.get? b = some o → o.data = .dict es ep → H b = none := fun {b o es ep} e d => at_ fun z => by
      rw [z, hat] at e
      cases e
      have d' : Data.seq vs.toArray _ = Data.dict es ep := d
      cases d'
    have ns' : ∀ {b : Addr} {m : Str → Option Value}, s₁.heap.Ns b m → (hidT s₁.heap H).Ns b m := fun ⟨o, es, ep, e, d, r⟩ => ⟨o, es, ep, hidT_get e (free e d), d, r⟩
    have kb : K.In (hidT s₁.heap H) := fun b o e => hidT_get (kin b o e) (Classical.byContradiction fun z => by
      obtain ⟨rfl, n⟩ := hA b z
      rw [n] at e
      cases e)
    have e0 : Env0 P w K mg (hidT s₁.heap H) callerA [] s₁ H := by
      obtain ⟨mc, h1, h2⟩ := lim
      exact ⟨rfl, ⟨kb, ns' hns, ⟨mb, ns' hb, hbb⟩, ⟨mc, ns' h1, h2⟩⟩, fun b o e => of_hidT e, Nat.le_of_eq (hidT_size _ _), trivial, (fun b z => nomatch z), hok, .of_eq gens⟩
    refine codeAny_mono ((F _ kb (ns' hns)).go callerA [] s₁ H ⟨[.ref a], []⟩ [.ref a] [.ref a] _ _ hr rfl e0 (bnd s₁ (.ref a)) (.cons rfl .nil) (hsp H only hS)) fun r s' h => ?_
    match r, h with
    | .error e, h => exact h.elim
    | .ok .next, h => exact h.elim
    | .ok .brk, h => exact h.elim
    | .ok .cont, h => exact h.elim
    | .ok (.ret u), ⟨v, H', os, bare, un, hok', r', q⟩ =>
      have q' : v = .bl true := q
      subst q'
      have r2 : u = Value.bool true := r'
      subst r2
      refine ⟨rfl, OldK.of_keep fun b o e => ?_, os, bare⟩
      rcases only b with z | ⟨ob, xs, z⟩
      · exact un.keep b o e z (fun y => (by cases y)) (fun y => (by cases y))
      · obtain ⟨e1, _⟩ := hok b _ z
        obtain ⟨e2, _⟩ := hok' b _ (un.frzs b ob _ z)
        rw [e] at e1
        cases e1
        exact e2
  by_cases hk : K.lookup a = none
  · refine key (fun b => if b = a then some (.frz { cls := .type "list", data := .seq vs.toArray } (.lst (ns.map V.int))) else none) (fun b => ?_) (.inl (.inr ⟨_, if_pos rfl⟩)) (fun b u z => ?_) fun b z => ⟨Classical.byContradiction fun n => z (if_neg n), hk⟩
    · by_cases e : b = a
      · exact .inr ⟨_, _, if_pos e⟩
      · exact .inl (if_neg e)
    · by_cases e : b = a
      · subst e
        have z' := (if_pos rfl).symm.trans z
        cases z'
        exact ⟨hat, by rw [List.length_map]; exact hl, vs, _, rv, hat⟩
      · have z' := (if_neg e).symm.trans z
        cases z'
  · obtain ⟨o, ho⟩ := Option.ne_none_iff_exists'.mp hk
    have e := kin a o ho
    rw [hat] at e
    cases e
    exact key (fun _ => none) (fun _ => .inl rfl) (.inr ⟨_, vs.toArray, _, ho, rfl, rfl, rfl, by rw [List.size_toArray, hints.length]; exact hl, by simpa using rv⟩) (fun b u z => (by cases z)) fun b z => absurd rfl z
theorem walkG_ofE {l : PySem.W.OpenLaw} {n k : Nat} {q : Program} {loose : List Str} {XP : (Str → Option Value) → Heap → Prop} {YP : World → Heap → Prop} {d : DefRec} {x : Str}
    (hn : l.most = some n) (hn2 : n ≤ sizeLine) (hdf : d.params.defaults = []) (hr : Room k callerA)
    (F : ∀ (w : World) (mg : Str → Option Value) (fa : Addr) (h : Heap), YP w h → h.Ns mainGlobals mg → mg d.name = some (.ref fa) → ∃ (K : PySem.W.Frag) (fd : FuncData) (sp : Sp), K.In h ∧ (∀ (s : Shared) (u : Value), BindsTo s fd ⟨[u], []⟩ [(x, u)]) ∧
        (∀ (H : Hp) (a : Addr) (ns : List Int), ns.length ≤ n → Only H → SqL K H a (ns.map V.int) → sp [.ref a] H (fun v _ => v = .bl true) fun _ _ _ => False) ∧ ∀ base : Heap, K.In base → base.Ns mainGlobals mg → FnG l.prog w K mg base k fa fd [x] sp) :
    PySem.W.WalkO q loose XP YP l.row.toRowW d [] (fun f vs => PySem.call f vs) := by
  refine Att.attach_call hn hdf fun w s₀ s₁ mg mb fa o pm cd doc a vs ns G Y ho hd hcd hmg hobj hints hlen hg => ?_
  obtain ⟨K, fd, sp, kin, bnd, hsp, hF⟩ := F w mg fa _ Y G.T.g hmg
  exact law_callG kin G.T.g G.T.b G.T.builtins G.T.nolimit hg hobj hints (Nat.le_trans hlen hn2) hr hF bnd fun H => hsp H a ns hlen
end Pd
end

section
set_option maxRecDepth 100000
set_option maxHeartbeats 1000000
/-! Pg2: data that prints within so many signs. -/
namespace Pd
open PySem PySem.Spec L2
open PyProof.Rows hiding St
set_option autoImplicit false

/-- prints within B signs, lies within n levels -/
structure Nz (B n : Nat) (d : D) : Prop where
  lay : d.canLay0 = true
  sh : d.showable = true
  dp : d.depth ≤ n
  ln : d.shown.length ≤ B
theorem Nz.up {B n B' n' : Nat} {d : D} (h : Nz B n d) (h1 : B ≤ B') (h2 : n ≤ n') : Nz B' n' d := ⟨h.lay, h.sh, Nat.le_trans h.dp h2, Nat.le_trans h.ln h1⟩
theorem nz_none {n : Nat} : Nz 4 n .none := ⟨by simp only [PyData.canLay0], by simp only [PyData.showable], by simp only [PyData.depth]; omega, by simp only [PyData.shown]; decide⟩
theorem nz_bool {n : Nat} (b : Bool) : Nz 5 n (.bool b) := ⟨by simp only [PyData.canLay0], by simp only [PyData.showable], by simp only [PyData.depth]; omega, by cases b <;> simp only [PyData.shown] <;> decide⟩
theorem nz_int {n : Nat} {i : Int} (h : i.natAbs < 10 ^ 60) : Nz 61 n (.int i) := by
  refine ⟨by simp only [PyData.canLay0], ?_, by simp only [PyData.depth]; omega, ?_⟩
  · have := PySem.Flt.log2_lt_of (k := 200) (n := i.natAbs) (by decide) (Nat.lt_of_lt_of_le h (by decide))
    simp only [PyData.showable]
    exact decide_eq_true (by omega)
  · have := int_text_length_le10 (k := 60) (by decide) h
    simp only [PyData.shown]
    have e : (Str.ofString (toString i)).length = (toString i).length := by
      exact PySem.ofString_length _
    rw [e]
    exact this
theorem showAll {xs : List D} (h : ∀ x ∈ xs, x.showable = true) : PyData.showableAll xs = true := by
  induction xs with
  | nil => simp only [PyData.showableAll]
  | cons x xs ih => simp only [PyData.showableAll, h x List.mem_cons_self, ih fun y hy => h y (List.mem_cons_of_mem _ hy), Bool.and_self]
theorem layAll {xs : List D} (h : ∀ x ∈ xs, x.canLay0 = true) : PyData.canLayAll0 xs = true := by
  induction xs with
  | nil => simp only [PyData.canLayAll0]
  | cons x xs ih => simp only [PyData.canLayAll0, h x List.mem_cons_self, ih fun y hy => h y (List.mem_cons_of_mem _ hy), Bool.and_self]
theorem depAll {n : Nat} {xs : List D} (h : ∀ x ∈ xs, x.depth ≤ n) : PyData.depthAll xs ≤ n := by
  induction xs with
  | nil => simp only [PyData.depthAll]; omega
  | cons x xs ih =>
    simp only [PyData.depthAll]
    exact Nat.max_le.mpr ⟨h x List.mem_cons_self, ih fun y hy => h y (List.mem_cons_of_mem _ hy)⟩
theorem sumAll {B : Nat} {xs : List D} (h : ∀ x ∈ xs, x.shown.length ≤ B) : ((PyData.shownAll xs).map (·.length)).sum ≤ xs.length * B ∧ (PyData.shownAll xs).length = xs.length := by
  induction xs with
  | nil => simp [PyData.shownAll]
  | cons x xs ih =>
    obtain ⟨i1, i2⟩ := ih fun y hy => h y (List.mem_cons_of_mem _ hy)
    have := h x List.mem_cons_self
    simp only [PyData.shownAll, List.map_cons, List.sum_cons, List.length_cons, Nat.succ_mul, i2, and_true]
    omega
theorem nz_list {B n : Nat} {xs : List D} (h : ∀ x ∈ xs, Nz B n x) : Nz (xs.length * (B + 2) + 3) (n + 1) (.list xs) := by
  obtain ⟨s1, s2⟩ := sumAll fun x hx => (h x hx).ln
  refine ⟨by simp only [PyData.canLay0]; exact layAll fun x hx => (h x hx).lay, by simp only [PyData.showable]; exact showAll fun x hx => (h x hx).sh, by simp only [PyData.depth]; exact Nat.succ_le_succ (depAll fun x hx => (h x hx).dp), ?_⟩
  simp only [PyData.shown]
  have := listText_len_le (PyData.shownAll xs)
  rw [s2] at this
  rw [Nat.mul_add]
  omega
theorem nz_tuple {B n : Nat} {xs : List D} (h : ∀ x ∈ xs, Nz B n x) : Nz (xs.length * (B + 2) + 3) (n + 1) (.tuple xs) := by
  obtain ⟨s1, s2⟩ := sumAll fun x hx => (h x hx).ln
  refine ⟨by simp only [PyData.canLay0]; exact layAll fun x hx => (h x hx).lay, by simp only [PyData.showable]; exact showAll fun x hx => (h x hx).sh, by simp only [PyData.depth]; exact Nat.succ_le_succ (depAll fun x hx => (h x hx).dp), ?_⟩
  simp only [PyData.shown]
  have := tupleText_len_le (PyData.shownAll xs)
  rw [s2] at this
  rw [Nat.mul_add]
  omega
theorem nz_ints {ns : List Int} (h : ∀ i ∈ ns, i.natAbs < 10 ^ 60) : Nz (ns.length * 63 + 3) 1 (.list (ns.map PyData.int)) := by
  have := nz_list (B := 61) (n := 0) (xs := ns.map PyData.int) fun x hx => by
    obtain ⟨i, hi, rfl⟩ := List.mem_map.mp hx
    exact nz_int (h i hi)
  rwa [List.length_map] at this
theorem nz_intsT {ns : List Int} (h : ∀ i ∈ ns, i.natAbs < 10 ^ 60) : Nz (ns.length * 63 + 3) 1 (.tuple (ns.map PyData.int)) := by
  have := nz_tuple (B := 61) (n := 0) (xs := ns.map PyData.int) fun x hx => by
    obtain ⟨i, hi, rfl⟩ := List.mem_map.mp hx
    exact nz_int (h i hi)
  rwa [List.length_map] at this
theorem reprOk_of {B n : Nat} {d : D} (h : Nz B n d) (h1 : B ≤ 16777216) (h2 : n ≤ 60) : reprOk d := by
  have := h.dp
  refine ⟨?_, h.sh, by omega, by rw [sizeLine_eq]; exact Nat.le_trans h.ln h1⟩
  unfold SeqAt.shaped
  rw [h.lay, decide_eq_true (by omega)]
  rfl
/-- a comprehension whose turns may change the slots, within what Inv says -/
theorem lcGo_inv {α : Type} (emb : α → D) {wg : WG} {wt : WT} {we : WE} {vs : List Nat} {Q : List D → Sl → Prop} (Inv : Sl → Prop) (g : α → Bool) (f : α → D) : ∀ {xs : List α} {acc : List D} {Γ : Sl},
    (∀ x ∈ xs, ∀ Γ, Inv Γ → ∀ (k1 : D → Sl → Prop) (k2 : Sl → Prop), (g x = true → ∀ Γ', Inv Γ' → k1 (f x) Γ') → (g x = false → ∀ Γ', Inv Γ' → k2 Γ') →
      wg (emb x) (wipeD Γ vs) fun Γ1 => wt Γ1 fun b Γ2 => if b = true then we Γ2 fun o Γ3 => fz Γ3 o fun y Γ4 => k1 y (back Γ Γ4 vs) else k2 (back Γ Γ2 vs)) →
    acc.length + xs.length ≤ sizeLine → Inv Γ → (∀ Γ', Inv Γ' → Q (acc ++ (xs.filter g).map f) Γ') → lcGo wg wt we vs Q (xs.map emb) acc Γ
  | [], acc, Γ, _, _, hi, q => by simpa [lcGo] using q Γ hi
  | x :: xs, acc, Γ, h, hl, hi, q => by
    have more : ∀ (acc' : List D) (Γ' : Sl), acc'.length + xs.length ≤ sizeLine → Inv Γ' → (∀ Γ', Inv Γ' → Q (acc' ++ (xs.filter g).map f) Γ') → lcGo wg wt we vs Q (xs.map emb) acc' Γ' :=
      fun acc' Γ' h1 h2 h3 => lcGo_inv emb Inv g f (fun d hd => h d (List.mem_cons_of_mem _ hd)) h1 h2 h3
    simp only [List.length_cons] at hl
    refine h x List.mem_cons_self Γ hi (fun y Γ' => acc.length < sizeLine ∧ lcGo wg wt we vs Q (xs.map emb) (acc ++ [y]) Γ') (fun Γ' => lcGo wg wt we vs Q (xs.map emb) acc Γ') (fun e Γ' h' => ⟨by omega, more _ _ ?_ h' fun Γ2 h2 => ?_⟩) fun e Γ' h' => more _ _ (by omega) h' fun Γ2 h2 => ?_
    · simp only [List.length_append, List.length_cons, List.length_nil]; omega
    · have := q Γ2 h2
      rw [List.filter_cons_of_pos e] at this
      simpa using this
    · have := q Γ2 h2
      rw [List.filter_cons_of_neg (by simp [e])] at this
      exact this
theorem lcGo_invA {α : Type} (emb : α → D) {wg : WG} {we : WE} {vs : List Nat} {Q : List D → Sl → Prop} {Γ : Sl} (Inv : Sl → Prop) (f : α → D) {xs : List α} {acc : List D}
    (h : ∀ x ∈ xs, ∀ Γ, Inv Γ → ∀ (k1 : D → Sl → Prop), (∀ Γ', Inv Γ' → k1 (f x) Γ') → wg (emb x) (wipeD Γ vs) fun Γ1 => we Γ1 fun o Γ3 => fz Γ3 o fun y Γ4 => k1 y (back Γ Γ4 vs))
    (hl : acc.length + xs.length ≤ sizeLine) (hi : Inv Γ) (q : ∀ Γ', Inv Γ' → Q (acc ++ xs.map f) Γ') : lcGo wg wYes we vs Q (xs.map emb) acc Γ := by
  refine lcGo_inv emb Inv (fun _ => true) f (fun x hx Γ hi k1 k2 h1 _ => ?_) hl hi fun Γ' h' => by rw [List.filter_eq_self.mpr (by simp)]; exact q Γ' h'
  unfold wYes
  simp only [if_true]
  exact h x hx Γ hi k1 (h1 rfl)
/-- a list of one's own, or the same for good -/
def OwnOr (L : List D) (s : SV) : Prop := s = .own none L ∨ s = .imm (.list L)
end Pd
end

section
set_option maxRecDepth 100000
/-! B1: numbers as plain functions. -/
namespace B
set_option autoImplicit false

/-! ### sorting, by insertion -/
def ins (x : Int) : List Int → List Int
  | [] => [x]
  | y :: r => if x ≤ y then x :: y :: r else y :: ins x r
def isort : List Int → List Int
  | [] => []
  | x :: r => ins x (isort r)
theorem ins_perm (x : Int) : ∀ l : List Int, (ins x l).Perm (x :: l)
  | [] => List.Perm.refl _
  | y :: r => by
    unfold ins
    split
    · exact List.Perm.refl _
    · exact ((ins_perm x r).cons y).trans (List.Perm.swap x y r)
theorem isort_perm : ∀ l : List Int, (isort l).Perm l
  | [] => List.Perm.refl _
  | x :: r => (ins_perm x (isort r)).trans ((isort_perm r).cons x)
theorem ins_sorted (x : Int) : ∀ {l : List Int}, l.Pairwise (· ≤ ·) → (ins x l).Pairwise (· ≤ ·)
  | [], _ => by simp [ins]
  | y :: r, h => by
    unfold ins
    split
    · next e =>
      refine List.Pairwise.cons (fun z hz => ?_) h
      rcases List.mem_cons.mp hz with rfl | hz
      · exact e
      · exact Int.le_trans e ((List.pairwise_cons.mp h).1 z hz)
    · next e =>
      obtain ⟨h1, h2⟩ := List.pairwise_cons.mp h
      refine List.Pairwise.cons (fun z hz => ?_) (ins_sorted x h2)
      rcases List.mem_cons.mp ((ins_perm x r).mem_iff.mp hz) with rfl | hz
      · omega
      · exact h1 z hz
theorem isort_sorted : ∀ l : List Int, (isort l).Pairwise (· ≤ ·)
  | [] => List.Pairwise.nil
  | x :: r => ins_sorted x (isort_sorted r)
theorem isort_eq {a l : List Int} (h : a.Perm l) (s : a.Pairwise (· ≤ ·)) : a = isort l := PySem.W.ksm_same (h.trans (isort_perm l).symm) s (isort_sorted l)
theorem isort_len (l : List Int) : (isort l).length = l.length := (isort_perm l).length_eq

/-! ### factors -/
def stripGo : Nat → Nat → Nat → Nat → Nat × Nat
  | 0, left, _, many => (left, many)
  | f + 1, left, one, many => if left % one = 0 then stripGo f (left / one) one (many + 1) else (left, many)
def facGo : Nat → Nat → Nat → List (Nat × Nat) → List (Nat × Nat)
  | 0, _, _, acc => acc
  | f + 1, left, one, acc =>
    if one * one ≤ left then
      let r := stripGo left left one 0
      facGo f r.1 (one + 1) (if 0 < r.2 then acc ++ [(one, r.2)] else acc)
    else if 1 < left then acc ++ [(left, 1)] else acc
def facs (n : Nat) : List (Nat × Nat) := facGo n n 2 []
def prodF : List (Nat × Nat) → Nat
  | [] => 1
  | p :: r => p.1 ^ p.2 * prodF r
theorem prodF_append : ∀ a b : List (Nat × Nat), prodF (a ++ b) = prodF a * prodF b
  | [], b => by simp [prodF]
  | p :: a, b => by
    show p.1 ^ p.2 * prodF (a ++ b) = p.1 ^ p.2 * prodF a * prodF b
    rw [prodF_append a b, Nat.mul_assoc]
def Good (l : List (Nat × Nat)) : Prop := ∀ p ∈ l, 2 ≤ p.1 ∧ 1 ≤ p.2
theorem stripGo_succ (f left one many : Nat) : stripGo (f + 1) left one many = if left % one = 0 then stripGo f (left / one) one (many + 1) else (left, many) := rfl
/-- what is stripped: the power, and what is left -/
theorem strip_spec {one : Nat} (h1 : 2 ≤ one) : ∀ (f left many : Nat), 1 ≤ left → left ≤ f →
    ∃ e, (stripGo f left one many).2 = many + e ∧ (stripGo f left one many).1 * one ^ e = left ∧ 1 ≤ (stripGo f left one many).1 ∧ (stripGo f left one many).1 % one ≠ 0
  | 0, left, many, h, hf => by omega
  | f + 1, left, many, h, hf => by
    unfold stripGo
    by_cases e : left % one = 0
    · rw [if_pos e]
      have hd : one * (left / one) = left := Nat.mul_div_cancel' (Nat.dvd_of_mod_eq_zero e)
      have h2 : 1 ≤ left / one := Nat.pos_of_ne_zero fun z => by rw [z] at hd; omega
      have h3 : left / one < left := Nat.div_lt_self h h1
      obtain ⟨k, a, b, c, d⟩ := strip_spec h1 f (left / one) (many + 1) h2 (by omega)
      refine ⟨k + 1, by rw [a]; omega, ?_, c, d⟩
      rw [Nat.pow_succ, ← Nat.mul_assoc, b, Nat.mul_comm]
      exact hd
    · rw [if_neg e]
      exact ⟨0, by simp, by simp, h, e⟩
theorem facGo_spec : ∀ (f left one : Nat) (acc : List (Nat × Nat)), 2 ≤ one → 1 ≤ left → left - one < f → Good acc → prodF (facGo f left one acc) = prodF acc * left ∧ Good (facGo f left one acc)
  | 0, _, _, _, _, _, h, _ => by omega
  | f + 1, left, one, acc, h1, h2, h3, g => by
    unfold facGo
    by_cases e : one * one ≤ left
    · rw [if_pos e]
      obtain ⟨k, a, b, c, d⟩ := strip_spec h1 left left 0 h2 (Nat.le_refl _)
      have hle : one < left := by
        have : one * 2 ≤ one * one := Nat.mul_le_mul_left one h1
        omega
      have hle2 : (stripGo left left one 0).1 ≤ left := Nat.le_trans (Nat.le_mul_of_pos_right _ (Nat.pow_pos (Nat.lt_of_lt_of_le Nat.two_pos h1))) (Nat.le_of_eq b)
      rw [Nat.zero_add] at a
      have ga : Good (if 0 < (stripGo left left one 0).2 then acc ++ [(one, (stripGo left left one 0).2)] else acc) := by
        split
        · next hk =>
          intro p hp
          rcases List.mem_append.mp hp with hp | hp
          · exact g p hp
          · rw [List.mem_singleton.mp hp]
            exact ⟨h1, hk⟩
        · exact g
      have hlt : (stripGo left left one 0).1 - (one + 1) < f := Nat.lt_of_le_of_lt (Nat.sub_le_sub_right hle2 _) (by clear b; omega)
      obtain ⟨p1, p2⟩ := facGo_spec f (stripGo left left one 0).1 (one + 1) _ (by omega) c hlt ga
      refine ⟨?_, p2⟩
      rw [p1]
      split
      · rw [prodF_append]
        simp only [prodF, Nat.mul_one]
        rw [a, Nat.mul_assoc, Nat.mul_comm (one ^ k), b]
      · next hk =>
        have : k = 0 := by omega
        subst this
        simp only [Nat.pow_zero, Nat.mul_one] at b
        rw [b]
    · rw [if_neg e]
      split
      · next hl =>
        refine ⟨by rw [prodF_append]; simp [prodF], fun p hp => ?_⟩
        rcases List.mem_append.mp hp with hp | hp
        · exact g p hp
        · rw [List.mem_singleton.mp hp]
          exact ⟨hl, Nat.le_refl _⟩
      · next hl =>
        have : left = 1 := by omega
        subst this
        exact ⟨by simp, g⟩
theorem facs_prod {n : Nat} (h : 1 ≤ n) : prodF (facs n) = n := by
  have := (facGo_spec n n 2 [] (by omega) h (by omega) (fun _ z => by cases z)).1
  simpa [prodF, facs] using this
theorem facs_good {n : Nat} (h : 1 ≤ n) : Good (facs n) := (facGo_spec n n 2 [] (by omega) h (by omega) (fun _ z => by cases z)).2
theorem prodF_pos : ∀ {l : List (Nat × Nat)}, Good l → 1 ≤ prodF l
  | [], _ => Nat.le_refl _
  | p :: r, g => by
    have h1 := (g p List.mem_cons_self).1
    exact Nat.mul_pos (Nat.pow_pos (by omega)) (prodF_pos fun q hq => g q (List.mem_cons_of_mem _ hq))
theorem succ_le_pow {p e : Nat} (hp : 2 ≤ p) : e + 1 ≤ p ^ e := by
  induction e with
  | zero => simp
  | succ e ih =>
    rw [Nat.pow_succ]
    have : p ^ e * 2 ≤ p ^ e * p := Nat.mul_le_mul_left _ hp
    omega
theorem good_len : ∀ {l : List (Nat × Nat)}, Good l → l.length + 1 ≤ prodF l
  | [], _ => Nat.le_refl _
  | p :: r, g => by
    have ih := good_len (l := r) fun q hq => g q (List.mem_cons_of_mem _ hq)
    obtain ⟨h1, h2⟩ := g p List.mem_cons_self
    have h3 : 2 ≤ p.1 ^ p.2 := Nat.le_trans (by omega : 2 ≤ p.2 + 1) (succ_le_pow h1)
    show r.length + 1 + 1 ≤ p.1 ^ p.2 * prodF r
    have : 2 * prodF r ≤ p.1 ^ p.2 * prodF r := Nat.mul_le_mul_right _ h3
    omega
theorem good_mem : ∀ {l : List (Nat × Nat)}, Good l → ∀ p ∈ l, p.1 ^ p.2 ≤ prodF l
  | q :: r, g, p, hp => by
    have gr : Good r := fun q hq => g q (List.mem_cons_of_mem _ hq)
    rcases List.mem_cons.mp hp with rfl | hp
    · exact Nat.le_mul_of_pos_right _ (prodF_pos gr)
    · have := good_mem gr p hp
      have h1 := (g q List.mem_cons_self).1
      exact Nat.le_trans this (Nat.le_mul_of_pos_left _ (Nat.pow_pos (by omega)))
theorem facs_len {n : Nat} (h : 1 ≤ n) : (facs n).length < n := by
  have := good_len (facs_good h)
  rw [facs_prod h] at this
  omega
theorem facs_mem {n : Nat} (h : 1 ≤ n) {p : Nat × Nat} (hp : p ∈ facs n) : 2 ≤ p.1 ∧ 1 ≤ p.2 ∧ p.1 ≤ n ∧ p.2 < n ∧ p.1 ^ p.2 ≤ n := by
  have h1 := facs_good h p hp
  have h2 := good_mem (facs_good h) p hp
  rw [facs_prod h] at h2
  have h3 : p.1 ≤ p.1 ^ p.2 := Nat.le_self_pow (by omega) p.1
  have h4 := succ_le_pow (e := p.2) h1.1
  exact ⟨h1.1, h1.2, by omega, by omega, h2⟩

/-! ### divisors, mu, phi -/
def grownM (some : List Int) (p : Int) (m : Nat) : List Int := (List.range (m + 1)).flatMap fun k => some.map (· * p ^ k)
def divsI (n : Nat) : List Int := (facs n).foldl (fun acc pe => grownM acc pe.1 pe.2) [1]
def divs (n : Nat) : List Int := isort (divsI n)
def mu (n : Nat) : Int := if (facs n).any (fun p => decide (1 < p.2)) then 0 else if (facs n).length % 2 = 0 then 1 else -1
def phi (n : Nat) : Nat := (facs n).foldl (fun f pe => f / pe.1 * (pe.1 - 1)) n
theorem grownM_len (some : List Int) (p : Int) (m : Nat) : (grownM some p m).length = (m + 1) * some.length := by
  unfold grownM
  rw [List.length_flatMap]
  have : ∀ n : Nat, (List.map (fun k => (some.map (· * p ^ k)).length) (List.range n)).sum = n * some.length := by
    intro n
    induction n with
    | zero => simp
    | succ n ih =>
      rw [List.range_succ, List.map_append, List.sum_append, ih]
      simp [Nat.succ_mul]
  exact this (m + 1)
theorem divsI_len : ∀ (l : List (Nat × Nat)) (acc : List Int), Good l → (l.foldl (fun acc pe => grownM acc pe.1 pe.2) acc).length ≤ acc.length * prodF l
  | [], acc, _ => by simp [prodF]
  | p :: r, acc, g => by
    have h := divsI_len r (grownM acc p.1 p.2) fun q hq => g q (List.mem_cons_of_mem _ hq)
    refine Nat.le_trans h ?_
    rw [grownM_len]
    show (p.2 + 1) * acc.length * prodF r ≤ acc.length * (p.1 ^ p.2 * prodF r)
    rw [← Nat.mul_assoc, Nat.mul_comm (p.2 + 1)]
    exact Nat.mul_le_mul_right _ (Nat.mul_le_mul_left _ (succ_le_pow (g p List.mem_cons_self).1))
theorem divsI_le {n : Nat} (h : 1 ≤ n) : (divsI n).length ≤ n := by
  have := divsI_len (facs n) [1] (facs_good h)
  rw [facs_prod h] at this
  simpa [divsI] using this
theorem divs_le {n : Nat} (h : 1 ≤ n) : (divs n).length ≤ n := by rw [divs, isort_len]; exact divsI_le h
theorem phi_le_go : ∀ (l : List (Nat × Nat)) (f : Nat), l.foldl (fun f pe => f / pe.1 * (pe.1 - 1)) f ≤ f
  | [], f => Nat.le_refl _
  | p :: r, f => by
    refine Nat.le_trans (phi_le_go r _) ?_
    refine Nat.le_trans (Nat.mul_le_mul_left _ (Nat.sub_le _ 1)) ?_
    exact Nat.div_mul_le_self f p.1
theorem phi_le (n : Nat) : phi n ≤ n := phi_le_go _ _
theorem mem_grownM {l : List Int} {p : Int} {m : Nat} {d : Int} (h : d ∈ grownM l p m) : ∃ k ≤ m, ∃ x ∈ l, d = x * p ^ k := by
  unfold grownM at h
  obtain ⟨k, hk, hd⟩ := List.mem_flatMap.mp h
  obtain ⟨x, hx, rfl⟩ := List.mem_map.mp hd
  exact ⟨k, by have := List.mem_range.mp hk; omega, x, hx, rfl⟩
theorem divsI_dvd : ∀ (l : List (Nat × Nat)) (acc : List Int) (A : Nat), Good l → (∀ d ∈ acc, 1 ≤ d ∧ d ∣ (A : Int)) → ∀ d ∈ l.foldl (fun acc pe => grownM acc pe.1 pe.2) acc, 1 ≤ d ∧ d ∣ ((A * prodF l : Nat) : Int)
  | [], acc, A, _, h, d, hd => by simpa [prodF] using h d hd
  | p :: r, acc, A, g, h, d, hd => by
    have gr : Good r := fun q hq => g q (List.mem_cons_of_mem _ hq)
    obtain ⟨g1, _⟩ := g p List.mem_cons_self
    have := divsI_dvd r (grownM acc p.1 p.2) (A * p.1 ^ p.2) gr (fun e he => by
      obtain ⟨k, hk, x, hx, rfl⟩ := mem_grownM he
      obtain ⟨x1, x2⟩ := h x hx
      have hp : (0 : Int) < (p.1 : Int) ^ k := Int.pow_pos (by omega)
      refine ⟨?_, ?_⟩
      · have : 1 * 1 ≤ x * (p.1 : Int) ^ k := Int.mul_le_mul x1 (by omega) (by omega) (by omega)
        omega
      · rw [Int.natCast_mul, Int.natCast_pow]
        refine Int.mul_dvd_mul x2 ⟨(p.1 : Int) ^ (p.2 - k), ?_⟩
        rw [← Int.pow_add]
        congr 1
        omega) d hd
    rw [Nat.mul_assoc] at this
    exact this
theorem divs_mem {n : Nat} (h : 1 ≤ n) {d : Int} (hd : d ∈ divs n) : 1 ≤ d ∧ d ∣ (n : Int) ∧ d ≤ n := by
  have := divsI_dvd (facs n) [1] 1 (facs_good h) (by simp) d ((isort_perm _).mem_iff.mp hd)
  rw [Nat.one_mul, facs_prod h] at this
  exact ⟨this.1, this.2, Int.le_of_dvd (by omega) this.2⟩
theorem phi_pos_go : ∀ (l : List (Nat × Nat)) (f : Nat), Good l → 1 ≤ f → prodF l ∣ f → 1 ≤ l.foldl (fun f pe => f / pe.1 * (pe.1 - 1)) f
  | [], f, _, h, _ => h
  | p :: r, f, g, h, hd => by
    obtain ⟨g1, g2⟩ := g p List.mem_cons_self
    obtain ⟨c, hc⟩ := hd
    obtain ⟨e, he⟩ : ∃ e, p.2 = e + 1 := ⟨p.2 - 1, by omega⟩
    have hf : f = p.1 * (prodF r * (p.1 ^ e * c)) := by
      rw [hc]
      show p.1 ^ p.2 * prodF r * c = _
      rw [he, Nat.pow_succ, Nat.mul_comm (p.1 ^ e) p.1]
      simp only [Nat.mul_assoc, Nat.mul_left_comm, Nat.mul_comm]
    have hq : f / p.1 = prodF r * (p.1 ^ e * c) := by rw [hf]; exact Nat.mul_div_cancel_left _ (by omega)
    refine phi_pos_go r _ (fun q hq => g q (List.mem_cons_of_mem _ hq)) ?_ ?_
    · show 1 ≤ f / p.1 * (p.1 - 1)
      rw [hq]
      refine Nat.mul_pos (Nat.pos_of_ne_zero fun z => ?_) (by omega)
      rw [z, Nat.mul_zero] at hf
      omega
    · show prodF r ∣ f / p.1 * (p.1 - 1)
      rw [hq]
      exact Nat.dvd_trans (Nat.dvd_mul_right _ _) (Nat.dvd_mul_right _ _)
theorem phi_pos {n : Nat} (h : 1 ≤ n) : 1 ≤ phi n := phi_pos_go _ _ (facs_good h) h (by rw [facs_prod h]; exact Nat.dvd_refl _)
end B
end

section
set_option maxRecDepth 100000
set_option maxHeartbeats 1000000
/-! B2: the defs of whole numbers. -/
namespace T
open PySem PySem.Spec L2 Pd
open PyProof.Rows hiding St
set_option autoImplicit false
local macro_rules | `(tactic| walk_at "pd") => `(tactic| simp only [wSeq, wSet, wRet, wRetN, wDrop, wIfS, wNext, wNever, wBreak, wCont, wAsg, wgName, wgNil, wgCons, wgTup, wPar, wFCons, wNil, wCons, preps, prep, setAll, wVar, wC, wOp, wUn, wTest, wTruth, truD, wAnd, wOr, wNot, wAndV, wOrV, wNotV, wIf, wChain,
  wTup, wLst, wCB, wNoPart, wPart, wSl, wIsi, wIsi2, wCall, wCallM, wOwn, wAppend, wExtend, wPop, wCount, wSetIx, wAug, wFor, wSq, wRange1, wRange2, wZip, wEnum, wLc, noOwn, wYes, asInt, seqD, rs, rsv, stl, fz, fzs, rss, isLst,
  opAdd, opSub, opMul, opFdiv, opMod, opPow, opLt, opLe, opGt, opGe, opEq, opNe, opIn, opNotIn, opIs, opIsNot, isNone, opNeg, opIx, opSl, bLen, bAbs, bInt, bSum, bMax, bMin, bAll, bAny, bSorted, bTuple, bList, bMax2, bMin2, ipAdd, ipSub, isD_int_none, isD_int_bool, isD_int_int, isD_int_str, isD_int_list, isD_int_tuple, isD_bool_none, isD_bool_bool, isD_bool_int, isD_bool_str, isD_bool_list, isD_bool_tuple, isD_str_none, isD_str_bool, isD_str_int, isD_str_str, isD_str_list, isD_str_tuple, isD_list_none, isD_list_bool, isD_list_int, isD_list_str, isD_list_list, isD_list_tuple, isD_tuple_none, isD_tuple_bool, isD_tuple_int, isD_tuple_str, isD_tuple_list, isD_tuple_tuple, isD_dict_none, isD_dict_bool, isD_dict_int, isD_dict_str, isD_dict_list, isD_dict_tuple, flatD,
  wipeD, back, startD, endsP, startM, endsM, own0, List.map_cons, List.map_nil, List.nil_append, List.cons_append, List.length_cons, List.length_nil, List.replicate_succ, List.replicate_zero, List.getElem?_cons_zero, List.getElem?_cons_succ, List.getElem?_nil, List.set_cons_zero, List.set_cons_succ, Nat.sub_zero, Nat.reduceSub, Nat.reduceAdd, Nat.zero_add,
  shaped_int, eqv_int, true_and, and_true, if_true, if_false, Bool.false_eq_true, Bool.true_eq_false, Bool.and_true, Bool.true_and, Bool.and_false, Bool.false_and, Bool.not_true, Bool.not_false, reduceIte, decide_eq_true_eq, decide_eq_false_iff_not, Option.getD_some, Option.getD_none, beq_iff_eq, Bool.or_true, Bool.true_or, Bool.or_false, Bool.false_or])

/-! is_integer, is_within, check_number -/
def sp_is_integer : FSpec := fun ds Q => match ds with
  | [d] => Q (.bool (isD .int d && !isD .bool d))
  | _ => False
theorem len_is_integer : ∀ ds Q, sp_is_integer ds Q → ds.length = 1 := fun ds Q h => match ds, h with
  | [_], _ => rfl
def w_is_integer : WS := wRet (wAndV (wIsi .int (wVar 0)) (wNotV (wIsi .bool (wVar 0))))
theorem ok_is_integer : ∀ ds Qd, sp_is_integer ds Qd → w_is_integer (endsP Qd) (startD 1 ds) := fun ds Qd h => match ds, h with
  | [d], h => by
    unfold w_is_integer
    unfold sp_is_integer at h
    cases d <;> (walk_at "pd"; first | exact h | simpa [isD] using h)
def sp_is_within : FSpec := fun ds Q => match ds with
  | [.int i, .int lo, .int hi] => Q (.bool (decide (lo ≤ i) && decide (i ≤ hi)))
  | [.none, .int _, .int _] => Q (.bool false)
  | [.bool _, .int _, .int _] => Q (.bool false)
  | [.str _, .int _, .int _] => Q (.bool false)
  | [.tuple _, .int _, .int _] => Q (.bool false)
  | [.list _, .int _, .int _] => Q (.bool false)
  | _ => False
theorem len_is_within : ∀ ds Q, sp_is_within ds Q → ds.length = 3 := fun ds Q h => by
  unfold sp_is_within at h
  split at h <;> first | rfl | exact h.elim
def w_is_within : WS := wRet (wAndV (wCall sp_is_integer (wCons (wVar 0) (wNil))) (wChain opLe opLe (wVar 1) (wVar 0) (wVar 2)))
theorem ok_is_within : ∀ ds Qd, sp_is_within ds Qd → w_is_within (endsP Qd) (startD 3 ds) := fun ds Qd h => by
  unfold sp_is_within at h
  split at h
  all_goals first
    | exact h.elim
    | (unfold w_is_within; walk_at "pd"; simp only [sp_is_integer]; walk_at "pd"; exact h)
    | (next i lo hi =>
        unfold w_is_within
        walk_at "pd"
        simp only [sp_is_integer]
        walk_at "pd"
        by_cases h1 : lo ≤ i
        · simpa [h1] using h
        · simpa [h1] using h)
def sp_check_number : FSpec := fun ds Q => match ds with
  | [.int i, .int lo, .int hi] => (lo ≤ i ∧ i ≤ hi) ∧ Q .none
  | _ => False
theorem len_check_number : ∀ ds Q, sp_check_number ds Q → ds.length = 3 := fun ds Q h => by
  unfold sp_check_number at h
  split at h <;> first | rfl | exact h.elim
def w_check_number : WS := wIfS (wNot (wTruth (wCall sp_is_within (wCons (wVar 0) (wCons (wVar 1) (wCons (wVar 2) (wNil))))))) (wNever) (wNext)
theorem ok_check_number : ∀ ds Qd, sp_check_number ds Qd → w_check_number (endsP Qd) (startD 3 ds) := fun ds Qd h => by
  unfold sp_check_number at h
  split at h
  · next i lo hi =>
    unfold w_check_number
    walk_at "pd"
    simp only [sp_is_within]
    skip
    obtain ⟨⟨h1, h2⟩, h⟩ := h
    simpa [h1, h2] using h
  · exact h.elim
/-! common -/
def sp_common : FSpec := fun ds Q => match ds with
  | [.int a, .int b] => Q (.int (Int.gcd a b : Nat))
  | _ => False
theorem len_common : ∀ ds Q, sp_common ds Q → ds.length = 2 := fun ds Q h => by
  unfold sp_common at h
  split at h <;> first | rfl | exact h.elim
def w_common : WS := wSeq (wPar [0, 1] (wFCons (wCB bAbs (wCons (wVar 0) (wNil))) (wFCons (wCB bAbs (wCons (wVar 1) (wNil))) (wNil)))) (wSeq (wWhile (wTest (wOp opGt (wVar 1) (wC
    (.int 0)))) (wPar [0, 1] (wFCons (wVar 1) (wFCons (wOp opMod (wCB bInt (wCons (wVar 0) (wNil))) (wVar 1)) (wNil))))) (wRet (wVar 0)))
theorem abs_nat (i : Int) : (if i < 0 then -i else i) = (i.natAbs : Int) := by split <;> omega
theorem ok_common : ∀ ds Qd, sp_common ds Qd → w_common (endsP Qd) (startD 2 ds) := fun ds Qd h => by
  unfold sp_common at h
  split at h
  · next a b =>
    unfold w_common
    walk_at "pd"
    rw [abs_nat, abs_nat]
    refine wWhile_st (α := Nat × Nat) (fun p => [some (.imm (.int (p.1 : Int))), some (.imm (.int (p.2 : Int)))]) (fun p => Nat.gcd p.1 p.2 = Int.gcd a b) (fun p => p.2) (fun p N hp hN => ?_) (a := (a.natAbs, b.natAbs)) rfl
    obtain ⟨x, y⟩ := p
    walk_at "pd"
    by_cases hy : (0 : Int) < (y : Int)
    · rw [if_pos hy]
      have hy' : 0 < y := by omega
      refine ⟨hy, ?_⟩
      have := hN (y, x % y) (by rw [← hp]; simp only; rw [Nat.gcd_comm y, ← Nat.gcd_rec, Nat.gcd_comm]) (Nat.mod_lt _ hy')
      simpa using this
    · rw [if_neg hy]
      have hy' : y = 0 := by omega
      subst hy'
      simp only [Nat.gcd_zero_right] at hp
      rw [hp]
      exact h
  · exact h.elim
end T
end

section
set_option maxRecDepth 100000
set_option maxHeartbeats 1000000
/-! B3: powers, factors, divisors. -/
namespace T
open PySem PySem.Spec L2 Pd
open PyProof.Rows hiding St
set_option autoImplicit false
local macro_rules | `(tactic| walk_at "pd") => `(tactic| try simp only [wSeq, wSet, wRet, wRetO, wCallO, wRetN, wDrop, wIfS, wNext, wNever, wBreak, wCont, wAsg, wgName, wgNil, wgCons, wgTup, wPar, wFCons, wNil, wCons, preps, prep, setAll, wVar, wC, wOp, wUn, wTest, wTruth, truD, wAnd, wOr, wNot, wAndV, wOrV, wNotV, wIf, wChain,
  wTup, wLst, wCB, wNoPart, wPart, wSl, wIsi, wIsi2, wCall, wCallM, wOwn, wAppend, wExtend, wPop, wCount, wSetIx, wAug, wFor, wSq, wRange1, wRange2, wZip, wEnum, wLc, noOwn, wYes, asInt, seqD, rs, rsv, stl, fz, fzs, rss, isLst,
  opAdd, opSub, opMul, opFdiv, opMod, opPow, opLt, opLe, opGt, opGe, opEq, opNe, opIn, opNotIn, opIs, opIsNot, isNone, opNeg, opIx, opSl, bLen, bAbs, bInt, bSum, bMax, bMin, bAll, bAny, bSorted, bTuple, bList, bMax2, bMin2, bRepr, ipAdd, ipSub, isD_int_none, isD_int_bool, isD_int_int, isD_int_str, isD_int_list, isD_int_tuple, isD_bool_none, isD_bool_bool, isD_bool_int, isD_bool_str, isD_bool_list, isD_bool_tuple, isD_str_none, isD_str_bool, isD_str_int, isD_str_str, isD_str_list, isD_str_tuple, isD_list_none, isD_list_bool, isD_list_int, isD_list_str, isD_list_list, isD_list_tuple, isD_tuple_none, isD_tuple_bool, isD_tuple_int, isD_tuple_str, isD_tuple_list, isD_tuple_tuple, isD_dict_none, isD_dict_bool, isD_dict_int, isD_dict_str, isD_dict_list, isD_dict_tuple, flatD, at5_0, at5_1, at5_2, at5_3, at5_4, ix5_1, ix5_2, ix5_3, ix5_4,
  wipeD, back, startD, endsP, endsO, startM, endsM, own0, List.map_cons, List.map_nil, List.nil_append, List.cons_append, List.length_cons, List.length_nil, List.replicate_succ, List.replicate_zero, List.getElem?_cons_zero, List.getElem?_cons_succ, List.getElem?_nil, List.set_cons_zero, List.set_cons_succ, Nat.sub_zero, Nat.reduceSub, Int.reduceToNat, Nat.reduceAdd, Nat.zero_add,
  shaped_int, eqv_int, shaped_bool, eqv_bool, eqv_str, BEq.rfl, true_and, and_true, if_true, if_false, Bool.false_eq_true, Bool.true_eq_false, Bool.and_true, Bool.true_and, Bool.and_false, Bool.false_and, Bool.not_true, Bool.not_false, reduceIte, decide_eq_true_eq, decide_eq_false_iff_not, Option.getD_some, Option.getD_none, beq_iff_eq, Bool.or_true, Bool.true_or, Bool.or_false, Bool.false_or])

/-! power -/
theorem pow_lt {b : Int} (h : b.natAbs < 2 ^ 64) (k : Nat) : (b ^ k).natAbs < 2 ^ (64 * k + 1) := by
  rw [Int.natAbs_pow]
  have h1 : b.natAbs ^ k ≤ (2 ^ 64) ^ k := Nat.pow_le_pow_left (Nat.le_of_lt h) k
  rw [← Nat.pow_mul] at h1
  exact Nat.lt_of_le_of_lt h1 (Nat.pow_lt_pow_right (by decide) (by omega))
def sp_power : FSpec := fun ds Q => match ds with
  | [.int b, .int m] => (b.natAbs < 2 ^ 64 ∧ 0 ≤ m ∧ m ≤ 1000) ∧ Q (.int (b ^ m.toNat))
  | _ => False
theorem len_power : ∀ ds Q, sp_power ds Q → ds.length = 2 := fun ds Q h => by
  unfold sp_power at h
  split at h <;> first | rfl | exact h.elim
def w_power : WS := wSeq (wSet 2 (wC (.int 1))) (wSeq (wFor (wRange1 (wCons (wVar 1) (wNil))) (wgName 3) (wSet 2 (wOp opMul (wVar 2) (wVar 0)))) (wRet (wVar 2)))
theorem ok_power : ∀ ds Qd, sp_power ds Qd → w_power (endsP Qd) (startD 4 ds) := fun ds Qd h => by
  unfold sp_power at h
  split at h
  · next b m =>
    obtain ⟨⟨hb, h0, h1⟩, h⟩ := h
    unfold w_power
    walk_at "pd"
    refine ⟨in62_of (by omega) (by omega), ?_⟩
    refine forGo_by (fun items Γ => ∃ k t, Γ = [some (.imm (.int b)), some (.imm (.int m)), some (.imm (.int (b ^ k))), t] ∧ items.length + k = m.toNat) (fun d ds Γ N hi hN => ?_) (fun Γ hi => ?_) ⟨0, none, by simp, by simp [rangeD_len]⟩
    · obtain ⟨k, t, rfl, hk⟩ := hi
      simp only [List.length_cons] at hk
      walk_at "pd"
      refine ⟨.inl (wide_mul (pow_lt hb k) hb (by omega) (by omega) (by omega)), hN _ ⟨k + 1, some (.imm d), ?_, by omega⟩⟩
      rw [Int.pow_succ]
    · obtain ⟨k, t, rfl, hk⟩ := hi
      walk_at "pd"
      simp only [List.length_nil] at hk
      rw [show k = m.toNat by omega]
      exact h
  · exact h.elim
/-! factors -/
def pairD (p : Nat × Nat) : D := .tuple [.int p.1, .int p.2]
def sp_factors : FSpec := fun ds Q => match ds with
  | [.int n] => (1 ≤ n ∧ n ≤ 1000000) ∧ Q (.tuple ((B.facs n.toNat).map pairD))
  | _ => False
theorem len_factors : ∀ ds Q, sp_factors ds Q → ds.length = 1 := fun ds Q h => by
  unfold sp_factors at h
  split at h <;> first | rfl | exact h.elim
def w_factors : WS := wSeq (wDrop (wCall sp_check_number (wCons (wVar 0) (wCons (wC (.int 1)) (wCons (wC (.int 1000000)) (wNil)))))) (wSeq (wPar [1, 2, 3] (wFCons (wLst (wNil))
    (wFCons (wVar 0) (wFCons (wC (.int 2)) (wNil))))) (wSeq (wWhile (wTest (wOp opLe (wOp opMul (wVar 3) (wVar 3)) (wVar 2))) (wSeq (wSet 4 (wC (.int 0))) (wSeq (wWhile (wTest (wOp
    opEq (wOp opMod (wCB bInt (wCons (wVar 2) (wNil))) (wVar 3)) (wC (.int 0)))) (wPar [2, 4] (wFCons (wOp opFdiv (wVar 2) (wVar 3)) (wFCons (wOp opAdd (wVar 4) (wC (.int 1)))
    (wNil))))) (wSeq (wDrop (wExtend 1 (wIf (wTest (wOp opGt (wVar 4) (wC (.int 0)))) (wLst (wCons (wTup (wCons (wVar 3) (wCons (wVar 4) (wNil)))) (wNil))) (wLst (wNil))))) (wAug 3
    ipAdd (wC (.int 1))))))) (wSeq (wDrop (wExtend 1 (wIf (wTest (wOp opGt (wVar 2) (wC (.int 1)))) (wLst (wCons (wTup (wCons (wVar 2) (wCons (wC (.int 1)) (wNil)))) (wNil))) (wLst
    (wNil))))) (wRet (wCB bTuple (wCons (wVar 1) (wNil)))))))
theorem ok_factors : ∀ ds Qd, sp_factors ds Qd → w_factors (endsP Qd) (startD 5 ds) := fun ds Qd h => by
  unfold sp_factors at h
  split at h
  · next n =>
    obtain ⟨⟨h0, h1⟩, h⟩ := h
    unfold w_factors
    walk_at "pd"
    simp only [sp_check_number]
    refine ⟨⟨h0, h1⟩, ?_⟩
    walk_at "pd"
    refine ⟨Nat.zero_le _, ?_⟩
    obtain ⟨n, rfl⟩ := Int.eq_ofNat_of_zero_le (show 0 ≤ n by omega)
    rw [show ((n : Int)).toNat = n from rfl] at h
    refine wWhile_st (α := List (Nat × Nat) × Nat × Nat × Option SV) (fun p => [some (.imm (.int (n : Int))), some (.own none (p.1.map pairD)), some (.imm (.int (p.2.1 : Int))), some (.imm (.int (p.2.2.1 : Int))), p.2.2.2])
      (fun p => 2 ≤ p.2.2.1 ∧ 1 ≤ p.2.1 ∧ p.2.1 ≤ 1000000 ∧ p.1.length ≤ p.2.2.1 ∧ p.2.2.1 ≤ 1001 ∧ ∃ f, p.2.1 - p.2.2.1 < f ∧ B.facGo f p.2.1 p.2.2.1 p.1 = B.facs n) (fun p => p.2.1 - p.2.2.1) (fun p N hp hN => ?_) (a := ([], n, 2, none)) ⟨Nat.le_refl 2, by dsimp only; omega, by dsimp only; omega, by dsimp only [List.length_nil]; omega, by dsimp only; omega, n, by dsimp only; omega, rfl⟩
    obtain ⟨acc, left, one, s4⟩ := p
    obtain ⟨p1, p2, p3, p4, p5, f, p6, p7⟩ := hp
    simp only at p1 p2 p3 p4 p5 p6 p7 hN
    obtain ⟨f, rfl⟩ : ∃ g, f = g + 1 := ⟨f - 1, by omega⟩
    unfold B.facGo at p7
    walk_at "pd"
    refine ⟨mul64 (by omega) (by omega) (by omega) (by omega), ?_⟩
    by_cases hle : one * one ≤ left
    · have hle' : (one : Int) * (one : Int) ≤ (left : Int) := by exact_mod_cast hle
      rw [if_pos hle']
      rw [if_pos hle] at p7
      have hone : one ≤ 1000 := by
        by_cases z : one ≤ 1000
        · exact z
        · have : 1001 * 1001 ≤ one * one := Nat.mul_le_mul (by omega) (by omega)
          omega
      have hlt : one < left := by
        have : one * 2 ≤ one * one := Nat.mul_le_mul_left one p1
        omega
      walk_at "pd"
      refine wWhile_st (α := Nat × Nat) (fun q => [some (.imm (.int (n : Int))), some (.own none (acc.map pairD)), some (.imm (.int (q.1 : Int))), some (.imm (.int (one : Int))), some (.imm (.int (q.2 : Int)))])
        (fun q => 1 ≤ q.1 ∧ q.1 ≤ left ∧ ∃ g, q.1 ≤ g ∧ B.stripGo g q.1 one q.2 = B.stripGo left left one 0) (fun q => q.1) (fun q N2 hq hN2 => ?_) (a := (left, 0)) ⟨p2, Nat.le_refl _, left, Nat.le_refl _, rfl⟩
      obtain ⟨lf, many⟩ := q
      obtain ⟨q1, q2, g, q3, q4⟩ := hq
      simp only at q1 q2 q3 q4 hN2
      obtain ⟨g, rfl⟩ : ∃ k, g = k + 1 := ⟨g - 1, by omega⟩
      rw [B.stripGo_succ] at q4
      walk_at "pd"
      refine ⟨by omega, ?_⟩
      by_cases hm : lf % one = 0
      · rw [if_pos (show ((lf : Int) % (one : Int) = 0) from congrArg Int.ofNat hm)]
        rw [if_pos hm] at q4
        refine ⟨div64 (by omega) (by omega), ?_⟩
        have h2 : 1 ≤ lf / one := Nat.pos_of_ne_zero fun z => by
          have := Nat.mul_div_cancel' (Nat.dvd_of_mod_eq_zero hm)
          rw [z] at this; omega
        have h3 : lf / one < lf := Nat.div_lt_self q1 p1
        have := hN2 (lf / one, many + 1) ⟨h2, by simp only; omega, g, by simp only; omega, q4⟩ h3
        simpa using this
      · rw [if_neg (show ¬ ((lf : Int) % (one : Int) = 0) by
          intro z; exact hm (Int.ofNat.inj z))]
        rw [if_neg hm] at q4
        rw [← q4] at p7
        simp only at p7
        by_cases hk : 0 < many
        · rw [if_pos (show (0 : Int) < (many : Int) by omega)]
          rw [if_pos hk] at p7
          walk_at "pd"
          refine ⟨by decide, by decide, by simp only [List.length_map]; rw [sizeLine_eq]; omega, ?_⟩
          have := hN (acc ++ [(one, many)], lf, one + 1, some (.imm (.int (many : Int)))) (show 2 ≤ one + 1 ∧ 1 ≤ lf ∧ lf ≤ 1000000 ∧ (acc ++ [(one, many)]).length ≤ one + 1 ∧ one + 1 ≤ 1001 ∧ ∃ f, lf - (one + 1) < f ∧ B.facGo f lf (one + 1) (acc ++ [(one, many)]) = B.facs n from ⟨by omega, q1, by omega, by simp; omega, by omega, f, by omega, p7⟩) (show lf - (one + 1) < left - one by omega)
          simpa [pairD] using this
        · rw [if_neg (show ¬ (0 : Int) < (many : Int) by omega)]
          rw [if_neg hk] at p7
          walk_at "pd"
          refine ⟨by decide, by simp only [List.length_map]; rw [sizeLine_eq]; omega, ?_⟩
          have := hN (acc, lf, one + 1, some (.imm (.int (many : Int)))) (show 2 ≤ one + 1 ∧ 1 ≤ lf ∧ lf ≤ 1000000 ∧ acc.length ≤ one + 1 ∧ one + 1 ≤ 1001 ∧ ∃ f, lf - (one + 1) < f ∧ B.facGo f lf (one + 1) acc = B.facs n from ⟨by omega, q1, by omega, by omega, by omega, f, by omega, p7⟩) (show lf - (one + 1) < left - one by omega)
          simpa [pairD] using this
    · rw [if_neg (show ¬ (one : Int) * (one : Int) ≤ (left : Int) by exact_mod_cast hle)]
      rw [if_neg hle] at p7
      walk_at "pd"
      by_cases hl : 1 < left
      · rw [if_pos (show (1 : Int) < (left : Int) by omega)]
        rw [if_pos hl] at p7
        walk_at "pd"
        refine ⟨by decide, by decide, by simp only [List.length_map]; rw [sizeLine_eq]; omega, ?_⟩
        rw [← p7] at h
        simpa [pairD] using h
      · rw [if_neg (show ¬ (1 : Int) < (left : Int) by omega)]
        rw [if_neg hl] at p7
        walk_at "pd"
        refine ⟨by decide, by simp only [List.length_map]; rw [sizeLine_eq]; omega, ?_⟩
        rw [← p7] at h
        simpa using h
  · exact h.elim
end T
end

section
set_option maxRecDepth 100000
set_option maxHeartbeats 1000000
/-! B4: divisors, mu, phi, jordan, coprime numbers. -/
namespace T
open PySem PySem.Spec L2 Pd
open PyProof.Rows hiding St
set_option autoImplicit false
local macro_rules | `(tactic| walk_at "pd") => `(tactic| try simp only [wSeq, wSet, wRet, wRetO, wCallO, wRetN, wDrop, wIfS, wNext, wNever, wBreak, wCont, wAsg, wgName, wgNil, wgCons, wgTup, wPar, wFCons, wNil, wCons, preps, prep, setAll, wVar, wC, wOp, wUn, wTest, wTruth, truD, wAnd, wOr, wNot, wAndV, wOrV, wNotV, wIf, wChain,
  wTup, wLst, wCB, wNoPart, wPart, wSl, wIsi, wIsi2, wCall, wCallM, wOwn, wAppend, wExtend, wPop, wCount, wSetIx, wAug, wFor, wSq, wRange1, wRange2, wZip, wEnum, wLc, noOwn, wYes, asInt, seqD, rs, rsv, stl, fz, fzs, rss, isLst,
  opAdd, opSub, opMul, opFdiv, opMod, opPow, opLt, opLe, opGt, opGe, opEq, opNe, opIn, opNotIn, opIs, opIsNot, isNone, opNeg, opIx, opSl, bLen, bAbs, bInt, bSum, bMax, bMin, bAll, bAny, bSorted, bTuple, bList, bMax2, bMin2, bRepr, ipAdd, ipSub, isD_int_none, isD_int_bool, isD_int_int, isD_int_str, isD_int_list, isD_int_tuple, isD_bool_none, isD_bool_bool, isD_bool_int, isD_bool_str, isD_bool_list, isD_bool_tuple, isD_str_none, isD_str_bool, isD_str_int, isD_str_str, isD_str_list, isD_str_tuple, isD_list_none, isD_list_bool, isD_list_int, isD_list_str, isD_list_list, isD_list_tuple, isD_tuple_none, isD_tuple_bool, isD_tuple_int, isD_tuple_str, isD_tuple_list, isD_tuple_tuple, isD_dict_none, isD_dict_bool, isD_dict_int, isD_dict_str, isD_dict_list, isD_dict_tuple, flatD, at5_0, at5_1, at5_2, at5_3, at5_4, ix5_1, ix5_2, ix5_3, ix5_4,
  wipeD, back, startD, endsP, endsO, startM, endsM, own0, List.map_cons, List.map_nil, List.nil_append, List.cons_append, List.length_cons, List.length_nil, List.replicate_succ, List.replicate_zero, List.getElem?_cons_zero, List.getElem?_cons_succ, List.getElem?_nil, List.set_cons_zero, List.set_cons_succ, Nat.sub_zero, Nat.reduceSub, Int.reduceToNat, Nat.reduceAdd, Nat.zero_add,
  shaped_int, eqv_int, shaped_bool, eqv_bool, eqv_str, BEq.rfl, true_and, and_true, if_true, if_false, Bool.false_eq_true, Bool.true_eq_false, Bool.and_true, Bool.true_and, Bool.and_false, Bool.false_and, Bool.not_true, Bool.not_false, reduceIte, decide_eq_true_eq, decide_eq_false_iff_not, Option.getD_some, Option.getD_none, beq_iff_eq, Bool.or_true, Bool.true_or, Bool.or_false, Bool.false_or])

/-! grown -/
def sp_grown : FSpec := fun ds Q => match ds with
  | [.list xs, .int p, .int m] => withInts xs fun ns => (p.natAbs < 2 ^ 64 ∧ 0 ≤ m ∧ m ≤ 1000 ∧ (∀ x ∈ ns, x.natAbs < 2 ^ 512) ∧ (m.toNat + 1) * ns.length ≤ 1000000) ∧ Q (.list ((B.grownM ns p m.toNat).map PyData.int))
  | _ => False
theorem len_grown : ∀ ds Q, sp_grown ds Q → ds.length = 3 := fun ds Q h => by
  unfold sp_grown at h
  split at h <;> first | rfl | exact h.elim
def w_grown : WS := wSeq (wPar [3, 4] (wFCons (wLst (wNil)) (wFCons (wC (.int 1)) (wNil)))) (wSeq (wFor (wRange1 (wCons (wOp opAdd (wVar 2) (wC (.int 1))) (wNil))) (wgName 5) (wSeq
    (wDrop (wExtend 3 (wLc (wSq (wVar 0)) (wgName 6) (wYes) (wOp opMul (wVar 6) (wVar 4)) [6]))) (wSet 4 (wOp opMul (wVar 4) (wVar 1))))) (wRet (wVar 3)))
theorem withInts_some {ds : List D} {k : List Int → Prop} (h : withInts ds k) : ∃ ns, ds = ns.map PyData.int ∧ k ns := by
  unfold withInts at h
  split at h
  · next ns e => exact ⟨ns, allInts_eq e, h⟩
  · exact h.elim
theorem ok_grown : ∀ ds Qd, sp_grown ds Qd → w_grown (endsP Qd) (startD 7 ds) := fun ds Qd h => by
  unfold sp_grown at h
  split at h
  · next xs p m =>
    obtain ⟨ns, rfl, ⟨hp, h0, h1, hx, hl⟩, h⟩ := withInts_some h
    obtain ⟨m, rfl⟩ := Int.eq_ofNat_of_zero_le h0
    simp only [Int.ofNat_eq_natCast, Int.toNat_natCast] at h hl
    unfold w_grown
    walk_at "pd"
    refine ⟨Nat.zero_le _, in62_of (by omega) (by omega), ?_⟩
    rw [rangeD_ints]
    refine forGo_of PyData.int (fun items Γ => ∃ (k : Nat) (t : Option SV), Γ = [some (.imm (.list (ns.map PyData.int))), some (.imm (.int p)), some (.imm (.int (m : Int))),
        some (.own none (((List.range k).flatMap fun k => ns.map (· * p ^ k)).map PyData.int)), some (.imm (.int (p ^ k))), t, none] ∧ items.length + k = m + 1) (fun x xs Γ N hi hN => ?_) (fun Γ hi => ?_) ⟨0, none, by simp, by rw [rangeI_len]; omega⟩
    · obtain ⟨k, t, rfl, hk⟩ := hi
      simp only [List.length_cons] at hk
      walk_at "pd"
      have hlen : (ns.length : Nat) ≤ 1000000 := by
        have : 1 * ns.length ≤ (m + 1) * ns.length := Nat.mul_le_mul_right _ (by omega)
        omega
      have hsum : ∀ j : Nat, (((List.range j).flatMap fun k => ns.map (· * p ^ k))).length = j * ns.length := by
        intro j
        induction j with
        | zero => simp
        | succ j ih => rw [List.range_succ, List.flatMap_append, List.length_append, ih]; simp [Nat.succ_mul]
      refine lcGo_all PyData.int (fun x => .int (x * p ^ k)) (fun y hy k1 hk1 => ?_) (by rw [sizeLine_eq]; simp only [List.length_nil]; omega) ?_
      · walk_at "pd"
        refine ⟨.inl (wide_mul (hx y hy) (pow_lt hp k) (by omega) (by omega) (by omega)), ?_⟩
        exact hk1
      · walk_at "pd"
        refine ⟨?_, (.inl (wide_mul (pow_lt hp k) hp (by omega) (by omega) (by omega))), hN _ ⟨k + 1, some (.imm (.int x)), ?_, by omega⟩⟩
        · rw [List.length_map, hsum, List.length_map, sizeLine_eq]
          have : (k + 1) * ns.length ≤ (m + 1) * ns.length := Nat.mul_le_mul_right _ (by omega)
          rw [Nat.succ_mul] at this
          omega
        · rw [List.range_succ, List.flatMap_append, Int.pow_succ]
          simp
    · obtain ⟨k, t, rfl, hk⟩ := hi
      simp only [List.length_nil] at hk
      walk_at "pd"
      rw [show k = m + 1 by omega]
      exact h
  · exact h.elim
/-! divisors -/
def sp_divisors : FSpec := fun ds Q => match ds with
  | [.int n] => (1 ≤ n ∧ n ≤ 1000000) ∧ Q (.tuple ((B.divs n.toNat).map PyData.int))
  | _ => False
theorem len_divisors : ∀ ds Q, sp_divisors ds Q → ds.length = 1 := fun ds Q h => by
  unfold sp_divisors at h
  split at h <;> first | rfl | exact h.elim
def w_divisors : WS := wSeq (wSet 1 (wLst (wCons (wC (.int 1)) (wNil)))) (wSeq (wFor (wSq (wCall sp_factors (wCons (wVar 0) (wNil)))) (wgTup 2 (wgCons (wgName 2) (wgCons (wgName 3)
    (wgNil)))) (wSet 1 (wCall sp_grown (wCons (wVar 1) (wCons (wVar 2) (wCons (wVar 3) (wNil))))))) (wRet (wCB bTuple (wCons (wCB bSorted (wCons (wVar 1) (wNil))) (wNil)))))
theorem divs_bd (l : List (Nat × Nat)) : ∀ (acc : List Int) (b : Nat), B.Good l → (∀ x ∈ acc, x.natAbs ≤ b) → ∀ x ∈ l.foldl (fun acc pe => B.grownM acc pe.1 pe.2) acc, x.natAbs ≤ b * B.prodF l := by
  induction l with
  | nil => intro acc b _ h x hx; simpa [B.prodF] using h x hx
  | cons p r ih =>
    intro acc b g h x hx
    have := ih (B.grownM acc p.1 p.2) (b * p.1 ^ p.2) (fun q hq => g q (List.mem_cons_of_mem _ hq)) (fun y hy => ?_) x hx
    · rw [Nat.mul_assoc] at this
      exact this
    · simp only [B.grownM, List.mem_flatMap, List.mem_range, List.mem_map] at hy
      obtain ⟨k, hk, z, hz, rfl⟩ := hy
      rw [Int.natAbs_mul, Int.natAbs_pow]
      exact Nat.mul_le_mul (h z hz) (Nat.pow_le_pow_right (by have := (g p List.mem_cons_self).1; simp; omega) (by omega))
theorem ok_divisors : ∀ ds Qd, sp_divisors ds Qd → w_divisors (endsP Qd) (startD 4 ds) := fun ds Qd h => by
  unfold sp_divisors at h
  split at h
  · next n =>
    obtain ⟨⟨h0, h1⟩, h⟩ := h
    obtain ⟨n, rfl⟩ := Int.eq_ofNat_of_zero_le (show 0 ≤ n by omega)
    simp only [Int.ofNat_eq_natCast, Int.toNat_natCast] at h h0 h1
    have hn : 1 ≤ n := by omega
    unfold w_divisors
    walk_at "pd"
    simp only [sp_factors]
    refine ⟨by decide, ⟨by omega, by omega⟩, ?_⟩
    walk_at "pd"
    simp only [Int.toNat_natCast]
    refine forGo_of pairD (fun items Γ => ∃ (done : List (Nat × Nat)) (s1 : SV) (s2 s3 : Option SV), Γ = [some (.imm (.int (n : Int))), some s1, s2, s3] ∧ B.facs n = done ++ items ∧
        (s1 = .own none (((done.foldl (fun acc pe => B.grownM acc pe.1 pe.2) [1])).map PyData.int) ∨ s1 = .imm (.list (((done.foldl (fun acc pe => B.grownM acc pe.1 pe.2) [1])).map PyData.int)))) (fun x xs Γ N hi hN => ?_) (fun Γ hi => ?_) ⟨[], _, none, none, rfl, rfl, .inl rfl⟩
    · obtain ⟨done, s1, s2, s3, rfl, hd, hs⟩ := hi
      have hx : x ∈ B.facs n := by rw [hd]; simp
      obtain ⟨x1, x2, x3, x4, x5⟩ := B.facs_mem hn hx
      have hg : B.Good done := fun q hq => B.facs_good hn q (by rw [hd]; exact List.mem_append_left _ hq)
      have hpr : B.prodF done * B.prodF (x :: xs) = n := by rw [← B.prodF_append, ← hd, B.facs_prod hn]
      have hpr2 : 1 ≤ B.prodF (x :: xs) := B.prodF_pos fun q hq => B.facs_good hn q (by rw [hd]; exact List.mem_append_right _ hq)
      have hpd : B.prodF done ≤ n := by rw [← hpr]; exact Nat.le_mul_of_pos_right _ hpr2
      have hlen := B.divsI_len done [1] hg
      have hbd := divs_bd done [1] 1 hg (by simp)
      have hxe : (x.2 + 1) * B.prodF done ≤ n := by
        have e1 : x.2 + 1 ≤ x.1 ^ x.2 := B.succ_le_pow x1
        have e2 : 1 ≤ B.prodF xs := B.prodF_pos fun q hq => B.facs_good hn q (by rw [hd]; exact List.mem_append_right _ (List.mem_cons_of_mem _ hq))
        rw [← hpr]
        show _ ≤ B.prodF done * (x.1 ^ x.2 * B.prodF xs)
        rw [Nat.mul_comm]
        exact Nat.mul_le_mul_left _ (Nat.le_trans e1 (Nat.le_mul_of_pos_right _ e2))
      have main : sp_grown [.list ((done.foldl (fun acc pe => B.grownM acc pe.1 pe.2) [1]).map PyData.int), .int (x.1 : Int), .int (x.2 : Int)] fun d => N [some (.imm (.int (n : Int))), some (.imm d), some (.imm (.int (x.1 : Int))), some (.imm (.int (x.2 : Int)))] := by
        unfold sp_grown
        simp only [withInts_map, Int.toNat_natCast]
        refine ⟨⟨by omega, by omega, ?_, fun y hy => ?_, ?_⟩, hN _ ⟨done ++ [x], _, _, _, rfl, by rw [hd]; simp, .inr ?_⟩⟩
        · have : x.2 < 20 := by
            by_cases z : x.2 < 20
            · exact z
            · have : 2 ^ 20 ≤ x.1 ^ x.2 := Nat.le_trans (Nat.pow_le_pow_right (by decide) (by omega : 20 ≤ x.2)) (Nat.pow_le_pow_left x1 _)
              omega
          omega
        · have := hbd y hy
          rw [Nat.one_mul] at this
          have : y.natAbs ≤ 1000000 := by omega
          exact Nat.lt_of_le_of_lt this (by decide)
        · refine Nat.le_trans (Nat.mul_le_mul_left _ hlen) ?_
          simp only [List.length_cons, List.length_nil, Nat.zero_add, Nat.one_mul]
          omega
        · rw [List.foldl_append]; rfl
      rcases hs with rfl | rfl
      · simp only [pairD]
        walk_at "pd"
        exact main
      · simp only [pairD]
        walk_at "pd"
        exact main
    · obtain ⟨done, s1, s2, s3, rfl, hd, hs⟩ := hi
      rw [List.append_nil] at hd
      rcases hs with rfl | rfl <;>
      · walk_at "pd"
        rw [withInts_map]
        intro ns' hp hs
        rw [B.isort_eq hp hs, ← hd]
        exact h
  · exact h.elim
end T
end

section
set_option maxRecDepth 100000
set_option maxHeartbeats 1000000
set_option exponentiation.threshold 2000
/-! B5: mu, phi, jordan, coprime numbers, fractions, powers by a modulus. -/
namespace T
open PySem PySem.Spec L2 Pd
open PyProof.Rows hiding St
set_option autoImplicit false
local macro_rules | `(tactic| walk_at "pd") => `(tactic| try simp only [wSeq, wSet, wRet, wRetO, wCallO, wRetN, wDrop, wIfS, wNext, wNever, wBreak, wCont, wAsg, wgName, wgNil, wgCons, wgTup, wPar, wFCons, wNil, wCons, preps, prep, setAll, wVar, wC, wOp, wUn, wTest, wTruth, truD, wAnd, wOr, wNot, wAndV, wOrV, wNotV, wIf, wChain,
  wTup, wLst, wCB, wNoPart, wPart, wSl, wIsi, wIsi2, wCall, wCallM, wOwn, wAppend, wExtend, wPop, wCount, wSetIx, wAug, wFor, wSq, wRange1, wRange2, wZip, wEnum, wLc, noOwn, wYes, asInt, seqD, rs, rsv, stl, fz, fzs, rss, isLst,
  opAdd, opSub, opMul, opFdiv, opMod, opPow, opLt, opLe, opGt, opGe, opEq, opNe, opIn, opNotIn, opIs, opIsNot, isNone, opNeg, opIx, opSl, bLen, bAbs, bInt, bSum, bMax, bMin, bAll, bAny, bSorted, bTuple, bList, bMax2, bMin2, bRepr, ipAdd, ipSub, isD_int_none, isD_int_bool, isD_int_int, isD_int_str, isD_int_list, isD_int_tuple, isD_bool_none, isD_bool_bool, isD_bool_int, isD_bool_str, isD_bool_list, isD_bool_tuple, isD_str_none, isD_str_bool, isD_str_int, isD_str_str, isD_str_list, isD_str_tuple, isD_list_none, isD_list_bool, isD_list_int, isD_list_str, isD_list_list, isD_list_tuple, isD_tuple_none, isD_tuple_bool, isD_tuple_int, isD_tuple_str, isD_tuple_list, isD_tuple_tuple, isD_dict_none, isD_dict_bool, isD_dict_int, isD_dict_str, isD_dict_list, isD_dict_tuple, flatD, at5_0, at5_1, at5_2, at5_3, at5_4, ix5_1, ix5_2, ix5_3, ix5_4,
  wipeD, back, startD, endsP, endsO, startM, endsM, own0, List.map_cons, List.map_nil, List.nil_append, List.cons_append, List.length_cons, List.length_nil, List.replicate_succ, List.replicate_zero, List.getElem?_cons_zero, List.getElem?_cons_succ, List.getElem?_nil, List.set_cons_zero, List.set_cons_succ, Nat.sub_zero, Nat.reduceSub, Int.reduceToNat, Nat.reduceAdd, Nat.zero_add,
  shaped_int, eqv_int, shaped_bool, eqv_bool, eqv_str, BEq.rfl, true_and, and_true, if_true, if_false, Bool.false_eq_true, Bool.true_eq_false, Bool.and_true, Bool.true_and, Bool.and_false, Bool.false_and, Bool.not_true, Bool.not_false, reduceIte, decide_eq_true_eq, decide_eq_false_iff_not, Option.getD_some, Option.getD_none, beq_iff_eq, Bool.or_true, Bool.true_or, Bool.or_false, Bool.false_or])

/-! mu, phi -/
def frac (t b : Int) : Int × Int := if b < 0 then ((-t) / (Int.gcd (-t) (-b) : Nat), (-b) / (Int.gcd (-t) (-b) : Nat)) else (t / (Int.gcd t b : Nat), b / (Int.gcd t b : Nat))
def frD (p : Int × Int) : D := .tuple [.int p.1, .int p.2]
def sp_fraction : FSpec := fun ds Q => match ds with
  | [.int t, .int b] => (b ≠ 0 ∧ b.natAbs < 2 ^ 512) ∧ Q (frD (frac t b))
  | _ => False
theorem len_fraction : ∀ ds Q, sp_fraction ds Q → ds.length = 2 := fun ds Q h => by
  unfold sp_fraction at h
  split at h <;> first | rfl | exact h.elim
def w_fraction : WS := wSeq (wIfS (wTest (wOp opEq (wVar 1) (wC (.int 0)))) (wNever) (wNext)) (wSeq (wIfS (wTest (wOp opLt (wVar 1) (wC (.int 0)))) (wPar [0, 1] (wFCons (wUn opNeg
    (wVar 0)) (wFCons (wUn opNeg (wVar 1)) (wNil)))) (wNext)) (wSeq (wSet 2 (wCall sp_common (wCons (wVar 0) (wCons (wVar 1) (wNil))))) (wRet (wTup (wCons (wOp opFdiv (wVar 0)
    (wVar 2)) (wCons (wOp opFdiv (wVar 1) (wVar 2)) (wNil)))))))
theorem gcd_ok {t b : Int} (hb : b ≠ 0) (hs : b.natAbs < 2 ^ 512) : CDivW t (Int.gcd t b : Nat) := by
  have h1 : Int.gcd t b ≤ b.natAbs := Int.gcd_le_natAbs_right t (by omega)
  have h2 : 0 < Int.gcd t b := Int.gcd_pos_of_ne_zero_right t hb
  exact div512 (by omega) (by rw [Int.natAbs_natCast]; omega)
theorem ok_fraction : ∀ ds Qd, sp_fraction ds Qd → w_fraction (endsP Qd) (startD 3 ds) := fun ds Qd h => by
  unfold sp_fraction at h
  split at h
  · next t b =>
    obtain ⟨⟨hb, hs⟩, h⟩ := h
    unfold w_fraction
    walk_at "pd"
    rw [if_neg hb]
    unfold frac at h
    by_cases hn : b < 0
    · rw [if_pos hn] at h ⊢
      simp only [sp_common]
      walk_at "pd"
      refine ⟨gcd_ok (by omega) (by rw [Int.natAbs_neg]; exact hs), gcd_ok (t := -t) (by omega) (by rw [Int.natAbs_neg]; exact hs), by decide, h⟩
    · rw [if_neg hn] at h ⊢
      simp only [sp_common]
      walk_at "pd"
      exact ⟨gcd_ok hb hs, gcd_ok (t := t) hb hs, by decide, h⟩
  · exact h.elim
end T
end

section
set_option maxRecDepth 100000
set_option maxHeartbeats 1000000
set_option exponentiation.threshold 2000
/-! B8: the law's own helpers: the hand, draws. -/
namespace T
open PySem PySem.Spec L2 Pd
open PyProof.Rows hiding St
set_option autoImplicit false
local macro_rules | `(tactic| walk_at "pd") => `(tactic| try simp only [wSeq, wSet, wRet, wRetO, wCallO, wRetN, wDrop, wIfS, wNext, wNever, wBreak, wCont, wAsg, wgName, wgNil, wgCons, wgTup, wPar, wFCons, wNil, wCons, preps, prep, setAll, wVar, wC, wOp, wUn, wTest, wTruth, truD, wAnd, wOr, wNot, wAndV, wOrV, wNotV, wIf, wChain,
  wTup, wLst, wCB, wNoPart, wPart, wSl, wIsi, wIsi2, wCall, wCallM, wOwn, wAppend, wExtend, wPop, wCount, wSetIx, wAug, wFor, wSq, wRange1, wRange2, wZip, wEnum, wLc, noOwn, wYes, asInt, seqD, rs, rsv, stl, fz, fzs, rss, isLst,
  opAdd, opSub, opMul, opFdiv, opMod, opPow, opLt, opLe, opGt, opGe, opEq, opNe, opIn, opNotIn, opIs, opIsNot, isNone, opNeg, opIx, opSl, bLen, bAbs, bInt, bSum, bMax, bMin, bAll, bAny, bSorted, bTuple, bList, bMax2, bMin2, bRepr, ipAdd, ipSub, isD_int_none, isD_int_bool, isD_int_int, isD_int_str, isD_int_list, isD_int_tuple, isD_bool_none, isD_bool_bool, isD_bool_int, isD_bool_str, isD_bool_list, isD_bool_tuple, isD_str_none, isD_str_bool, isD_str_int, isD_str_str, isD_str_list, isD_str_tuple, isD_list_none, isD_list_bool, isD_list_int, isD_list_str, isD_list_list, isD_list_tuple, isD_tuple_none, isD_tuple_bool, isD_tuple_int, isD_tuple_str, isD_tuple_list, isD_tuple_tuple, isD_dict_none, isD_dict_bool, isD_dict_int, isD_dict_str, isD_dict_list, isD_dict_tuple, flatD, at5_0, at5_1, at5_2, at5_3, at5_4, ix5_1, ix5_2, ix5_3, ix5_4,
  wipeD, back, startD, endsP, endsO, startM, endsM, own0, List.map_cons, List.map_nil, List.nil_append, List.cons_append, List.length_cons, List.length_nil, List.replicate_succ, List.replicate_zero, List.getElem?_cons_zero, List.getElem?_cons_succ, List.getElem?_nil, List.set_cons_zero, List.set_cons_succ, Nat.sub_zero, Nat.reduceSub, Int.reduceToNat, Nat.reduceAdd, Nat.zero_add,
  shaped_int, eqv_int, shaped_bool, eqv_bool, eqv_str, BEq.rfl, true_and, and_true, if_true, if_false, Bool.false_eq_true, Bool.true_eq_false, Bool.and_true, Bool.true_and, Bool.and_false, Bool.false_and, Bool.not_true, Bool.not_false, reduceIte, decide_eq_true_eq, decide_eq_false_iff_not, Option.getD_some, Option.getD_none, beq_iff_eq, Bool.or_true, Bool.true_or, Bool.or_false, Bool.false_or])

/-! the hand -/
def CellsOk (cells : List Int) : Prop := cells.length ≤ 63 ∧ ∀ c ∈ cells, 0 ≤ c ∧ c < 10 ^ 36
def handD (cells : List Int) (a b s k : Int) : List D := [.list (cells.map PyData.int), .int a, .int b, .int s, .int k]
def HandOk (cs : List D) : Prop := ∃ (cells : List Int) (a b s k : Int), cs = handD cells a b s k ∧ CellsOk cells ∧ 0 ≤ a ∧ 0 ≤ b ∧ b < 10 ^ 36
def sp_law_hand : OSpec := fun ds Q => match ds with
  | [.dict [(.none, .list xs)]] => (∃ ns : List Int, xs = ns.map PyData.int ∧ ns.length ≤ 63) ∧ ∀ cs, HandOk cs → Q cs
  | _ => False
theorem len_law_hand : ∀ ds Q, sp_law_hand ds Q → ds.length = 1 := fun ds Q h => by
  unfold sp_law_hand at h
  split at h <;> first | rfl | exact h.elim
def w_law_hand : WS := wSeq (wSet 1 (wLc (wSq (wSl opSl (wVar 0) (wNoPart) (wPart (wC (.int 63))))) (wgName 2) (wYes) (wOp opMod (wCB bInt (wCons (wCB bAbs (wCons (wCB bInt (wCons
    (wVar 2) (wNil))) (wNil))) (wNil))) (wOp opPow (wC (.int 10)) (wC (.int 36)))) [2])) (wRetO (wLst (wCons (wVar 1) (wCons (wC (.int 0)) (wCons (wC (.int 0)) (wCons (wOp opAdd
    (wC (.int 33)) (wOp opMul (wC (.int 5)) (wCB bLen (wCons (wVar 1) (wNil))))) (wCons (wC (.int 0)) (wNil))))))))
theorem ok_law_hand : ∀ ds Qd, sp_law_hand ds Qd → w_law_hand (endsO Qd) (startD 3 ds) := fun ds Qd h => by
  unfold sp_law_hand at h
  split at h
  · next xs =>
    obtain ⟨⟨ns, rfl, hl⟩, h⟩ := h
    unfold w_law_hand
    walk_at "pd"
    have hcut : cutD (ns.map PyData.int) none (some 63) = ns.map PyData.int := by
      refine cutD_whole ⟨rfl, ?_⟩
      rw [show (some (63 : Int)) = some ((63 : Nat) : Int) from rfl, HT.sIx_nat, List.length_map]
      omega
    rw [hcut]
    refine lcGo_all PyData.int (fun x => .int ((x.natAbs : Int) % 10 ^ 36)) (fun x hx k1 hk => ?_) (by rw [sizeLine_eq]; simp only [List.length_nil]; omega) ?_
    · walk_at "pd"
      refine ⟨⟨by decide, by decide, by decide⟩, by decide, ?_⟩
      rw [show (if x < 0 then -x else x) = (x.natAbs : Int) by omega]
      exact hk
    · rw [List.nil_append, show ns.map (fun x => PyData.int ((x.natAbs : Int) % 10 ^ 36)) = (ns.map fun x => (x.natAbs : Int) % 10 ^ 36).map PyData.int by simp]
      walk_at "pd"
      refine ⟨mulL (by decide) (by decide), by decide, h _ ⟨_, 0, 0, _, 0, rfl, ⟨by simpa using hl, fun c hc => ?_⟩, by decide, by decide, by decide⟩⟩
      obtain ⟨x, _, rfl⟩ := List.mem_map.mp hc
      omega
  · exact h.elim
def sp_law_draw : MSpec := fun cs ds Q => match ds with
  | [.int m] => (HandOk cs ∧ 1 ≤ m ∧ m < 18446744073709551616) ∧ ∀ r : Int, 0 ≤ r → r < m → ∀ cs', HandOk cs' → Q (.int r) cs'
  | _ => False
theorem len_law_draw : ∀ cs ds Q, sp_law_draw cs ds Q → ds.length + 1 = 2 := fun cs ds Q h => by
  unfold sp_law_draw at h
  split at h <;> first | rfl | exact h.elim
def w_law_draw : WS := wSeq (wIfS (wAnd (wTest (wOp opEq (wOp opIx (wVar 0) (wC (.int 2))) (wC (.int 0)))) (wTest (wOp opLt (wOp opIx (wVar 0) (wC (.int 1))) (wCB bLen (wCons (wOp
    opIx (wVar 0) (wC (.int 0))) (wNil)))))) (wSeq (wSet 2 (wOp opIx (wOp opIx (wVar 0) (wC (.int 0))) (wOp opIx (wVar 0) (wC (.int 1))))) (wSeq (wSetIx 0 (wOp opAdd (wOp opIx
    (wVar 0) (wC (.int 1))) (wC (.int 1))) (wC (.int 1))) (wSeq (wSetIx 0 (wOp opMod (wCB bInt (wCons (wOp opAdd (wOp opAdd (wOp opMul (wOp opIx (wVar 0) (wC (.int 3))) (wC (.int
    69621))) (wOp opMul (wVar 2) (wC (.int 40692)))) (wC (.int 37))) (wNil))) (wC (.int 2147483629))) (wC (.int 3))) (wIfS (wTest (wOp opGe (wVar 2) (wOp opPow (wC (.int 10)) (wC
    (.int 18))))) (wSetIx 0 (wVar 2) (wC (.int 2))) (wNext))))) (wNext)) (wSeq (wIfS (wTest (wOp opGt (wOp opIx (wVar 0) (wC (.int 2))) (wC (.int 0)))) (wSeq (wSet 3 (wOp opMod
    (wCB bInt (wCons (wOp opIx (wVar 0) (wC (.int 2))) (wNil))) (wVar 1))) (wSeq (wSetIx 0 (wOp opFdiv (wOp opIx (wVar 0) (wC (.int 2))) (wVar 1)) (wC (.int 2))) (wRet (wVar 3))))
    (wNext)) (wSeq (wSetIx 0 (wOp opAdd (wOp opIx (wVar 0) (wC (.int 4))) (wC (.int 1))) (wC (.int 4))) (wSeq (wSet 4 (wOp opMod (wCB bInt (wCons (wOp opMul (wCB bInt (wCons (wOp
    opAdd (wOp opIx (wVar 0) (wC (.int 3))) (wOp opMul (wC (.int 7919)) (wOp opIx (wVar 0) (wC (.int 4))))) (wNil))) (wC (.int 48271))) (wNil))) (wC (.int 2147483647)))) (wSeq
    (wSet 4 (wOp opMod (wCB bInt (wCons (wOp opMul (wVar 4) (wOp opAdd (wOp opFdiv (wVar 4) (wC (.int 1009))) (wC (.int 69621)))) (wNil))) (wC (.int 2147483647)))) (wSeq (wSet 4
    (wOp opMod (wCB bInt (wCons (wOp opMul (wVar 4) (wOp opAdd (wOp opFdiv (wVar 4) (wC (.int 2003))) (wC (.int 40014)))) (wNil))) (wC (.int 2147483563)))) (wRet (wOp opMod (wCB
    bInt (wCons (wOp opFdiv (wVar 4) (wC (.int 16))) (wNil))) (wVar 1))))))))
theorem ok_law_draw : ∀ p cs ds Qd, sp_law_draw cs ds Qd → w_law_draw (endsM p Qd) (startM 5 p cs ds) := fun p cs ds Qd h => by
  unfold sp_law_draw at h
  split at h
  · next m =>
    obtain ⟨⟨⟨cells, a, b, s, k, rfl, ⟨hl, hc⟩, a0, b0, b1⟩, m0, m1⟩, h⟩ := h
    unfold w_law_draw
    refine wSeq_by (fun Γ => ∃ (a b s k : Int) (c : Option SV), Γ = [some (.own (some p) (handD cells a b s k)), some (.imm (.int m)), c, none, none] ∧ 0 ≤ a ∧ 0 ≤ b ∧ b < 10 ^ 36) (fun N hN => ?_) (fun Γ hp => ?_)
    · unfold handD
      walk_at "pd"
      have keep := hN _ ⟨a, b, s, k, none, rfl, a0, b0, b1⟩
      by_cases e1 : b = 0
      · rw [if_pos e1, List.length_map]
        by_cases e2 : a < (cells.length : Int)
        · rw [if_pos e2]
          obtain ⟨c, hcm, he⟩ := atI_mem PyData.int a0 e2
          rw [he]
          obtain ⟨c0, c1⟩ := hc c hcm
          refine ⟨mulR (by decide) (by decide), mulR (by decide) (by decide), by decide, ⟨by decide, by decide, by decide⟩, ?_⟩
          show if (10 : Int) ^ 18 ≤ c then _ else _
          split
          · exact hN _ ⟨a + 1, c, _, k, _, rfl, by omega, c0, c1⟩
          · exact hN _ ⟨a + 1, b, _, k, _, rfl, by omega, b0, b1⟩
        · rw [if_neg e2]
          exact keep
      · rw [if_neg e1]
        exact keep
    · obtain ⟨a, b, s, k, c, rfl, a0, b0, b1⟩ := hp
      refine wSeq_by (fun Γ => ∃ (a b s k : Int) (c : Option SV), Γ = [some (.own (some p) (handD cells a b s k)), some (.imm (.int m)), c, none, none] ∧ 0 ≤ a ∧ 0 ≤ b ∧ b < 10 ^ 36) (fun N hN => ?_) (fun Γ hp => ?_)
      · unfold handD
        walk_at "pd"
        by_cases e1 : 0 < b
        · rw [if_pos e1]
          refine ⟨by omega, div64 (by omega) m1, h _ (Int.emod_nonneg _ (by omega)) (Int.emod_lt_of_pos _ (by omega)) _ ⟨cells, a, b / m, s, k, rfl, ⟨hl, hc⟩, a0, Int.ediv_nonneg b0 (by omega), ?_⟩⟩
          exact Int.lt_of_le_of_lt (Int.ediv_le_self m b0) b1
        · rw [if_neg e1]
          exact hN _ ⟨a, b, s, k, c, rfl, a0, b0, b1⟩
      · obtain ⟨a, b, s, k, c, rfl, a0, b0, b1⟩ := hp
        unfold handD
        walk_at "pd"
        refine ⟨mulL (by decide) (by decide), mulR (by decide) (by decide), by decide, div64 (by decide) (by decide), ?_⟩
        have y0 := Int.emod_nonneg ((s + 7919 * (k + 1)) * 48271) (show (2147483647 : Int) ≠ 0 by decide)
        have y1 := Int.emod_lt_of_pos ((s + 7919 * (k + 1)) * 48271) (show (0 : Int) < 2147483647 by decide)
        generalize (s + 7919 * (k + 1)) * 48271 % 2147483647 = y at y0 y1 ⊢
        refine ⟨mul64 (by omega) (by omega) (by omega) (by omega), by decide, div64 (by decide) (by decide), ?_⟩
        have z0 := Int.emod_nonneg (y * (y / 1009 + 69621)) (show (2147483647 : Int) ≠ 0 by decide)
        have z1 := Int.emod_lt_of_pos (y * (y / 1009 + 69621)) (show (0 : Int) < 2147483647 by decide)
        generalize y * (y / 1009 + 69621) % 2147483647 = z at z0 z1 ⊢
        refine ⟨mul64 (by omega) (by omega) (by omega) (by omega), by decide, div64 (by decide) (by decide), by omega, ?_⟩
        exact h _ (Int.emod_nonneg _ (by omega)) (Int.emod_lt_of_pos _ (by omega)) _ ⟨cells, a, b, s, k + 1, rfl, ⟨hl, hc⟩, a0, b0, b1⟩
  · exact h.elim
/-! any of some -/
def sp_law_any : MSpec := fun cs ds Q => match ds with
  | [.list xs] => (HandOk cs ∧ xs ≠ [] ∧ xs.length < 18446744073709551616) ∧ ∀ d ∈ xs, ∀ cs', HandOk cs' → Q d cs'
  | [.tuple xs] => (HandOk cs ∧ xs ≠ [] ∧ xs.length < 18446744073709551616) ∧ ∀ d ∈ xs, ∀ cs', HandOk cs' → Q d cs'
  | _ => False
theorem len_law_any : ∀ cs ds Q, sp_law_any cs ds Q → ds.length + 1 = 2 := fun cs ds Q h => by
  unfold sp_law_any at h
  split at h <;> first | rfl | exact h.elim
def w_law_any : WS := wRet (wOp opIx (wVar 1) (wCallM sp_law_draw 0 (wCons (wCB bLen (wCons (wVar 1) (wNil))) (wNil))))
theorem ok_law_any : ∀ p cs ds Qd, sp_law_any cs ds Qd → w_law_any (endsM p Qd) (startM 2 p cs ds) := fun p cs ds Qd h => by
  unfold sp_law_any at h
  split at h
  · next xs =>
    obtain ⟨⟨hh, h0, h1⟩, h⟩ := h
    have hpos := List.length_pos_iff.mpr h0
    unfold w_law_any
    walk_at "pd"
    simp only [sp_law_draw]
    refine ⟨⟨hh, by omega, by omega⟩, fun r r0 r1 cs' hcs => ?_⟩
    obtain ⟨x, hx, he⟩ := atI_mem (fun d : D => d) (xs := xs) r0 r1
    rw [List.map_id'] at he
    walk_at "pd"
    rw [he]
    exact h x hx cs' hcs
  · next xs =>
    obtain ⟨⟨hh, h0, h1⟩, h⟩ := h
    have hpos := List.length_pos_iff.mpr h0
    unfold w_law_any
    walk_at "pd"
    simp only [sp_law_draw]
    refine ⟨⟨hh, by omega, by omega⟩, fun r r0 r1 cs' hcs => ?_⟩
    obtain ⟨x, hx, he⟩ := atI_mem (fun d : D => d) (xs := xs) r0 r1
    rw [List.map_id'] at he
    walk_at "pd"
    rw [he]
    exact h x hx cs' hcs
  · exact h.elim
end T
end

section
set_option maxRecDepth 100000
set_option maxHeartbeats 4000000
/-! Ps1: sorted(set(ints)), len(set(ints)). -/
namespace Pd
open PySem PySem.Spec L2
open PyProof.Rows hiding St
set_option autoImplicit false

theorem bb_set : bootBuiltins "set" = some (.type "set") := by decide +kernel
/-- a set just made -/
abbrev bareSet (w : World) : Obj := { cls := .type "set", dict := none, data := .set #[] 0 (.fresh 0 0 (!w.params.followText "set-order")) }
/-- the set of the ints ns stands at a, all else as it was -/
def SetMade (w : World) (h h' : Heap) (a : Addr) (ns : List Int) (c : Nat) : Prop :=
  SetR w h' a (fun j => decide (j ∈ ns)) c ∧ c ≤ ns.length ∧ ∀ b o, h.get? b = some o → h'.get? b = some o

section
variable {P : Program} {w : World} {A : Around} {E : Value → Shared → Prop} {s : Shared}
theorem set_init_list {l : Addr} {items : Array Value} {ns : List Int} {R : Value → Shared → Prop} (hh : A.handled = none) (hl : s.heap.IsList l items) (hi : IntsAre items.toList ns) (hb : ns.length + 1 < scanBound)
    (h : ∀ h' tk c, SetMade w s.heap h' s.heap.objs.size ns c → R .none { s with heap := h', toks := tk }) :
    codeAny (model P w) A (.call (.builtin "set.__init__") ⟨[.ref s.heap.objs.size, .ref l], []⟩) (wants R E) { s with heap := s.heap.push (bareSet w) } := by
  have sz : items.size = ns.length := by simpa [Array.length_toList] using IntsAre.length hi
  have g0 : (s.heap.push (bareSet w)).get? s.heap.objs.size = some (bareSet w) := Heap.get?_push_size _ rfl
  have ty : Shared.TypeIs { s with heap := s.heap.push (bareSet w) } (.ref s.heap.objs.size) "set" := ⟨_, g0, rfl⟩
  refine codeAny_call_builtin (R := wants R E) F.called_set.init.plain F.entry_set_init (check_set_init_1 ty ?_)
  obtain ⟨⟨oc, od, oa, os⟩, hol, hc, nl, hd⟩ := hl
  simp only at hc hd; subst hc; subst hd
  have holP : (s.heap.push (bareSet w)).get? l = some { cls := .type "list", dict := od, data := .seq items nl, slots := os } := Heap.get?_push_of_some _ hol
  have q1 := F.sub_list_set
  have q2 := F.sub_list_frozenset
  have q3 : (Value.type "list" == Value.type "dict") = false := by decide
  have hlP : (s.heap.push (bareSet w)).IsList l items := ⟨_, holP, rfl, nl, rfl⟩
  unfold Builtin.«set.__init__» noKeywords Builtin.Frozenset.updateFrom
  generalize hIt : pyIter = It
  wp_walk
  subst hIt
  refine wpAny_pyIter_list hlP (wpAny_bind (wpAny_runValue ?_))
  have lt : l < s.heap.objs.size := Heap.lt_size hol
  have none3 : A.in1.in1.handled = none := by simp [hh]
  have szP : (s.heap.push (bareSet w)).objs.size = s.heap.objs.size + 1 := Heap.size_push ..
  have ne1 : l ≠ (s.heap.push (bareSet w)).objs.size := by rw [szP]; exact Nat.ne_of_lt (Nat.lt_succ_of_lt lt)
  have out1 : s.heap.objs.size ∉ [(s.heap.push (bareSet w)).objs.size, l] := by
    intro hm
    rw [szP] at hm
    rcases List.mem_cons.mp hm with e | e
    · exact Nat.ne_of_lt (Nat.lt_succ_self _) e
    · exact Nat.ne_of_gt lt (List.mem_singleton.mp e)
  refine set_update_ints ((Walks.list none3 _ l ne1 items).toS) s.heap.objs.size out1 ns sz hb (fun i v hv => ?_) (items.size - 0) 0 _ (by omega) (Nat.zero_le _) ⟨⟨_, Heap.get?_push_size _ rfl, rfl, rfl⟩, hlP.push _⟩
    ⟨0, Nat.le_refl 0, setR_new_at (Heap.get?_push_of_some _ g0)⟩ fun s' c' hm hc' hS' => ?_
  · have hi' : i < ns.length := by rw [← sz]; exact (Array.getElem?_eq_some_iff.mp hv).1
    obtain ⟨t, e⟩ := PyProof.Rows.IntsAre.int_at hi i v (by rw [Array.getElem?_toList]; exact hv)
    exact ⟨ns[i], t, List.getElem?_eq_getElem hi', by rw [e, List.getD_eq_getElem?_getD, List.getElem?_eq_getElem hi']; rfl⟩
  · obtain ⟨h', g2, d', tk', os'⟩ := s'
    have eg : g2 = s.gens := hm.gens
    have ed : d' = s.drawn := hm.drawn
    have eo : os' = s.os := hm.os
    subst eg; subst ed; subst eo
    show wpAny _ _ _ _ _ _
    refine wpAny_pure ?_
    show wpAny _ _ (ret Value.none) _ _ _
    refine wpAny_pure (h h' tk' c' ⟨hS', by omega, fun b o e => ?_⟩)
    have bl : b < s.heap.objs.size := Heap.lt_size e
    refine hm.heap b o ?_ (Heap.get?_push_of_some _ (Heap.get?_push_of_some _ e))
    intro hm2
    rw [szP] at hm2
    rcases List.mem_cons.mp hm2 with e2 | e2
    · exact Nat.ne_of_lt bl e2
    · rcases List.mem_cons.mp e2 with e3 | e3
      · exact Nat.ne_of_lt (Nat.lt_succ_of_lt bl) e3
      · cases e3

theorem call_set_ints {l : Addr} {items : Array Value} {ns : List Int} {Q : Value → Shared → Prop} (hh : A.handled = none) (hl : s.heap.IsList l items) (hi : IntsAre items.toList ns) (hb : ns.length + 1 < scanBound)
    (h : ∀ h' tk c, SetMade w s.heap h' s.heap.objs.size ns c → Q (.ref s.heap.objs.size) { s with heap := h', toks := tk }) :
    wpAny (model P w) A (call (.type "set") [.ref l]) Q E s := by
  have ⟨c, tl, f0⟩ := F.called_set.mro
  have f1 := F.called_set.made
  have f2 := F.called_set.sub
  have f3 := F.called_set.notType
  have f4 := F.called_set.canCreate
  have f5 := F.typeCall_set_1 (.ref l)
  refine wpAny_call (codeAny_of_tree (show wpAny _ _ (callAny (.type "set") _) _ _ _ from wpAny_pure ⟨Code.quiet_builtin _ (by decide +kernel), codeAny_builtin F.entry_type_call ?_⟩))
  rw [Around.under_plain (weight_type_call_type "set" [.ref l] []) rfl]
  repeat (any_goals (first | assumption | wp_step))
  refine codeAny_mono (code_set_led1 (w := w) (.ref l) (E := E) (Q₁ := fun v s₁ => v = .ref s.heap.objs.size ∧ s₁ = { s with heap := s.heap.push (bareSet w) }) ⟨rfl, rfl⟩) fun r s₁ hr => ?_
  rcases r with e | fl
  · exact hr
  cases fl with
  | ret v =>
    obtain ⟨rfl, rfl⟩ := hr
    have g0 : (s.heap.push (bareSet w)).get? s.heap.objs.size = some (bareSet w) := Heap.get?_push_size _ rfl
    have f6 := F.called_set.init.lookup
    have f7 := F.called_set.init.bind (.ref s.heap.objs.size)
    repeat (any_goals (first | assumption | wp_step))
    refine codeAny_mono (set_init_list (P := P) (w := w) (E := E) (R := fun r s₂ => r = .none ∧ ∃ h' tk c, s₂ = { s with heap := h', toks := tk } ∧ SetMade w s.heap h' s.heap.objs.size ns c) (by simpa using hh) hl hi hb fun h' tk c m => ⟨rfl, h', tk, c, rfl, m⟩) fun r₂ s₂ hr₂ => ?_
    rcases r₂ with e | fl₂
    · exact hr₂
    cases fl₂ with
    | ret r =>
      obtain ⟨rfl, h', tk, c', rfl, m⟩ := hr₂
      repeat (any_goals (first | assumption | wp_step))
      exact h _ _ _ m
    | _ => exact hr₂.elim
  | _ => exact hr.elim
end
section
variable {X : Cx}
/-- set(xs), xs a list of ints -/
def rSetL (K : PySem.W.Frag) (w : World) : List V → Hp → VK → Prop := fun vs H Q => ∃ (p : Addr) (ns : List Int), vs = [.ref p] ∧ SqL K H p (ns.map V.int) ∧ ns.length ≤ 4000 ∧
  ∀ (a : Addr) (c : Nat), c ≤ ns.length → (∃ out : List Int, out.Nodup ∧ (∀ k, k ∈ out ↔ k ∈ ns) ∧ out.length = c) → H a = none → Q (.ref a) (upd H a (SetO w a (fun j => decide (j ∈ ns)) c))
theorem cr_setL (hc : X.calm = true) : CallR X (.type "set") (rSetL X.K X.w) := by
  intro pins s σ H vs us Q I r h
  obtain ⟨p, ns, rfl, hs, hz, q⟩ := h
  obtain ⟨its, rv, hl, _⟩ := I.list hs
  rw [Vals.ref1 r]
  refine call_set_ints (I.ok.hd hc) hl.isList (by simpa using rv.ints) (by unfold scanBound; omega) fun h' tk c hm => ?_
  obtain ⟨m, mc, k⟩ := hm
  have J : Inv X pins σ (upd H s.heap.objs.size (SetO X.w s.heap.objs.size (fun j => decide (j ∈ ns)) c)) { s with heap := h', toks := tk } :=
    I.laid (t' := tk) (fun b u e => k b u e) (Nat.le_refl _) (setO_new m)
  refine ⟨.ref _, _, J, rfl, q _ c mc ?_ (I.hok.fresh (Nat.le_refl _))⟩
  obtain ⟨o, es, ep, t, ho, hx, hd, g, nd, hm, hb, hf, hn, _⟩ := m
  exact ⟨es.toList.map keyOf, nd, fun j => by rw [← hm j, decide_eq_true_eq], by rw [List.length_map, Array.length_toList]; exact hn⟩
end

theorem nodup_le : ∀ (l m : List Int), l.Nodup → (∀ k ∈ l, k ∈ m) → l.length ≤ m.length
  | [], _, _, _ => Nat.zero_le _
  | x :: l, m, h, k => by
    obtain ⟨h1, h2⟩ := List.nodup_cons.mp h
    have hx : x ∈ m := k x List.mem_cons_self
    have ih := nodup_le l (m.erase x) h2 fun y hy => (List.mem_erase_of_ne (fun e : y = x => h1 (e ▸ hy))).mpr (k y (List.mem_cons_of_mem _ hy))
    rw [List.length_erase_of_mem hx] at ih
    have := List.length_pos_of_mem hx
    show l.length + 1 ≤ _
    omega
/-- sorted(s), s a set of ints, any number of them -/
theorem sorted_any {P : Program} {w : World} {A : Around} {E : Value → Shared → Prop} {s : Shared} {a : Addr} {S : Int → Bool} {n : Nat} {Q : Value → Shared → Prop} (r : SetR w s.heap a S n) (hh : A.handled = none)
    (hQ : ∀ s' p (out : Array Value) (c : Nat) (ns : List Int), n ≤ sizeLine → (∀ b o, s.heap.get? b = some o → s'.heap.get? b = some o) → s'.gens = s.gens → s'.os = s.os → s.heap.objs.size ≤ p →
      s'.heap.get? p = some (seqObj "list" out c) → IntsAre out.toList ns → ns.Pairwise (· < ·) → (∀ k, k ∈ ns ↔ S k = true) → ns.length = n → Q (.ref p) s') : wpAny (model P w) A (call (.builtin "sorted") [.ref a]) Q E s := by
  obtain ⟨o, es, ep, t, ho, hx, hd, g, nd, hm, hb, hf, hn, hr, hl⟩ := r
  refine Calls.call_function_entry kind_sorted plain_sorted entry_sorted (args_sorted1 _) ?_
  unfold Builtin.«sorted»
  refine wpAny_bind (m := checkCount "sorted" 1 1 _) (wpAny_pure (wpAny_bind (collect_set (A := A.in1) hh ⟨o, ho, hx.1, hd⟩ hf hb hr hl fun s1 vs k1 hz g1 o1 pm => ?_)))
  have len : vs.length = n := by rw [pm.length_eq, List.length_map, Array.length_toList, hn]
  have small : vs.length ≤ sizeLine := by
    rw [len, ← hn, sizeLine_eq]
    unfold scanBound at hb
    omega
  have hints : IntsAre vs (vs.map Builtin.Re.reRawOf) := ints_of vs fun v hv => by
    obtain ⟨e, he, rfl⟩ := List.mem_map.mp (pm.mem_iff.mp hv)
    obtain ⟨k, tk, h1, _⟩ := g e he
    exact ⟨k, tk, h1⟩
  have perm : (vs.map Builtin.Re.reRawOf).Perm (es.toList.map keyOf) := by
    have := pm.map Builtin.Re.reRawOf
    rwa [List.map_map] at this
  refine wpAny_bind (wpAny_newList ?_ small)
  have at1 : (s1.heap.push (seqObj "list" vs.toArray 0)).get? s1.heap.objs.size = some (seqObj "list" vs.toArray 0) := Heap.get?_push_size _ rfl
  refine wpAny_bind (wpAny_holding (wpAny_call_entry slot_list_sort ⟨_, at1, rfl⟩ entry_list_sort (SrtO.list_sort_ord SrtO.swo_int at1 small (fun h2 => SrtO.ints_sortable hints h2) fun out h1 h2 => ⟨.none, rfl, ?_⟩) (args_list_sort _)))
  obtain ⟨q1, q2, q3⟩ := SrtO.ints_out hints h1 h2
  obtain ⟨c, hc⟩ := sortedHeap_at (vs := vs) (out := out.toArray) at1
  have pn : (out.map SrtO.iv).Perm (es.toList.map keyOf) := q2.trans perm
  refine wpAny_pure ⟨_, rfl, hQ _ s1.heap.objs.size out.toArray c (out.map SrtO.iv) (by rw [← len]; exact small) (fun b u e => ?_) g1 o1 hz hc (by simpa using q1) (lt_of_le_nodup _ q3 (pn.nodup_iff.mpr nd)) (fun k => by rw [pn.mem_iff, ← hm k]) (by rw [pn.length_eq, List.length_map, Array.length_toList]; exact hn)⟩
  have e1 := k1 b u e
  have lt := Heap.lt_size e1
  show (sortedHeap (s1.heap.push (seqObj "list" vs.toArray 0)) s1.heap.objs.size vs out.toArray).get? b = some u
  rw [sortedHeap_old (Nat.ne_of_lt lt) (by rw [size_push']; exact Nat.lt_succ_of_lt lt)]
  exact Heap.get?_push_of_some _ e1
def rSortS (w : World) : List V → Hp → VK → Prop := fun vs H Q => ∃ (a : Addr) (S : Int → Bool) (n : Nat), vs = [V.ref a] ∧ H a = some (SetO w a S n) ∧
  ∀ (ns : List Int) (p : Addr), ns.Pairwise (· < ·) → (∀ k : Int, k ∈ ns ↔ S k = true) → H p = none → Q (.ref p) (upd H p (.lst (ns.map V.int)))
theorem cr_sortS {X : Cx} (hc : X.calm = true) : CallR X (.builtin "sorted") (rSortS X.w) := by
  intro pins s σ H vs us Q I r h
  obtain ⟨a, S, n, rfl, ha, q⟩ := h
  have sr := setO_get I ha
  rw [Vals.ref1 r]
  refine sorted_any sr (I.ok.hd hc) fun s' p out c ns hz k g o hp hg hi hs hm hl => ?_
  have hn : H p = none := I.hok.fresh hp
  have J : Inv X pins σ (upd H p (.lst (ns.map V.int))) { s with heap := s'.heap, gens := s'.gens, drawn := s'.drawn, toks := s'.toks } :=
    I.call (ch := []) (Un.laid k hp hn) (I.hok.laid k hp ⟨by rw [List.length_map, hl]; exact hz, out.toList, c, vals_of_ints hi, hg⟩) (by rw [g]; exact I.bare) (fun _ z => nomatch z)
  have e : s' = { s with heap := s'.heap, gens := s'.gens, drawn := s'.drawn, toks := s'.toks } := by
    obtain ⟨a1, a2, a3, a4, a5⟩ := s'
    obtain ⟨b1, b2, b3, b4, b5⟩ := s
    simp only at o
    subst o
    rfl
  rw [e]
  exact ⟨.ref p, _, J, rfl, q ns p hs hm hn⟩
/-- sorted(set(xs)) of ints -/
def wSortSet (wa : WA) : WE := fun Γ Q => wa Γ fun os Γ1 => rss Γ1 os fun ds => match ds with
  | [.list xs] => withInts xs fun ns => ns.length ≤ 4000 ∧ ∀ ns' : List Int, ns'.Pairwise (· < ·) → (∀ k, k ∈ ns' ↔ k ∈ ns) → Q (.f (ns'.map PyData.int)) Γ1
  | _ => False
theorem sim_sortSet {K : PySem.W.Frag} {W : XW} {w : World} {ta : TA} {wa : WA} (ha : SimA K W ta wa) : Sim K W (tCB (rSortS w) (tCons (tCB (rSetL K w) ta) tNil)) (wSortSet wa) := by
  intro M F Γ σ H Q Q' r ok w h
  refine ha M F Γ σ H _ _ r ok w fun os vs M1 Γ1 H1 s1 r1 v1 w1 => ?_
  obtain ⟨ds, p, q⟩ := rss_ok r1 v1 w1
  match ds, q with
  | [.list xs], q =>
    obtain ⟨v, rfl, e⟩ := rd1 p
    obtain ⟨a, ws, rfl, e1, e2⟩ := e.list r1.sM
    obtain ⟨ns, rfl, rfl, k1, k4⟩ := withInts_ok q e2
    refine ⟨a, ns, rfl, SqL.of e1, k1, fun b c hc _ hb => ?_⟩
    refine ⟨b, _, c, rfl, upd_same, fun ns' p' h1 h2 hp => ?_⟩
    exact fin_f (Q := fun o => Q o Γ1) (Q' := Q') (r1.raw hb) hp (RpAll.ofInts ns') (k4 ns' h1 fun k => by simpa using h2 k) fun o v M' H' s r2 v2 q2 => h o v M' Γ1 H' (s1.trans s) r2 v2 q2
section
variable {X : Cx} {W : XW} {e : Expr} {te : TE} {we : WE} {pos p pos2 p2 : Pos} {x y : Str}
theorem e_sortSet {K : PySem.W.Frag} (hv : bootBuiltins x = some (.builtin "sorted")) (hv2 : bootBuiltins y = some (.type "set")) (hm : X.mg x = none) (hm2 : X.mg y = none) (ha : DE X W e te we) (hg : Gl X x := by rfl) (hg2 : Gl X y := by rfl)
    (hn : x ≠ "__name__" := by decide) (hn2 : y ≠ "__name__" := by decide) (hdb : (x == ("__debug__" : Str)) = false := by decide) (hdb2 : (y == ("__debug__" : Str)) = false := by decide)
    (h1 : starEach [e] X.env = (false, eval e X.env) :: starEach [] X.env := by rfl) (h2 : starEach [.Call (.Name y p2) [e] [] pos2] X.env = (false, eval (.Call (.Name y p2) [e] [] pos2) X.env) :: starEach [] X.env := by rfl) (hc : X.calm = true := by rfl) (hK : X.K = K := by rfl) :
    DE X W (.Call (.Name x p) [.Call (.Name y p2) [e] [] pos2] [] pos) (tCB (rSortS X.w) (tCons (tCB (rSetL K X.w) (tCons te tNil)) tNil)) (wSortSet (wCons we wNil)) := by
  subst hK
  exact ⟨pe_callB (cr_sortS hc) hg hm hv (pa_cons (pe_callTy (cr_setL hc) hg2 hm2 hv2 (pa_cons ha.pe pa_nil h1) hn2 hdb2 h1) pa_nil h2) hn hdb h2, sim_sortSet (sim_cons ha.sim sim_nil)⟩
end
end Pd
end

section
set_option maxRecDepth 100000
set_option maxHeartbeats 4000000
/-! Ps2: xs.pop(i). -/
namespace Pd
open PySem PySem.Spec L2
open PyProof.Rows hiding St
set_option autoImplicit false
section
variable {K : PySem.W.Frag} {W : XW} {M M' F F' H H' : Hp} {Γ Γ' : Sl} {σ σ' : L2.St}
theorem RpAll.eraseIdx : ∀ {vs : List V} {ds : List D} (i : Nat), RpAll K M vs ds → RpAll K M (vs.eraseIdx i) (ds.eraseIdx i)
  | _, _, _, .nil => by simpa using RpAll.nil
  | _, _, 0, .cons _ t => t
  | _, _, i + 1, .cons q t => .cons q (RpAll.eraseIdx i t)
theorem seqIndex_nat {n i : Nat} (h : i < n) : seqIndex? (i : Int) n = some i := by
  unfold seqIndex?
  simp
  omega
/-- xs.pop(i), i from 0 on -/
def wPopAt (i : Nat) (we : WE) : WE := fun Γ Q => wOwn Γ i fun _ _ => we Γ fun o Γ1 => asInt o fun k => wOwn Γ1 i fun pin ds => 0 ≤ k ∧ k < ds.length ∧ ds.length < 1000000 ∧ ∀ d, ds[k.toNat]? = some d → Q (.d d) (Γ1.set i (some (.own pin (ds.eraseIdx k.toNat))))
theorem sim_popAt {i : Nat} {te : TE} {we : WE} (he : Sim K W te we) : Sim K W (tBM K "list" rPopAt (tVar i) (tCons te tNil)) (wPopAt i we) := by
  intro M F Γ σ H Q Q' r ok w h
  obtain ⟨_, _, p, _, _, k3, e1, e4, _⟩ := wOwn_ok r w
  refine ⟨_, e1, tyV_list e4, ?_⟩
  refine he M F Γ σ H _ _ r ok k3 fun o v M1 Γ1 H1 s1 r1 v1 w1 => ?_
  obtain ⟨k, rfl, w2⟩ := asInt_ok v1 w1
  obtain ⟨pin, ds, p', vs, e2, ⟨k0, k1, k2, w5⟩, e3, e4, e5⟩ := wOwn_ok r1 w2
  rw [e1] at e3; cases e3
  obtain ⟨k, rfl⟩ := Int.eq_ofNat_of_zero_le k0
  simp only [Int.toNat_natCast] at w5
  have hk : k < ds.length := by omega
  have hd : ds[k]? = some ds[k] := List.getElem?_eq_getElem hk
  obtain ⟨v, ev, pv⟩ := e5.getD hd
  refine ⟨p, vs, (k : Int), k, v, rfl, rfl, e4, by omega, by omega, by rw [e5.length]; exact seqIndex_nat hk, ev, ?_⟩
  exact h (.d ds[k]) _ M1 _ _ s1 (r1.write e2 e1 (e5.eraseIdx k)) pv (w5 _ hd)
end
section
variable {X : Cx} {W : XW} {e : Expr} {te : TE} {we : WE}
theorem e_popAt {K : PySem.W.Frag} {C : Expr} (i : Nat) (he : DE X W e te we) (mk : PA X [e] (tCons te tNil) → PE X C (tBM X.K "list" rPopAt (tVar i) (tCons te tNil))) (hs : starEach [e] X.env = (false, eval e X.env) :: starEach [] X.env := by rfl) (hK : X.K = K := by rfl) :
    DE X W C (tBM K "list" rPopAt (tVar i) (tCons te tNil)) (wPopAt i we) := by
  subst hK
  exact ⟨mk (pa_cons he.pe pa_nil hs), sim_popAt he.sim⟩
end
end Pd
end

section
set_option maxRecDepth 100000
set_option maxHeartbeats 4000000
/-! Ps3: dicts of one's own: made, copied, read, written, walked. -/
namespace Pd
open PySem PySem.Spec L2
open PyProof.Rows hiding St
set_option autoImplicit false

def keyD : D → Option L2.Key
  | .int i => some (.inl i)
  | .str x => some (.inr x)
  | _ => none
def keyV : L2.Key → D
  | .inl i => .int i
  | .inr x => .str x
def valD (kvs : List (L2.Key × D)) (k : L2.Key) : Option D := (kvs.find? fun kv => decide (kv.1 = k)).map (·.2)
def putD (kvs : List (L2.Key × D)) (k : L2.Key) (d : D) : List (L2.Key × D) :=
  if (kvs.any fun kv => decide (kv.1 = k)) = true then kvs.map (fun kv => if kv.1 = k then (kv.1, d) else kv) else kvs ++ [(k, d)]
def asKey (o : Opd) (f : L2.Key → Prop) : Prop := match o with
  | .d x => (match keyD x with
    | some k => f k
    | none => False)
  | _ => False
/-- the dict of slot i -/
def wDic (Γ : Sl) (i : Nat) (f : DK → Prop) : Prop := match Γ[i]? with
  | some (some (.dic q)) => f q
  | _ => False
section
variable {K : PySem.W.Frag} {W : XW} {M M' F F' H H' : Hp} {Γ Γ' : Sl} {σ σ' : L2.St}
theorem rp_key {v : V} {d : D} {k : L2.Key} (h : Rp K M v d) (e : keyD d = some k) : v = kV k := by
  cases d with
  | int i => cases h; cases e; rfl
  | str x => cases h; cases e; rfl
  | _ => cases e
theorem asKey_ok {o : Opd} {v : V} {f : L2.Key → Prop} (h : ORel K M F Γ σ H v o) (hk : asKey o f) : ∃ k, v = kV k ∧ f k := by
  cases o with
  | d x =>
    unfold asKey at hk
    simp only at hk
    cases e : keyD x with
    | none => rw [e] at hk; exact hk.elim
    | some k => rw [e] at hk; exact ⟨k, rp_key h e, hk⟩
  | _ => exact hk.elim
/-- entries beside entries -/
def ER (K : PySem.W.Frag) (M : Hp) (us : List (L2.Key × V)) (kvs : List (L2.Key × D)) : Prop := us.map Prod.fst = kvs.map Prod.fst ∧ RpAll K M (us.map Prod.snd) (kvs.map Prod.snd)
theorem ER.val {us : List (L2.Key × V)} {kvs : List (L2.Key × D)} (h : ER K M us kvs) (k : L2.Key) : (valV us k = none ∧ valD kvs k = none) ∨ ∃ v d, valV us k = some v ∧ valD kvs k = some d ∧ Rp K M v d := by
  induction us generalizing kvs with
  | nil =>
    cases kvs with
    | nil => exact .inl ⟨rfl, rfl⟩
    | cons y kvs => cases h.1
  | cons x us ih =>
    cases kvs with
    | nil => cases h.1
    | cons y kvs =>
      obtain ⟨a, v⟩ := x
      obtain ⟨b, d⟩ := y
      obtain ⟨h1, h2⟩ := h
      simp only [List.map_cons, List.cons.injEq] at h1
      obtain ⟨rfl, h1⟩ := h1
      simp only [List.map_cons] at h2
      cases h2 with
      | cons p q =>
        by_cases e : a = k
        · refine .inr ⟨v, d, ?_, ?_, p⟩
          · simp [valV, e]
          · simp [valD, e]
        · have := ih (kvs := kvs) ⟨h1, q⟩
          have e1 : valV ((a, v) :: us) k = valV us k := by simp [valV, List.find?_cons, e]
          have e2 : valD ((a, d) :: kvs) k = valD kvs k := by simp [valD, List.find?_cons, e]
          rw [e1, e2]
          exact this
theorem ER.any {us : List (L2.Key × V)} {kvs : List (L2.Key × D)} (h : us.map Prod.fst = kvs.map Prod.fst) (k : L2.Key) : (us.any fun kv => decide (kv.1 = k)) = (kvs.any fun kv => decide (kv.1 = k)) := by
  have e1 : (us.any fun kv => decide (kv.1 = k)) = (us.map Prod.fst).any fun a => decide (a = k) := by rw [List.any_map]; rfl
  have e2 : (kvs.any fun kv => decide (kv.1 = k)) = (kvs.map Prod.fst).any fun a => decide (a = k) := by rw [List.any_map]; rfl
  rw [e1, e2, h]
theorem ER.map {us : List (L2.Key × V)} {kvs : List (L2.Key × D)} (h : ER K M us kvs) (k : L2.Key) {v : V} {d : D} (p : Rp K M v d) : ER K M (us.map fun kv => if kv.1 = k then (kv.1, v) else kv) (kvs.map fun kv => if kv.1 = k then (kv.1, d) else kv) := by
  induction us generalizing kvs with
  | nil =>
    cases kvs with
    | nil => exact ⟨rfl, .nil⟩
    | cons y kvs => cases h.1
  | cons x us ih =>
    cases kvs with
    | nil => cases h.1
    | cons y kvs =>
      obtain ⟨a, w⟩ := x
      obtain ⟨b, e⟩ := y
      obtain ⟨h1, h2⟩ := h
      simp only [List.map_cons, List.cons.injEq] at h1
      obtain ⟨rfl, h1⟩ := h1
      simp only [List.map_cons] at h2
      cases h2 with
      | cons p1 q =>
        obtain ⟨i1, i2⟩ := ih (kvs := kvs) ⟨h1, q⟩
        by_cases c : a = k
        · refine ⟨?_, ?_⟩
          · simp only [List.map_cons, if_pos c, i1]
          · simp only [List.map_cons, if_pos c]
            exact .cons p i2
        · refine ⟨?_, ?_⟩
          · simp only [List.map_cons, if_neg c, i1]
          · simp only [List.map_cons, if_neg c]
            exact .cons p1 i2
theorem ER.put {us : List (L2.Key × V)} {kvs : List (L2.Key × D)} (h : ER K M us kvs) (k : L2.Key) {v : V} {d : D} (p : Rp K M v d) : ER K M (putK us k v) (putD kvs k d) := by
  unfold putK putD
  rw [ER.any h.1 k]
  split
  · exact h.map k p
  · refine ⟨?_, ?_⟩
    · simp only [List.map_append, h.1, List.map_cons, List.map_nil]
    · simp only [List.map_append, List.map_cons, List.map_nil]
      exact h.2.append (.one p)
theorem ER.length {us : List (L2.Key × V)} {kvs : List (L2.Key × D)} (h : ER K M us kvs) : us.length = kvs.length := by
  have := congrArg List.length h.1
  simpa using this
theorem rd_dk {p : Addr} {us : LK} (h : H p = some (dkO us)) : Rd H p (.dK us.us) := by
  unfold dkO at h
  cases e : us.ob with
  | none => simp only [e] at h; exact .inl h
  | some ob => simp only [e] at h; exact .inr ⟨ob, h⟩
theorem DHold.at (r : R K M F Γ σ H) {p : Addr} {us : LK} {l : Bool} (h : DHold M F H p us l) : H p = some (dkO us) := by
  cases l with
  | true => exact r.sM _ _ h
  | false => exact h.2.2
theorem wDic_ok {i : Nat} {f : DK → Prop} (r : R K M F Γ σ H) (h : wDic Γ i f) : ∃ q p us, Γ[i]? = some (some (.dic q)) ∧ f q ∧ σ[i]? = some (some (.ref p)) ∧ H p = some (dkO us) ∧ DHold M F H p us q.lock ∧ KvRel K M us q := by
  unfold wDic at h
  cases e : Γ[i]? with
  | none => simp only [e] at h
  | some s =>
    cases s with
    | none => simp only [e] at h
    | some s =>
      cases s with
      | imm d => simp only [e] at h
      | own pin ds => simp only [e] at h
      | dic q =>
        simp only [e] at h
        obtain ⟨p, us, e1, e2, e3⟩ := r.dw i q e
        exact ⟨q, p, us, rfl, h, e1, DHold.at r e2, e2, e3⟩
theorem R.noDicFresh (r : R K M F Γ σ H) {p : Addr} (h : H p = none) : ¬ DicAt Γ σ p := fun z => by
  obtain ⟨_, _, us, e⟩ := r.dicM z
  rw [h] at e; cases e
/-- a dict that nobody tells of is changed -/
theorem R.updDic (r : R K M F Γ σ H) {p : Addr} {us : LK} {o : HO} (hM : M p = none) (hF : F p = none) (hn : ¬ DicAt Γ σ p) (h0 : H p = some (dkO us)) : R K M F Γ σ (upd H p o) := by
  refine ⟨same_out r.sM hM, same_out r.sF hF, r.dj, r.len, r.im, fun i pin ds e => ?_, r.sep, fun i kvs e => ?_, r.dsep⟩
  · obtain ⟨q, vs, e1, e2, e3, e4, e5, e6⟩ := r.ow i pin ds e
    refine ⟨q, vs, e1, e2, e3, e4, ?_, e6⟩
    rw [upd_ne (show q ≠ p from fun z => by rw [z, h0] at e5; exact dkO_nl' e5)]
    exact e5
  · obtain ⟨q, us', e1, e3, e6⟩ := r.dw i kvs e
    refine ⟨q, us', e1, e3.imp (fun z => z) fun l e3 e4 e5 => ⟨e3, e4, ?_⟩, e6⟩
    rw [upd_ne (show q ≠ p from fun z => hn ⟨i, kvs, e, by rw [← z]; exact e1, l⟩)]
    exact e5
/-! ### made -/
def wDNew : WE := fun Γ Q => Q (.k ⟨false, []⟩) Γ
theorem sim_dnew : Sim K W tDNewK wDNew := by
  intro M F Γ σ H Q Q' r ok w h
  intro p hp
  exact h (.k ⟨false, []⟩) _ M Γ _ (Same.refl M) (r.raw hp) ⟨p, ⟨none, []⟩, rfl, r.sM.free hp, r.sF.free hp, upd_same, ⟨rfl, rfl, .nil⟩, rfl, r.noDicFresh hp⟩ w
def wDOne (wk wv : WE) : WE := fun Γ Q => wk Γ fun ok Γ1 => asKey ok fun k => wv Γ1 fun ov Γ2 => fz Γ2 ov fun d Γ3 => Q (.k ⟨false, [(k, d)]⟩) Γ3
theorem sim_done {tk tv : TE} {wk wv : WE} (hk : Sim K W tk wk) (hv : Sim K W tv wv) : Sim K W (tDisp [(tk, tv)]) (wDOne wk wv) := by
  intro M F Γ σ H Q Q' r ok w h
  intro p hp
  have hM := r.sM.free hp
  have hF := r.sF.free hp
  have r0 : R K M (upd F p (dkO ⟨none, []⟩)) Γ σ (upd H p (.dK [])) := (r.raw hp).moreFD (us := ⟨none, []⟩) upd_same hM (r.noDicFresh hp)
  have ok0 : W.ok M (upd F p (dkO ⟨none, []⟩)) := W.mono (Same.refl M) (same_upd hF) ok
  refine hk M _ Γ σ _ _ _ r0 ok0 w fun okey x M1 Γ1 H1 s1 r1 v1 w1 => ?_
  obtain ⟨k, rfl, w1⟩ := asKey_ok v1 w1
  refine hv M1 _ Γ1 σ H1 _ _ r1 (XW.up ok0 s1) w1 fun ov y M2 Γ2 H2 s2 r2 v2 w2 => ?_
  obtain ⟨M3, Γ3, d, s3, r3, p3, k3, _⟩ := fz_ok r2 v2 w2
  have at2 : H2 p = some (.dK []) := r3.sF p _ upd_same
  have m3 : M3 p = none := r3.dj p _ upd_same
  have nd : ¬ DicAt Γ3 σ p := fun z => by
    have := (r3.dicM z).2.1
    rw [upd_same] at this; cases this
  refine ⟨at2, [(k, y)], rfl, by show 1 ≤ 15; decide, ?_⟩
  have r4 := (r3.weakF (same_upd hF)).updDic (us := ⟨none, []⟩) (o := .dK [(k, y)]) m3 hF nd at2
  have em : mergeK [] [(k, y)] = [(k, y)] := rfl
  rw [em]
  exact h (.k ⟨false, [(k, d)]⟩) _ M3 Γ3 _ (s1.trans (s2.trans s3)) r4 ⟨p, ⟨none, [(k, y)]⟩, rfl, m3, hF, upd_same, ⟨rfl, rfl, .one p3⟩, rfl, nd⟩ k3
/-- dict(d) -/
def wDCopy (i : Nat) : WE := fun Γ Q => wDic Γ i fun q => Q (.k ⟨false, q.kvs⟩) Γ
def rDCopy : List V → Hp → VK → Prop := fun xs H Q => ∃ (a : Addr) (kvs : List (Key × V)), xs = [.ref a] ∧ Rd H a (.dK kvs) ∧ ∀ p, H p = none → Q (.ref p) (upd H p (.dK kvs))
theorem sim_dcopy {i : Nat} : Sim K W (tCB rDCopy (tCons (tVar i) tNil)) (wDCopy i) := by
  intro M F Γ σ H Q Q' r ok w h
  obtain ⟨q, a, us, e1, w1, e2, e3, e4, e5⟩ := wDic_ok r w
  refine ⟨.ref a, e2, a, us.us, rfl, rd_dk e3, fun p hp => ?_⟩
  exact h (.k ⟨false, q.kvs⟩) _ M Γ _ (Same.refl M) (r.raw hp) ⟨p, ⟨none, us.us⟩, rfl, r.sM.free hp, r.sF.free hp, upd_same, ⟨rfl, e5.2.1, e5.2.2⟩, rfl, r.noDicFresh hp⟩ w1
/-- the dict of slot i is given on: the slot tells no more of it -/
def wDMv (i : Nat) : WE := fun Γ Q => wDic Γ i fun q => q.lock = false ∧ Q (.k q) (Γ.set i none)
theorem sim_dmv {i : Nat} : Sim K W (tVar i) (wDMv i) := by
  intro M F Γ σ H Q Q' r ok w h
  obtain ⟨q, a, us, e1, ⟨l, w1⟩, e2, e3, e4, e5⟩ := wDic_ok r w
  rw [l] at e4
  refine ⟨.ref a, e2, h (.k q) _ M _ H (Same.refl M) (r.forget i) ⟨a, us, rfl, e4.1, e4.2.1, e3, e5, l, fun z => ?_⟩ w1⟩
  obtain ⟨j, kvs, h1, h2, h3⟩ := z
  rcases get_set h1 with ⟨_, f1, _⟩ | ⟨ne, h1⟩
  · cases f1
  · exact ne (r.dsep i j a q kvs l h3 e1 h1 e2 h2)
/-! ### read -/
theorem dget_of {p : Addr} {us : LK} {q : DK} (e3 : H p = some (dkO us)) (e5 : KvRel K M us q) (k : L2.Key) : ∃ o, DGet H p (kV k) o ∧ ((o = none ∧ valD q.kvs k = none) ∨ ∃ v d, o = some v ∧ valD q.kvs k = some d ∧ Rp K M v d) :=
  ⟨valV us.us k, .inl ⟨us.us, k, rd_dk e3, rfl, rfl⟩, ER.val (us := us.us) (kvs := q.kvs) e5.2 k⟩
def wDIn (b : Bool) (wk : WE) (i : Nat) : WE := fun Γ Q => wk Γ fun ok Γ1 => asKey ok fun k => wDic Γ1 i fun q => Q (.d (.bool (xor b (valD q.kvs k).isSome))) Γ1
theorem sim_din {i : Nat} {tk : TE} {wk : WE} (hk : Sim K W tk wk) : Sim K W (tDIn tk (tVar i)) (wDIn false wk i) := by
  intro M F Γ σ H Q Q' r ok w h
  refine hk M F Γ σ H _ _ r ok w fun okey x M1 Γ1 H1 s1 r1 v1 w1 => ?_
  obtain ⟨k, rfl, w1⟩ := asKey_ok v1 w1
  obtain ⟨q, a, us, e1, w1, e2, e3, e4, e5⟩ := wDic_ok r1 w1
  obtain ⟨o, g1, g2⟩ := dget_of e3 e5 k
  refine ⟨.ref a, e2, a, o, rfl, g1, ?_⟩
  have e : o.isSome = (valD q.kvs k).isSome := by
    rcases g2 with ⟨rfl, g⟩ | ⟨v, d, rfl, g, _⟩ <;> rw [g] <;> rfl
  rw [e]
  refine h (.d (.bool (valD q.kvs k).isSome)) _ M1 Γ1 H1 s1 r1 (.bl _) ?_
  simpa using w1
theorem sim_dnotin {i : Nat} {tk : TE} {wk : WE} (hk : Sim K W tk wk) : Sim K W (tDNotIn tk (tVar i)) (wDIn true wk i) := by
  intro M F Γ σ H Q Q' r ok w h
  refine hk M F Γ σ H _ _ r ok w fun okey x M1 Γ1 H1 s1 r1 v1 w1 => ?_
  obtain ⟨k, rfl, w1⟩ := asKey_ok v1 w1
  obtain ⟨q, a, us, e1, w1, e2, e3, e4, e5⟩ := wDic_ok r1 w1
  obtain ⟨o, g1, g2⟩ := dget_of e3 e5 k
  refine ⟨.ref a, e2, a, o, rfl, g1, ?_⟩
  have e : o.isSome = (valD q.kvs k).isSome := by
    rcases g2 with ⟨rfl, g⟩ | ⟨v, d, rfl, g, _⟩ <;> rw [g] <;> rfl
  rw [e]
  refine h (.d (.bool (!(valD q.kvs k).isSome))) _ M1 Γ1 H1 s1 r1 (.bl _) ?_
  simpa using w1
def wDGet (i : Nat) (wk : WE) : WE := fun Γ Q => wDic Γ i fun _ => wk Γ fun ok Γ1 => asKey ok fun k => wDic Γ1 i fun q => match valD q.kvs k with
  | some d => Q (.d d) Γ1
  | none => False
theorem sim_dget {i : Nat} {tk : TE} {wk : WE} (hk : Sim K W tk wk) : Sim K W (tDGet (tVar i) tk) (wDGet i wk) := by
  intro M F Γ σ H Q Q' r ok w h
  obtain ⟨_, a, _, _, w0, e0, _⟩ := wDic_ok r w
  refine ⟨.ref a, e0, hk M F Γ σ H _ _ r ok w0 fun okey x M1 Γ1 H1 s1 r1 v1 w1 => ?_⟩
  obtain ⟨k, rfl, w1⟩ := asKey_ok v1 w1
  obtain ⟨q, a', us, e1, w1, e2, e3, e4, e5⟩ := wDic_ok r1 w1
  rw [e0] at e2; cases e2
  obtain ⟨o, g1, g2⟩ := dget_of e3 e5 k
  rcases g2 with ⟨rfl, g⟩ | ⟨v, d, rfl, g, p⟩
  · rw [g] at w1; exact w1.elim
  · rw [g] at w1
    exact ⟨a, v, rfl, g1, h (.d d) v M1 Γ1 H1 s1 r1 p w1⟩
def wDGet1 (i : Nat) (wk : WE) : WE := fun Γ Q => wDic Γ i fun _ => wk Γ fun ok Γ1 => asKey ok fun k => wDic Γ1 i fun q => Q (.d ((valD q.kvs k).getD .none)) Γ1
theorem sim_dget1 {i : Nat} {tk : TE} {wk : WE} (hk : Sim K W tk wk) : Sim K W (tDGet1 (tVar i) tk) (wDGet1 i wk) := by
  intro M F Γ σ H Q Q' r ok w h
  obtain ⟨_, a, us0, _, w0, e0, f0, _⟩ := wDic_ok r w
  refine ⟨.ref a, e0, a, rfl, .inl ⟨_, rd_dk f0⟩, hk M F Γ σ H _ _ r ok w0 fun okey x M1 Γ1 H1 s1 r1 v1 w1 => ?_⟩
  obtain ⟨k, rfl, w1⟩ := asKey_ok v1 w1
  obtain ⟨q, a', us, e1, w1, e2, e3, e4, e5⟩ := wDic_ok r1 w1
  rw [e0] at e2; cases e2
  obtain ⟨o, g1, g2⟩ := dget_of e3 e5 k
  rcases g2 with ⟨rfl, g⟩ | ⟨v, d, rfl, g, p⟩
  · rw [g] at w1
    exact ⟨none, g1, h (.d .none) .non M1 Γ1 H1 s1 r1 .non w1⟩
  · rw [g] at w1
    exact ⟨some v, g1, h (.d d) v M1 Γ1 H1 s1 r1 p w1⟩
def rDLen : List V → Hp → VK → Prop := fun xs H Q => ∃ a kvs, xs = [V.ref a] ∧ H a = some (.dK kvs) ∧ Q (.int kvs.length) H
/-- len(d) -/
def wDLen (i : Nat) : WE := fun Γ Q => wDic Γ i fun q => q.lock = false ∧ Q (.d (.int q.kvs.length)) Γ
theorem sim_dlen {i : Nat} : Sim K W (tCB rDLen (tCons (tVar i) tNil)) (wDLen i) := by
  intro M F Γ σ H Q Q' r ok w h
  obtain ⟨q, a, us, e1, ⟨l, w1⟩, e2, e3, e4, e5⟩ := wDic_ok r w
  have eo : us.ob = none := by
    have := e5.1
    rw [l] at this
    cases e : us.ob with
    | none => rfl
    | some _ => rw [e] at this; cases this
  have e3' : H a = some (.dK us.us) := by
    unfold dkO at e3
    simpa only [eo] using e3
  have er : ER K M us.us q.kvs := e5.2
  refine ⟨.ref a, e2, a, us.us, rfl, e3', ?_⟩
  rw [er.length]
  exact h (.d (.int q.kvs.length)) _ M Γ H (Same.refl M) r (.int _) w1
/-! ### written -/
theorem R.putDic (r : R K M F Γ σ H) {i : Nat} {p : Addr} {us : LK} {q q' : DK} {us' : LK} (e : Γ[i]? = some (some (.dic q))) (l : q.lock = false) (l' : q'.lock = false) (hp : σ[i]? = some (some (.ref p))) (hh : DHold M F H p us false) (h : KvRel K M us' q') :
    R K M F (Γ.set i (some (.dic q'))) σ (upd H p (dkO us')) := by
  obtain ⟨h1, h2, h3⟩ := hh
  have at_ : ∀ {j : Nat} {s : SV}, (Γ.set i (some (.dic q')))[j]? = some (some s) → (i = j ∧ s = .dic q') ∨ (i ≠ j ∧ Γ[j]? = some (some s)) := fun {j s} z => by
    rcases get_set z with ⟨a, b, _⟩ | ⟨a, b⟩
    · exact .inl ⟨a, Option.some.inj b⟩
    · exact .inr ⟨a, b⟩
  refine ⟨same_out r.sM h1, same_out r.sF h2, r.dj, by simp [r.len], fun j d z => ?_, fun j pin ds z => ?_, fun j k p' a b ds es z1 z2 z3 z4 => ?_, fun j kvs z => ?_, fun j k p' ks ls l1 l2 z1 z2 z3 z4 => ?_⟩
  · rcases at_ z with ⟨_, f⟩ | ⟨_, z⟩
    · cases f
    · exact r.im j d z
  · rcases at_ z with ⟨_, f⟩ | ⟨_, z⟩
    · cases f
    · obtain ⟨q0, vs, g1, g2, g3, g4, g5, g6⟩ := r.ow j pin ds z
      refine ⟨q0, vs, g1, g2, g3, g4, ?_, g6⟩
      rw [upd_ne (show q0 ≠ p from fun y => by rw [y, h3] at g5; exact dkO_nl' g5)]
      exact g5
  · rcases at_ z1 with ⟨_, f⟩ | ⟨_, z1⟩
    · cases f
    · rcases at_ z2 with ⟨_, f⟩ | ⟨_, z2⟩
      · cases f
      · exact r.sep j k p' a b ds es z1 z2 z3 z4
  · rcases at_ z with ⟨rfl, f⟩ | ⟨ne, z⟩
    · cases f
      refine ⟨p, us', hp, ?_, h⟩
      rw [l']
      exact ⟨h1, h2, upd_same⟩
    · obtain ⟨q0, us0, g1, g3, g6⟩ := r.dw j kvs z
      refine ⟨q0, us0, g1, g3.imp (fun y => y) fun l0 g3 g4 g5 => ⟨g3, g4, ?_⟩, g6⟩
      rw [upd_ne (show q0 ≠ p from fun y => ne (r.dsep i j p q kvs l l0 e z hp (by rw [← y]; exact g1)))]
      exact g5
  · rcases at_ z1 with ⟨rfl, f1⟩ | ⟨n1, z1⟩
    · rcases at_ z2 with ⟨rfl, f2⟩ | ⟨n2, z2⟩
      · rfl
      · rw [hp] at z3; cases z3
        exact absurd (r.dsep i k p q ls l l2 e z2 hp z4) n2
    · rcases at_ z2 with ⟨rfl, f2⟩ | ⟨n2, z2⟩
      · rw [hp] at z4; cases z4
        exact absurd (r.dsep i j p q ks l l1 e z1 hp z3) n1
      · exact r.dsep j k p' ks ls l1 l2 z1 z2 z3 z4
def wDPut (i : Nat) (wk wv : WE) : WS := fun De Γ => wv Γ fun ov Γ1 => fz Γ1 ov fun d Γ2 => wDic Γ2 i fun _ => wk Γ2 fun ok Γ3 => asKey ok fun k => wDic Γ3 i fun q => q.lock = false ∧ q.kvs.length < sizeLine ∧ De.nx (Γ3.set i (some (.dic ⟨false, putD q.kvs k d⟩)))
theorem sim_dput {i : Nat} {tk tv : TE} {wk wv : WE} (hk : Sim K W tk wk) (hv : Sim K W tv wv) : SimS K W (sDPut (tVar i) tk tv) (wDPut i wk wv) := by
  intro M F Γ σ H De Dt r ok w h
  refine hv M F Γ σ H _ _ r ok w fun ov v M1 Γ1 H1 s1 r1 v1 w1 => ?_
  obtain ⟨M2, Γ2, d, s2, r2, p2, k2, _⟩ := fz_ok r1 v1 w1
  obtain ⟨_, a, _, _, w2, e0, _⟩ := wDic_ok r2 k2
  have s12 := s1.trans s2
  refine ⟨.ref a, e0, hk M2 F Γ2 σ H1 _ _ r2 (XW.up ok s12) w2 fun okey x M3 Γ3 H3 s3 r3 v3 w3 => ?_⟩
  obtain ⟨k, rfl, w3⟩ := asKey_ok v3 w3
  obtain ⟨q, a', us, e1, ⟨l, hl, w3⟩, e2, e3, e4, e5⟩ := wDic_ok r3 w3
  rw [e0] at e2; cases e2
  rw [l] at e4
  have eo : us.ob = none := by
    have := e5.1
    rw [l] at this
    cases e : us.ob with
    | none => rfl
    | some _ => rw [e] at this; cases this
  have e3' : H3 a = some (.dK us.us) := by
    unfold dkO at e3
    simpa only [eo] using e3
  have er : ER K M3 us.us q.kvs := e5.2
  have hp := er.put k (p2.up s3)
  refine ⟨a, _, rfl, DPut.k (k := k) (v := v) e3' (by rw [er.length]; exact hl), ?_⟩
  exact h.nx M3 _ σ _ (s12.trans s3) (r3.putDic (us' := ⟨none, putK us.us k v⟩) (q' := ⟨false, putD q.kvs k d⟩) e1 l rfl e0 e4 ⟨rfl, hp.1, hp.2⟩) w3
/-! ### walked -/
def iKeysL (td : TE) : TI := fun σ H R => td σ H fun x H1 => ∃ (d : Addr) (us : List (L2.Key × V)), x = .ref d ∧ ((H1 d = some (.dK us) ∧ ∀ od, R (Itk d od us) (upd H1 d (.frz od (.dK us)))) ∨ ∃ o, H1 d = some (.frz o (.dK us)) ∧ R (Itk d o us) H1)
theorem pi_keysL {X : Cx} {tg e : Expr} {td : TE} (he : PE X e td) : PI X tg e (iKeysL td) := by
  refine ⟨fun pins s σ H R I h => ?_⟩
  refine thn (he.run pins s σ H _ I h) fun u s1 ⟨x, H1, I1, rx, d, us, ex, q⟩ => ?_
  subst ex
  obtain rfl : u = Value.ref d := rx
  have main : ∀ (o : Obj) (H2 : Hp), Inv X pins σ H2 s1 → H2 d = some (.frz o (.dK us)) → R (Itk d o us) H2 → wpAny (model X.prog X.w) X.A (pyIter (.ref d)) (PIE X pins σ tg R) X.xe s1 := fun o H2 I2 hd q2 => by
    obtain ⟨hs, hgd, hx, es, ep, vs, hdt, hsz, kv, hm⟩ := I2.frzK hd
    refine iter_keys hs hgd hx hdt (pi_one (tk := s1.toks) I2 _ (turn_keys _ hdt) ⟨_, Heap.get?_push_size _ rfl, rfl, ?_⟩ q2)
    rw [hsz] <;> rfl
  rcases q with ⟨hd, q⟩ | ⟨o, hd, q⟩
  · obtain ⟨od, I2⟩ := I1.lock hd trivial
    exact main od _ I2 upd_same (q od)
  · exact main o H1 I1 hd q
theorem itOk_keys {d : Addr} {o : Obj} {us : List (L2.Key × V)} {kvs : List (L2.Key × D)} (hM : M d = some (.frz o (.dK us))) (h : us.map Prod.fst = kvs.map Prod.fst) : ItOk K M (Itk d o us) (kvs.map fun kv => keyV kv.1) := by
  have hl : us.length = kvs.length := by simpa using congrArg List.length h
  refine ⟨fun H => H d = some (.frz o (.dK us)), fun i H x H' => H' = H ∧ ∃ k v, us[i]? = some (k, v) ∧ x = kV k, by rw [List.length_map, ← hl]; exact walk_keys, fun H s => s _ _ hM, fun i H x H' M' F Γ σ hi s r y => ?_⟩
  obtain ⟨rfl, k, v, e, rfl⟩ := y
  have ek : (kvs.map Prod.fst)[i]? = some k := by rw [← h, List.getElem?_map, e]; rfl
  rw [List.getElem?_map] at ek
  obtain ⟨kv, e2, rfl⟩ := Option.map_eq_some_iff.mp ek
  refine ⟨M', keyV kv.1, Same.refl M', r, by rw [List.getElem?_map, e2]; rfl, ?_⟩
  cases kv.1 with
  | inl i => exact .int i
  | inr x => exact .str x
def wDKeys (i : Nat) : WI := fun Γ Q => wDic Γ i fun q => Q (q.kvs.map fun kv => keyV kv.1) (Γ.set i (some (.dic ⟨true, q.kvs⟩)))
theorem R.lockDic (r : R K M F Γ σ H) {i : Nat} {p : Addr} {us : List (L2.Key × V)} {q : DK} {od : Obj} (e : Γ[i]? = some (some (.dic q))) (l : q.lock = false) (hp : σ[i]? = some (some (.ref p))) (hh : DHold M F H p ⟨none, us⟩ false) (h : ER K M us q.kvs) :
    Same M (upd M p (.frz od (.dK us))) ∧ R K (upd M p (.frz od (.dK us))) F (Γ.set i (some (.dic ⟨true, q.kvs⟩))) σ (upd H p (.frz od (.dK us))) := by
  obtain ⟨h1, h2, h3⟩ := hh
  have sm : Same M (upd M p (.frz od (.dK us))) := same_upd h1
  have at_ : ∀ {j : Nat} {s : SV}, (Γ.set i (some (.dic ⟨true, q.kvs⟩)))[j]? = some (some s) → (i = j ∧ s = .dic ⟨true, q.kvs⟩) ∨ (i ≠ j ∧ Γ[j]? = some (some s)) := fun {j s} z => by
    rcases get_set z with ⟨a, b, _⟩ | ⟨a, b⟩
    · exact .inl ⟨a, Option.some.inj b⟩
    · exact .inr ⟨a, b⟩
  refine ⟨sm, same_upd2 r.sM, same_out r.sF h2, fun p' x z => ?_, by simp [r.len], fun j d z => ?_, fun j pin ds z => ?_, fun j k p' a b ds es z1 z2 z3 z4 => ?_, fun j kvs z => ?_, fun j k p' ks ls l1 l2 z1 z2 z3 z4 => ?_⟩
  · rw [upd_ne (ne_of_none z h2)]; exact r.dj p' x z
  · rcases at_ z with ⟨_, f⟩ | ⟨_, z⟩
    · cases f
    · obtain ⟨v, g1, g2⟩ := r.im j d z
      exact ⟨v, g1, g2.up sm⟩
  · rcases at_ z with ⟨_, f⟩ | ⟨_, z⟩
    · cases f
    · obtain ⟨q0, vs, g1, g2, g3, g4, g5, g6⟩ := r.ow j pin ds z
      have hq : q0 ≠ p := fun y => by rw [y, h3] at g5; exact dkO_nl' g5
      exact ⟨q0, vs, g1, g2, by rw [upd_ne hq]; exact g3, g4, by rw [upd_ne hq]; exact g5, g6.up sm⟩
  · rcases at_ z1 with ⟨_, f⟩ | ⟨_, z1⟩
    · cases f
    · rcases at_ z2 with ⟨_, f⟩ | ⟨_, z2⟩
      · cases f
      · exact r.sep j k p' a b ds es z1 z2 z3 z4
  · rcases at_ z with ⟨rfl, f⟩ | ⟨ne, z⟩
    · cases f
      exact ⟨p, ⟨some od, us⟩, hp, upd_same, rfl, h.1, h.2.up sm⟩
    · obtain ⟨q0, us0, g1, g3, g6⟩ := r.dw j kvs z
      refine ⟨q0, us0, g1, g3.imp (sm _ _) fun l0 g3 g4 g5 => ?_, g6.up sm⟩
      have hq : q0 ≠ p := fun y => ne (r.dsep i j p q kvs l l0 e z hp (by rw [← y]; exact g1))
      exact ⟨by rw [upd_ne hq]; exact g3, g4, by rw [upd_ne hq]; exact g5⟩
  · rcases at_ z1 with ⟨_, f⟩ | ⟨_, z1⟩
    · cases f; cases l1
    · rcases at_ z2 with ⟨_, f⟩ | ⟨_, z2⟩
      · cases f; cases l2
      · exact r.dsep j k p' ks ls l1 l2 z1 z2 z3 z4
theorem set_self {l : Sl} {i : Nat} {s : Option SV} (h : l[i]? = some s) : l.set i s = l := by
  refine List.ext_getElem? fun j => ?_
  by_cases e : i = j
  · subst e
    have hl := (List.getElem?_eq_some_iff.mp h).1
    rw [List.getElem?_set_self hl, h]
  · rw [List.getElem?_set_ne e]
theorem simi_keys {i : Nat} : SimI K W (iKeysL (tVar i)) (wDKeys i) := by
  intro M F Γ σ H Q Q' r ok w h
  obtain ⟨q, a, us, e1, w1, e2, e3, e4, e5⟩ := wDic_ok r w
  obtain ⟨lk, qk⟩ := q
  cases lk with
  | false =>
    have eo : us.ob = none := by
      have := e5.1
      cases e : us.ob with
      | none => rfl
      | some _ => rw [e] at this; cases this
    obtain ⟨ob, us⟩ := us
    simp only at eo
    subst eo
    refine ⟨.ref a, e2, a, us, rfl, .inl ⟨e3, fun od => ?_⟩⟩
    obtain ⟨sm, rl⟩ := r.lockDic (od := od) e1 rfl e2 e4 e5.2
    exact h _ _ _ _ _ sm rl (itOk_keys upd_same e5.2.1) w1
  | true =>
    obtain ⟨ob, us⟩ := us
    cases ob with
    | none => cases e5.1
    | some o =>
      refine ⟨.ref a, e2, a, us, rfl, .inr ⟨o, e3, ?_⟩⟩
      have e4' : M a = some (.frz o (.dK us)) := e4
      simp only [set_self e1] at w1
      exact h _ _ M Γ H (Same.refl M) r (itOk_keys e4' e5.2.1) w1
end
/-! ### by the text -/
section
variable {X : Cx} {W : XW} {a b e v tg : Expr} {es : List Expr} {te tk tv : TE} {we wk wv : WE} {pos pos' p : Pos} {x : Str}
theorem e_dnew : DE X W (.Dict [] [] pos) tDNewK wDNew := ⟨pe_dnewK, sim_dnew⟩
theorem e_done (hk : DE X W a tk wk) (hv : DE X W b tv wv) : DE X W (.Dict [some a] [b] pos) (tDisp [(tk, tv)]) (wDOne wk wv) :=
  ⟨pe_disp (pps_cons hk.pe hv.pe pps_nil) rfl rfl (by simp) (by show 1 ≤ 15; decide), sim_done hk.sim hv.sim⟩
theorem e_dcopy (i : Nat) (hm : X.mg x = none) (ha : PE X e (tVar i)) (hv : bootBuiltins x = some (.type "dict")) (hg : Gl X x := by rfl) (hn : x ≠ "__name__" := by decide) (hdb : (x == ("__debug__" : Str)) = false := by decide)
    (he : starEach [e] X.env = (false, eval e X.env) :: starEach [] X.env := by rfl) : DE X W (.Call (.Name x p) [e] [] pos) (tCB rDCopy (tCons (tVar i) tNil)) (wDCopy i) :=
  ⟨pe_callTy call_dictD hg hm hv (pa_cons ha pa_nil he) hn hdb he, sim_dcopy⟩
theorem e_dlen (i : Nat) (hm : X.mg x = none) (ha : PE X e (tVar i)) (hv : bootBuiltins x = some (.builtin "len")) (hg : Gl X x := by rfl) (hn : x ≠ "__name__" := by decide) (hdb : (x == ("__debug__" : Str)) = false := by decide)
    (he : starEach [e] X.env = (false, eval e X.env) :: starEach [] X.env := by rfl) : DE X W (.Call (.Name x p) [e] [] pos) (tCB rDLen (tCons (tVar i) tNil)) (wDLen i) :=
  ⟨pe_callB call_lenD hg hm hv (pa_cons ha pa_nil he) hn hdb he, sim_dlen⟩
theorem bb_dict : bootBuiltins "dict" = some (.type "dict") := by decide +kernel
theorem e_dmv (i : Nat) (ha : PE X e (tVar i)) : DE X W e (tVar i) (wDMv i) := ⟨ha, sim_dmv⟩
theorem e_din (i : Nat) (hu : X.A.units + 1 < cLine) (hk : DE X W a tk wk) (ha : PE X b (tVar i)) (hm : behindInMarks .In b = false := by first | exact nomark _ | with_unfolding_all rfl) : DE X W (.Compare a [.In] [b] pos) (tDIn tk (tVar i)) (wDIn false wk i) := ⟨pe_cmp (pc_din hu hk.pe ha) hm, sim_din hk.sim⟩
theorem e_dnotin (i : Nat) (hu : X.A.units + 1 < cLine) (hk : DE X W a tk wk) (ha : PE X b (tVar i)) (hm : behindInMarks .NotIn b = false := by first | exact nomark _ | with_unfolding_all rfl) : DE X W (.Compare a [.NotIn] [b] pos) (tDNotIn tk (tVar i)) (wDIn true wk i) := ⟨pe_cmp (pc_dnotin hu hk.pe ha) hm, sim_dnotin hk.sim⟩
theorem t_din (i : Nat) (hu : X.A.units + 1 < cLine) (hk : DE X W a tk wk) (ha : PE X b (tVar i)) (hm : behindInMarks .In b = false := by first | exact nomark _ | with_unfolding_all rfl) : DT X W (.Compare a [.In] [b] pos) (tB (tDIn tk (tVar i))) (wTest (wDIn false wk i)) := ⟨pt_cmp (pc_din hu hk.pe ha) hm, sim_test (sim_din hk.sim)⟩
theorem t_dnotin (i : Nat) (hu : X.A.units + 1 < cLine) (hk : DE X W a tk wk) (ha : PE X b (tVar i)) (hm : behindInMarks .NotIn b = false := by first | exact nomark _ | with_unfolding_all rfl) : DT X W (.Compare a [.NotIn] [b] pos) (tB (tDNotIn tk (tVar i))) (wTest (wDIn true wk i)) := ⟨pt_cmp (pc_dnotin hu hk.pe ha) hm, sim_test (sim_dnotin hk.sim)⟩
theorem e_dget (i : Nat) (hu : X.A.units + 1 < cLine) (ha : PE X b (tVar i)) (hk : DE X W a tk wk) (hs : NoSl a := by exact fun _ _ => rfl) : DE X W (.Subscript b a pos) (tDGet (tVar i) tk) (wDGet i wk) := ⟨pe_dget hu ha hk.pe hs, sim_dget hk.sim⟩
theorem e_dget1 (i : Nat) {apos cpos : Pos} (hu : X.A.units + 1 < cLine) (ha : PE X b (tVar i)) (hk : DE X W a tk wk) (m : M1 X b "get" apos a cpos := by exact ⟨rfl, rfl, rfl, rfl⟩) : DE X W (.Call (.Attribute b "get" apos) [a] [] cpos) (tDGet1 (tVar i) tk) (wDGet1 i wk) := ⟨pe_dget1 hu ha hk.pe m, sim_dget1 hk.sim⟩
theorem s_dput (i : Nat) (hu : X.A.units + 1 < cLine) (hv : DE X W v tv wv) (ha : PE X b (tVar i)) (hk : DE X W a tk wk) (hs : swapsWith v (some (.Subscript b a pos')) pos.line X.env = pure false := by rfl) :
    DS X W (.Assign [.Subscript b a pos'] v pos) (sDPut (tVar i) tk tv) (wDPut i wk wv) := ⟨ps_dput hu ha hk.pe hv.pe hs, sim_dput hk.sim hv.sim⟩
theorem i_keys (i : Nat) (ha : PE X b (tVar i)) : DI X W tg b (iKeysL (tVar i)) (wDKeys i) := ⟨pi_keysL ha, simi_keys⟩
end
end Pd
end

section
set_option maxRecDepth 100000
set_option maxHeartbeats 4000000
/-! Ps4: tuples repeated. -/
namespace Pd
open PySem PySem.Spec L2
open PyProof.Rows hiding St
set_option autoImplicit false
abbrev tupO (its : Array Value) (n : Nat) (dd : Option Addr) (sl : Array (Option Value)) : Obj := { cls := .type "tuple", dict := dd, data := .seq its n, slots := sl }
theorem mulT1 {l : Addr} {its : Array Value} {n : Nat} {dd : Option Addr} {sl : Array (Option Value)} {u : Tok} : Meets (Builtin.«tuple.__mul__» ⟨[.ref l, .int 1 u], []⟩)
    (fun _ R s => s.heap.get? l = some (tupO its n dd sl) ∧ R (.ok (.ret (.ref l))) s) := .of_wp fun prog w A R s h => by
  obtain ⟨hp, g, d, tk, os⟩ := s
  obtain ⟨hl, h⟩ := h
  have ix := AutoSeq1.idx_int
  wp_walk using wpAny_loadPart' hl
  exact ⟨_, rfl, h⟩
theorem mulT0 {l : Addr} {its : Array Value} {n : Nat} {dd : Option Addr} {sl : Array (Option Value)} {u : Tok} (hne : its.isEmpty = false) : Meets (Builtin.«tuple.__mul__» ⟨[.ref l, .int 0 u], []⟩)
    (fun _ R s => s.heap.get? l = some (tupO its n dd sl) ∧ R (.ok (.ret (.ref s.heap.objs.size))) { s with heap := s.heap.push { cls := .type "tuple", data := .seq #[] }, toks := s.toks }) := .of_wp fun prog w A R s h => by
  obtain ⟨hp, g, d, tk, os⟩ := s
  obtain ⟨hl, h⟩ := h
  have ix := AutoSeq1.idx_int
  wp_walk using wpAny_loadPart' hl
  exact ⟨_, rfl, h⟩
def rT1 (K : PySem.W.Frag) : R2 := fun x y H Q => ∃ l xs, x = .ref l ∧ y = .int 1 ∧ SqT K H l xs ∧ Q (.ref l) H
def rT0 (K : PySem.W.Frag) : R2 := fun x y H Q => ∃ l xs, x = .ref l ∧ y = .int 0 ∧ SqT K H l xs ∧ xs ≠ [] ∧ ∀ p, H p = none → Q (.ref p) (upd H p (.tup []))
section
variable {X : Cx}
theorem op_T1 : OpR X (binaryOp .Mult) (rT1 X.K) := by
  intro pins s σ H x y v u Q I rx ry h
  obtain ⟨l, xs, rfl, rfl, hT, q⟩ := h
  cases rx
  obtain ⟨t, rfl⟩ := ry
  obtain ⟨its, r, ⟨⟨c, dd, dt, sl⟩, ho, hc, n, hd⟩, _⟩ := I.tuple hT
  simp only at hc hd
  subst hc; subst hd
  have ty : s.TypeIs (.ref l) "tuple" := ⟨_, ho, rfl⟩
  exact wpAny_binaryOp_repeat_ref (T := "tuple") (U := "int") (by decide) ty (fun s' => typeIs_int s' 1 t) noFill_tuple_mul
    F.fills_int_mul F.slot_int_rmul repeat_tuple F.slot_int_index.lookup (call_meets F.slot_int_rmul (typeIs_int s 1 t) F.entry_int_rmul (F.args_int_rmul_2 (.int 1 t) (.ref l)) (int_rmul_tuple 1 t l its.toArray n dd sl)
      ⟨ho, rfl, ⟨_, ho, rfl⟩, call_meets F.slot_tuple_mul ty F.entry_tuple_mul (F.args_tuple_mul_2 (.ref l) (.int 1 t)) (mulT1 (l := l) (its := its.toArray) (n := n) (dd := dd) (sl := sl) (u := t)) ⟨ho, .ref l, H, I, rfl, q⟩⟩)
theorem op_T0 : OpR X (binaryOp .Mult) (rT0 X.K) := by
  intro pins s σ H x y v u Q I rx ry h
  obtain ⟨l, xs, rfl, rfl, hT, hne, q⟩ := h
  cases rx
  obtain ⟨t, rfl⟩ := ry
  obtain ⟨its, r, ⟨⟨c, dd, dt, sl⟩, ho, hc, n, hd⟩, _⟩ := I.tuple hT
  simp only at hc hd
  subst hc; subst hd
  have he : its.toArray.isEmpty = false := by
    cases its with
    | nil =>
      refine absurd (List.eq_nil_of_length_eq_zero ?_) hne
      rw [r.length]
      rfl
    | cons a b => rfl
  have ty : s.TypeIs (.ref l) "tuple" := ⟨_, ho, rfl⟩
  refine wpAny_binaryOp_repeat_ref (T := "tuple") (U := "int") (by decide) ty (fun s' => typeIs_int s' 0 t) noFill_tuple_mul
    F.fills_int_mul F.slot_int_rmul repeat_tuple F.slot_int_index.lookup (call_meets F.slot_int_rmul (typeIs_int s 0 t) F.entry_int_rmul (F.args_int_rmul_2 (.int 0 t) (.ref l)) (int_rmul_tuple 0 t l its.toArray n dd sl)
      ⟨ho, rfl, ⟨_, ho, rfl⟩, call_meets F.slot_tuple_mul ty F.entry_tuple_mul (F.args_tuple_mul_2 (.ref l) (.int 0 t)) (mulT0 (l := l) (its := its.toArray) (n := n) (dd := dd) (sl := sl) (u := t) he) ⟨ho, ?_⟩⟩)
  have fr : H s.heap.objs.size = none := I.hok.fresh (Nat.le_refl _)
  refine ⟨.ref s.heap.objs.size, _, I.laid (t' := s.toks) (o := .tup []) (fun b ob z => Heap.get?_push_of_some _ z) (Nat.le_refl _) ?_, rfl, q _ fr⟩
  exact ⟨Nat.zero_le _, [], .nil, IsTup.new _ _⟩
end
def rMulT (K : PySem.W.Frag) : R2 := fun x y H Q => rRepT K x y H Q ∨ rT1 K x y H Q ∨ rT0 K x y H Q
def opMulT : F2 := fun d e Q => match d, e with
  | .tuple a, .int k => a ≠ [] ∧ 0 ≤ k ∧ k ≤ 1000 ∧ a.length ≤ 1000 ∧ Q (.d (.tuple (List.replicate k.toNat a).flatten))
  | _, _ => False
section
variable {X : Cx} {K : PySem.W.Frag} {W : XW} {a b : Expr} {ta tb : TE} {wa wb : WE} {pos : Pos}
theorem op_mulT : OpR X (binaryOp .Mult) (rMulT X.K) := op_repT.or (op_T1.or op_T0)
theorem b_mulT : BOk2 K (rMulT K) opMulT := by
  intro M F Γ σ H x y d e Q Q' rr p q w h
  match d, e, w with
  | .tuple xs, .int k, w =>
    obtain ⟨h0, k0, k1, hl, w⟩ := w
    obtain ⟨a, ws, rfl, e1, e2, e3⟩ := p.tuple rr.sM
    rw [q.int]
    have hw : ws ≠ [] := fun z => h0 (by rw [z] at e2; cases e2; rfl)
    by_cases c2 : 2 ≤ k
    · exact .inl ⟨a, k, ws, rfl, rfl, e1, hw, c2, k1, by rw [e2.length]; exact hl, fun p hp => fin_t (Q := Q) (Q' := Q') rr hp (e2.rep _) w h⟩
    by_cases c1 : k = 1
    · subst c1
      have w' : Q (.d (.tuple xs)) := by
        rw [show (List.replicate (1 : Int).toNat xs).flatten = xs by simp] at w
        exact w
      exact .inr (.inl ⟨a, ws, rfl, rfl, e1, fin_d (Q := Q) (Q' := Q') rr e3 w' h⟩)
    · have c0 : k = 0 := by omega
      subst c0
      exact .inr (.inr ⟨a, ws, rfl, rfl, e1, hw, fun p hp => fin_t (Q := Q) (Q' := Q') rr hp .nil w h⟩)
theorem e_mulT (ha : DE X W a ta wa) (hb : DE X W b tb wb) (hK : X.K = K := by rfl) : DE X W (.BinOp a .Mult b pos) (tOp (rMulT K) ta tb) (wOp opMulT wa wb) := by
  subst hK
  exact ⟨pe_op op_mulT ha.pe hb.pe, sim_op b_mulT ha.sim hb.sim⟩
end
end Pd
end

section
set_option maxRecDepth 100000
set_option maxHeartbeats 2000000
set_option exponentiation.threshold 2000
/-! C33: rows put together over divisors that are apart, in plain Lean. -/
namespace T
open PySem PySem.Spec L2 Pd
open PyProof.Rows hiding St
set_option autoImplicit false
abbrev eN (k : Nat) : D := .int (k : Int)
def rg (n : Nat) : List Nat := (List.range n).map (· + 1)
/-- divisors with nothing in common with their backs -/
def og (n : Nat) : List Nat := (rg n).filter fun d => n % d == 0 && Nat.gcd d (n / d) == 1
def conv (f g : Nat → Int) (n : Nat) : Int := ((og n).map fun d => f d * g (n / d)).sum
def sg (n : Nat) : Int := if (B.facs n).length % 2 = 0 then 1 else -1
/-- the number at a place of a row, from 1 on -/
def A (a : List Int) (k : Nat) : Int := a.getD (k - 1) 0
/-! sums -/
theorem perm_sum {l m : List Int} (h : l.Perm m) : l.sum = m.sum := by
  induction h with
  | nil => rfl
  | cons x _ ih => rw [List.sum_cons, List.sum_cons, ih]
  | swap x y l => simp only [List.sum_cons]; omega
  | trans _ _ i1 i2 => rw [i1, i2]
theorem sum_flat {α β : Type} (g : β → Int) (f : α → List β) : ∀ l : List α, ((l.flatMap f).map g).sum = (l.map fun x => ((f x).map g).sum).sum
  | [] => rfl
  | x :: l => by rw [List.flatMap_cons, List.map_append, List.sum_append, List.map_cons, List.sum_cons, sum_flat g f l]
theorem sum_mul {α : Type} (c : Int) (f : α → Int) : ∀ l : List α, (l.map fun x => c * f x).sum = c * (l.map f).sum
  | [] => by simp
  | x :: l => by rw [List.map_cons, List.sum_cons, List.map_cons, List.sum_cons, sum_mul c f l, Int.mul_add]
theorem sum_mulR {α : Type} (c : Int) (f : α → Int) : ∀ l : List α, (l.map fun x => f x * c).sum = (l.map f).sum * c
  | [] => by simp
  | x :: l => by rw [List.map_cons, List.sum_cons, List.map_cons, List.sum_cons, sum_mulR c f l, Int.add_mul]
theorem sum_congr {α : Type} {f g : α → Int} {l : List α} (h : ∀ x ∈ l, f x = g x) : (l.map f).sum = (l.map g).sum := by
  rw [List.map_congr_left h]
/-! facts of the numbers to 40 -/
def P (n : Nat) : List (Nat × Nat) := (og n).map fun d => (d, n / d)
def T3 (n : Nat) : List (Nat × Nat × Nat) := (P n).flatMap fun p => (P p.1).map fun q => (q.1, q.2, p.2)
def T4 (n : Nat) : List (Nat × Nat × Nat) := (P n).flatMap fun p => (P p.2).map fun q => (p.1, q.1, q.2)
def Q4 (n : Nat) : List (Int × Nat) := (P n).flatMap fun p => (P p.2).map fun q => (sg p.1, q.1)
def coef (l : List (Int × Nat)) (u : Nat) : Int := ((l.filter fun q => q.2 == u).map fun q => q.1).sum
def f1 (n : Nat) : Prop := (P n).isPerm ((P n).map fun p => (p.2, p.1)) = true ∧ (T3 n).isPerm (T4 n) = true
  ∧ (∀ u ∈ rg n, coef (Q4 n) u = if u = n then 1 else 0) ∧ (∀ q ∈ Q4 n, 1 ≤ q.2 ∧ q.2 ≤ n)
  ∧ og n = (og n).dropLast ++ [n] ∧ ((og n).dropLast.map sg).sum = (if n = 1 then 1 else 0) - sg n ∧ (∀ d ∈ (og n).dropLast, d < n)
  ∧ (B.divs n).filter (fun x => Int.gcd x ((n : Int) / x) == 1) = (og n).map Int.ofNat
instance (n : Nat) : Decidable (f1 n) := by unfold f1; infer_instance
theorem f1_0 : ∀ i < 20, f1 (1 + i) := by decide +kernel
theorem f1_1 : ∀ i < 9, f1 (21 + i) := by decide +kernel
theorem f1_2 : ∀ i < 6, f1 (30 + i) := by decide +kernel
theorem f1_3 : ∀ i < 5, f1 (36 + i) := by decide +kernel
theorem f1_all (n : Nat) (h : n < 41) (h1 : 1 ≤ n) : f1 n := by
  by_cases h2 : n < 21
  · have := f1_0 (n - 1) (by omega)
    rwa [show 1 + (n - 1) = n by omega] at this
  by_cases h3 : n < 30
  · have := f1_1 (n - 21) (by omega)
    rwa [show 21 + (n - 21) = n by omega] at this
  by_cases h4 : n < 36
  · have := f1_2 (n - 30) (by omega)
    rwa [show 30 + (n - 30) = n by omega] at this
  · have := f1_3 (n - 36) (by omega)
    rwa [show 36 + (n - 36) = n by omega] at this
/-- powers of primes of a number, by going through -/
def stripF : Nat → Nat → Nat → Nat → Option (Nat × Nat)
  | 0, _, _, _ => none
  | f + 1, l, a, p => if l % p = 0 then stripF f (l / p) (a * p) p else some (l, a)
def ppF : Nat → Nat → Nat → Option (List Nat)
  | 0, _, _ => none
  | f + 1, l, p => if 1 < l then match stripF 20 l 1 p with
      | none => none
      | some (l', q) => (ppF f l' (p + 1)).map fun r => if 1 < q then q :: r else r
    else some []
def pps (n : Nat) : List Nat := (ppF 60 n 2).getD []
def mul2 (m n : Nat) : List (Nat × Nat) := (P m).flatMap fun p => (P n).map fun q => (p.1 * q.1, p.2 * q.2)
def f2 (m n : Nat) : Prop := m * n ≤ 40 → Nat.gcd m n = 1 → (P (m * n)).isPerm (mul2 m n) = true ∧ (∀ p ∈ P m, ∀ q ∈ P n, Nat.gcd p.1 q.1 = 1 ∧ Nat.gcd p.2 q.2 = 1 ∧ p.1 * q.1 ≤ m * n ∧ p.2 * q.2 ≤ m * n)
  ∧ sg (m * n) = sg m * sg n ∧ (pps (m * n)).isPerm (pps m ++ pps n) = true
instance (m n : Nat) : Decidable (f2 m n) := by unfold f2; infer_instance
theorem f2_0 : ∀ i < 6, ∀ j < 40 / (1 + i), f2 (1 + i) (1 + j) := by decide +kernel
theorem f2_1 : ∀ i < 34, ∀ j < 40 / (7 + i), f2 (7 + i) (1 + j) := by decide +kernel
theorem f2_all {m n : Nat} (h1 : 1 ≤ m) (h2 : 1 ≤ n) (h : m * n ≤ 40) : f2 m n := by
  have hm : m ≤ 40 := Nat.le_trans (Nat.le_mul_of_pos_right m h2) h
  have hn : n ≤ 40 / m := (Nat.le_div_iff_mul_le (by omega)).mpr (by rw [Nat.mul_comm]; exact h)
  by_cases c : m < 7
  · have := f2_0 (m - 1) (by omega) (n - 1) (by rw [show 1 + (m - 1) = m by omega]; omega)
    rwa [show 1 + (m - 1) = m by omega, show 1 + (n - 1) = n by omega] at this
  · have := f2_1 (m - 7) (by omega) (n - 1) (by rw [show 7 + (m - 7) = m by omega]; omega)
    rwa [show 7 + (m - 7) = m by omega, show 1 + (n - 1) = n by omega] at this
theorem pp_ok : ∀ n < 41, 1 ≤ n → ppF 60 n 2 = some (pps n) := by decide +kernel
theorem rg_mem {n k : Nat} : k ∈ rg n ↔ 1 ≤ k ∧ k ≤ n := by
  unfold rg
  rw [List.mem_map]
  constructor
  · rintro ⟨i, h, rfl⟩
    have := List.mem_range.mp h
    omega
  · rintro ⟨h1, h2⟩
    exact ⟨k - 1, List.mem_range.mpr (by omega), by omega⟩
theorem rg_len (n : Nat) : (rg n).length = n := by unfold rg; rw [List.length_map, List.length_range]
theorem og_mem {n d : Nat} (h : d ∈ og n) : 1 ≤ d ∧ d ≤ n ∧ n % d = 0 ∧ Nat.gcd d (n / d) = 1 ∧ d * (n / d) = n ∧ n / d ≤ n ∧ 1 ≤ n / d := by
  obtain ⟨h1, h2⟩ := List.mem_filter.mp h
  obtain ⟨a, b⟩ := rg_mem.mp h1
  simp only [Bool.and_eq_true, beq_iff_eq] at h2
  have e : d * (n / d) = n := Nat.mul_div_cancel' (Nat.dvd_of_mod_eq_zero h2.1)
  refine ⟨a, b, h2.1, h2.2, e, Nat.div_le_self _ _, ?_⟩
  rcases Nat.eq_zero_or_pos (n / d) with z | z
  · rw [z, Nat.mul_zero] at e; omega
  · exact z
theorem og_len (n : Nat) : (og n).length ≤ n := Nat.le_trans (List.length_filter_le _ _) (by rw [rg_len]; exact Nat.le_refl _)
/-! the laws -/
theorem conv_P (f g : Nat → Int) (n : Nat) : conv f g n = ((P n).map fun p => f p.1 * g p.2).sum := by
  unfold conv P
  rw [List.map_map]
  rfl
theorem conv_congr {f f' g g' : Nat → Int} {m n : Nat} (hn : n ≤ m) (hf : ∀ k, 1 ≤ k → k ≤ m → f k = f' k) (hg : ∀ k, 1 ≤ k → k ≤ m → g k = g' k) : conv f g n = conv f' g' n := by
  unfold conv
  refine sum_congr fun d hd => ?_
  obtain ⟨a, b, _, _, _, e, c⟩ := og_mem hd
  rw [hf d a (by omega), hg _ c (by omega)]
theorem conv_comm {n : Nat} (h1 : 1 ≤ n) (h : n < 41) (f g : Nat → Int) : conv f g n = conv g f n := by
  obtain ⟨k1, _⟩ := f1_all n h h1
  rw [conv_P, conv_P, perm_sum ((List.isPerm_iff.mp k1).map _), List.map_map]
  exact sum_congr fun p _ => Int.mul_comm _ _
theorem P_mem {n : Nat} {p : Nat × Nat} (h : p ∈ P n) : 1 ≤ p.1 ∧ p.1 ≤ n ∧ 1 ≤ p.2 ∧ p.2 ≤ n ∧ p.1 * p.2 = n ∧ Nat.gcd p.1 p.2 = 1 := by
  obtain ⟨d, hd, rfl⟩ := List.mem_map.mp h
  obtain ⟨a, b, _, g, e, c, f⟩ := og_mem hd
  exact ⟨a, b, f, c, e, g⟩
theorem conv_assoc {n : Nat} (h1 : 1 ≤ n) (h : n < 41) (f g k : Nat → Int) : conv (conv f g) k n = conv f (conv g k) n := by
  obtain ⟨_, k2, _⟩ := f1_all n h h1
  have e1 : conv (conv f g) k n = ((T3 n).map fun t => f t.1 * g t.2.1 * k t.2.2).sum := by
    rw [conv_P]
    unfold T3
    rw [sum_flat]
    refine sum_congr fun p _ => ?_
    rw [conv_P, List.map_map, ← sum_mulR]
    rfl
  have e2 : conv f (conv g k) n = ((T4 n).map fun t => f t.1 * g t.2.1 * k t.2.2).sum := by
    rw [conv_P]
    unfold T4
    rw [sum_flat]
    refine sum_congr fun p _ => ?_
    rw [conv_P, List.map_map, ← sum_mul]
    refine sum_congr fun q _ => ?_
    exact (Int.mul_assoc _ _ _).symm
  rw [e1, e2]
  exact perm_sum ((List.isPerm_iff.mp k2).map _)
theorem coef_nil (u : Nat) : coef [] u = 0 := rfl
theorem coef_cons (q : Int × Nat) (l : List (Int × Nat)) (u : Nat) : coef (q :: l) u = (if q.2 = u then q.1 else 0) + coef l u := by
  unfold coef
  rw [List.filter_cons]
  by_cases c : q.2 = u
  · rw [if_pos c, if_pos (by simpa using c), List.map_cons, List.sum_cons]
  · rw [if_neg c, if_neg (by simpa using c), Int.zero_add]
theorem sum_zero {α : Type} : ∀ l : List α, (l.map fun _ => (0 : Int)).sum = 0
  | [] => rfl
  | _ :: l => by rw [List.map_cons, List.sum_cons, sum_zero l]; rfl
theorem sum_add {α : Type} (f g : α → Int) : ∀ l : List α, (l.map fun x => f x + g x).sum = (l.map f).sum + (l.map g).sum
  | [] => rfl
  | x :: l => by
    rw [List.map_cons, List.sum_cons, List.map_cons, List.sum_cons, List.map_cons, List.sum_cons, sum_add f g l]
    omega
theorem sum_one {c : Int} {u : Nat} (f : Nat → Int) : ∀ l : List Nat, l.Nodup → u ∈ l → (l.map fun k => (if u = k then c else 0) * f k).sum = c * f u
  | [], _, h => absurd h (by simp)
  | x :: l, nd, h => by
    obtain ⟨n1, n2⟩ := List.nodup_cons.mp nd
    rw [List.map_cons, List.sum_cons]
    by_cases e : u = x
    · subst e
      rw [if_pos rfl]
      have : (l.map fun k => (if u = k then c else 0) * f k).sum = 0 := (sum_congr fun k hk => by
        rw [if_neg (fun z => n1 (by rw [z]; exact hk)), Int.zero_mul]).trans (sum_zero l)
      rw [this, Int.add_zero]
    · rw [if_neg e, Int.zero_mul, Int.zero_add]
      exact sum_one f l n2 ((List.mem_cons.mp h).resolve_left e)
theorem rg_nd (n : Nat) : (rg n).Nodup := by
  unfold rg
  exact List.pairwise_map.mpr (List.Pairwise.imp (fun hne e => hne (by omega)) List.nodup_range)
theorem sum_coef (f : Nat → Int) (n : Nat) : ∀ l : List (Int × Nat), (∀ q ∈ l, 1 ≤ q.2 ∧ q.2 ≤ n) → (l.map fun q => q.1 * f q.2).sum = ((rg n).map fun u => coef l u * f u).sum
  | [], _ => by
    simp only [coef_nil, Int.zero_mul]
    exact (sum_zero _).symm
  | q :: l, h => by
    rw [List.map_cons, List.sum_cons, sum_coef f n l fun x hx => h x (List.mem_cons_of_mem _ hx)]
    have e : ((rg n).map fun u => coef (q :: l) u * f u).sum = ((rg n).map fun u => (if q.2 = u then q.1 else 0) * f u + coef l u * f u).sum := sum_congr fun u _ => by rw [coef_cons, Int.add_mul]
    rw [e, sum_add, sum_one f (rg n) (rg_nd n) (rg_mem.mpr (h q List.mem_cons_self))]
/-- signed sums lead back -/
theorem conv_back {n : Nat} (h1 : 1 ≤ n) (h : n < 41) (f : Nat → Int) : conv sg (fun k => ((og k).map f).sum) n = f n := by
  obtain ⟨_, _, k3, k4, _⟩ := f1_all n h h1
  have e1 : conv sg (fun k => ((og k).map f).sum) n = ((Q4 n).map fun q => q.1 * f q.2).sum := by
    rw [conv_P]
    unfold Q4
    rw [sum_flat]
    refine sum_congr fun p _ => ?_
    rw [List.map_map, ← sum_mul]
    unfold P
    rw [List.map_map]
    rfl
  rw [e1, sum_coef f n _ k4]
  have e2 : ((rg n).map fun u => coef (Q4 n) u * f u).sum = ((rg n).map fun u => (if n = u then 1 else 0) * f u).sum := sum_congr fun u hu => by
    rw [k3 u hu]
    by_cases c : u = n
    · rw [if_pos c, if_pos c.symm]
    · rw [if_neg c, if_neg fun z => c z.symm]
  rw [e2, sum_one f (rg n) (rg_nd n) (rg_mem.mpr ⟨h1, Nat.le_refl _⟩), Int.one_mul]
def one1 (k : Nat) : Int := if k = 1 then 1 else 0
theorem conv_last {n : Nat} (h1 : 1 ≤ n) (h : n < 41) (f g : Nat → Int) : conv f g n = ((og n).dropLast.map fun d => f d * g (n / d)).sum + f n * g 1 := by
  obtain ⟨_, _, _, _, k5, _⟩ := f1_all n h h1
  unfold conv
  rw [k5, List.map_append, List.sum_append, List.dropLast_concat, List.map_cons, List.map_nil, List.sum_cons, List.sum_nil, Int.add_zero, Nat.div_self (by omega)]
theorem conv_first {n : Nat} (h1 : 1 ≤ n) (h : n < 41) (f : Nat → Int) : conv f one1 n = f n := by
  obtain ⟨_, _, _, _, k5, _, k7, _⟩ := f1_all n h h1
  rw [conv_last h1 h]
  have : ((og n).dropLast.map fun d => f d * one1 (n / d)).sum = 0 := by
    refine (sum_congr fun d hd => ?_).trans (sum_zero (og n).dropLast)
    have hlt := k7 d hd
    obtain ⟨_, _, _, _, e, _, _⟩ := og_mem (show d ∈ og n from List.dropLast_subset _ hd)
    unfold one1
    rw [if_neg (fun z => by rw [z] at e; omega), Int.mul_zero]
  rw [this, Int.zero_add]
  exact Int.mul_one _
/-- what undoes -/
def Undo (v u : Nat → Int) (n : Nat) : Prop := u n = (one1 n - ((og n).dropLast.map fun d => v (n / d) * u d).sum) * v 1
theorem undo_conv {n : Nat} (h1 : 1 ≤ n) (h : n < 41) {v u : Nat → Int} (hv : v 1 = 1 ∨ v 1 = -1) (hu : Undo v u n) : conv v u n = one1 n := by
  rw [conv_comm h1 h, conv_last h1 h]
  have e : ((og n).dropLast.map fun d => u d * v (n / d)).sum = ((og n).dropLast.map fun d => v (n / d) * u d).sum := sum_congr fun d _ => Int.mul_comm _ _
  rw [e, hu]
  generalize ((og n).dropLast.map fun d => v (n / d) * u d).sum = s
  rcases hv with z | z <;> rw [z]
  · omega
  · omega
def IsP (m : Nat) (f : Nat → Int) : Prop := f 1 = 1 ∧ ∀ x y, 1 ≤ x → 1 ≤ y → x * y ≤ m → Nat.gcd x y = 1 → f (x * y) = f x * f y
theorem IsP.conv {m : Nat} (hm : m ≤ 40) {f g : Nat → Int} (hf : IsP m f) (hg : IsP m g) (m1 : 1 ≤ m) : IsP m (conv f g) := by
  refine ⟨?_, fun x y x1 y1 h c => ?_⟩
  · rw [conv_last (by decide) (by decide), show (og 1).dropLast = [] by decide +kernel, hf.1, hg.1]
    rfl
  · obtain ⟨k1, k2, _, _⟩ := f2_all x1 y1 (by omega) (by omega) c
    rw [conv_P, perm_sum ((List.isPerm_iff.mp k1).map _)]
    unfold mul2
    rw [sum_flat, conv_P, conv_P, ← sum_mulR]
    refine sum_congr fun p hp => ?_
    rw [List.map_map, ← sum_mul]
    refine sum_congr fun q hq => ?_
    obtain ⟨c1, c2, c3, c4⟩ := k2 p hp q hq
    obtain ⟨p1, _, p2, _⟩ := P_mem hp
    obtain ⟨q1, _, q2, _⟩ := P_mem hq
    show f (p.1 * q.1) * g (p.2 * q.2) = _
    rw [hf.2 _ _ p1 q1 (by omega) c1, hg.2 _ _ p2 q2 (by omega) c2]
    simp only [Int.mul_assoc, Int.mul_left_comm]
theorem sg_one : sg 1 = 1 := by decide +kernel
theorem undo_prod {m : Nat} (hm : m ≤ 40) {v u : Nat → Int} (hv : IsP m v) (hu : ∀ n, 1 ≤ n → n ≤ m → Undo v u n) : ∀ n, 1 ≤ n → n ≤ m → u n = sg n * v n := by
  intro n
  induction n using Nat.strongRecOn with
  | ind n ih =>
    intro h1 h
    obtain ⟨_, _, _, _, k5, k6, k7, _⟩ := f1_all n (by omega) h1
    have e := hu n h1 h
    unfold Undo at e
    have e2 : ((og n).dropLast.map fun d => v (n / d) * u d).sum = ((og n).dropLast.map fun d => sg d * v n).sum := sum_congr fun d hd => by
      obtain ⟨a, b, _, g, q, r, t⟩ := og_mem (show d ∈ og n from List.dropLast_subset _ hd)
      rw [ih d (k7 d hd) a (by omega)]
      have := hv.2 d (n / d) a t (by omega) g
      rw [q] at this
      rw [this]
      simp only [Int.mul_assoc, Int.mul_comm, Int.mul_left_comm]
    have e3 : ((og n).dropLast.map fun d => sg d * v n).sum = ((if n = 1 then 1 else 0) - sg n) * v n := by
      rw [sum_mulR (v n) sg]
      exact congrArg (· * v n) k6
    rw [e, e2, e3, hv.1, Int.mul_one]
    unfold one1
    by_cases c : n = 1
    · subst c
      rw [if_pos rfl, hv.1, sg_one]
      rfl
    · rw [if_neg c, Int.zero_sub, Int.zero_sub, Int.neg_mul, Int.neg_neg]
theorem IsP.sign {m : Nat} (hm : m ≤ 40) {v u : Nat → Int} (hv : IsP m v) (hu : ∀ n, 1 ≤ n → n ≤ m → u n = sg n * v n) (m1 : 1 ≤ m) : IsP m u := by
  refine ⟨by rw [hu 1 (by decide) m1, hv.1, sg_one]; rfl, fun x y x1 y1 h c => ?_⟩
  obtain ⟨_, _, k3, _⟩ := f2_all x1 y1 (by omega) (by omega) c
  have hx : x ≤ m := Nat.le_trans (Nat.le_mul_of_pos_right x y1) h
  have hy : y ≤ m := Nat.le_trans (Nat.le_mul_of_pos_left y x1) h
  rw [hu _ (Nat.mul_pos x1 y1) h, hu x x1 hx, hu y y1 hy, k3, hv.2 x y x1 y1 h c]
  simp only [Int.mul_assoc, Int.mul_left_comm]
/-- the row of products of told values at powers of primes -/
def wor (τ : Nat → Int) (n : Nat) : Int := (pps n).foldl (fun w q => w * τ q) 1
theorem fold_mul (τ : Nat → Int) : ∀ (l : List Nat) (c : Int), l.foldl (fun w q => w * τ q) c = c * l.foldl (fun w q => w * τ q) 1
  | [], c => (Int.mul_one c).symm
  | q :: l, c => by
    rw [List.foldl_cons, List.foldl_cons, fold_mul τ l (c * τ q), fold_mul τ l (1 * τ q), Int.one_mul, Int.mul_assoc]
theorem fold_perm (τ : Nat → Int) {l m : List Nat} (h : l.Perm m) : ∀ c : Int, l.foldl (fun w q => w * τ q) c = m.foldl (fun w q => w * τ q) c := by
  induction h with
  | nil => intro c; rfl
  | cons x _ ih => intro c; rw [List.foldl_cons, List.foldl_cons, ih]
  | swap x y l => intro c; simp only [List.foldl_cons]; rw [Int.mul_assoc, Int.mul_assoc, Int.mul_comm (τ x)]
  | trans _ _ i1 i2 => intro c; rw [i1, i2]
theorem wor_prod (τ : Nat → Int) (m : Nat) (hm : m ≤ 40) : IsP m (wor τ) := by
  refine ⟨by unfold wor; rw [show pps 1 = [] by decide +kernel]; rfl, fun x y x1 y1 h c => ?_⟩
  obtain ⟨_, _, _, k4⟩ := f2_all x1 y1 (by omega) (by omega) c
  unfold wor
  rw [fold_perm τ (List.isPerm_iff.mp k4), List.foldl_append, fold_mul]
/-! rows as lists -/
theorem A_map (f : Nat → Int) {m k : Nat} (h1 : 1 ≤ k) (h : k ≤ m) : A ((rg m).map f) k = f k := by
  unfold A rg
  rw [List.map_map, List.getD_eq_getElem?_getD, List.getElem?_map, List.getElem?_range (by omega)]
  show f (k - 1 + 1) = f k
  rw [show k - 1 + 1 = k by omega]
theorem A_ext {a : List Int} : (rg a.length).map (A a) = a := by
  refine List.ext_getElem (by rw [List.length_map, rg_len]) fun i h1 h2 => ?_
  rw [List.getElem_map]
  unfold rg
  rw [List.getElem_map, List.getElem_range]
  unfold A
  rw [Nat.add_sub_cancel, List.getD_eq_getElem?_getD, List.getElem?_eq_getElem h2]
  rfl
/-- the row that undoes, step by step -/
def wu (v : Nat → Int) : Nat → List Int
  | 0 => []
  | k + 1 => wu v k ++ [(one1 (k + 1) - ((og (k + 1)).dropLast.map fun d => v ((k + 1) / d) * A (wu v k) d).sum) * v 1]
theorem wu_len (v : Nat → Int) : ∀ k, (wu v k).length = k
  | 0 => rfl
  | k + 1 => by rw [wu, List.length_append, wu_len v k]; rfl
theorem wu_at (v : Nat → Int) {k : Nat} : ∀ {m : Nat}, k < m → A (wu v m) (k + 1) = A (wu v (k + 1)) (k + 1)
  | 0, h => absurd h (by omega)
  | m + 1, h => by
    by_cases c : k = m
    · rw [c]
    · rw [← wu_at v (m := m) (by omega)]
      show A (wu v m ++ [_]) (k + 1) = _
      unfold A
      rw [Nat.add_sub_cancel, List.getD_eq_getElem?_getD, List.getD_eq_getElem?_getD, List.getElem?_append_left (by rw [wu_len]; omega)]
theorem wu_undo (v : Nat → Int) {m n : Nat} (h1 : 1 ≤ n) (h : n ≤ m) (hn : n < 41) : Undo v (A (wu v m)) n := by
  obtain ⟨_, _, _, _, k5, k6, k7, _⟩ := f1_all n hn h1
  obtain ⟨k, rfl⟩ : ∃ k, n = k + 1 := ⟨n - 1, by omega⟩
  unfold Undo
  rw [wu_at v (by omega)]
  have e : A (wu v (k + 1)) (k + 1) = (one1 (k + 1) - ((og (k + 1)).dropLast.map fun d => v ((k + 1) / d) * A (wu v k) d).sum) * v 1 := by
    rw [wu]
    unfold A
    rw [Nat.add_sub_cancel, List.getD_eq_getElem?_getD, List.getElem?_append_right (by rw [wu_len]; exact Nat.le_refl _), wu_len, Nat.sub_self]
    rfl
  rw [e]
  have e2 : ((og (k + 1)).dropLast.map fun d => v ((k + 1) / d) * A (wu v k) d).sum = ((og (k + 1)).dropLast.map fun d => v ((k + 1) / d) * A (wu v m) d).sum := sum_congr fun d hd => by
    have hlt := k7 d hd
    obtain ⟨a, _⟩ := og_mem (show d ∈ og (k + 1) from List.dropLast_subset _ hd)
    obtain ⟨j, rfl⟩ : ∃ j, d = j + 1 := ⟨d - 1, by omega⟩
    rw [wu_at v (m := m) (by omega), wu_at v (m := k) (by omega)]
  rw [e2]
end T
end

section
set_option maxRecDepth 100000
set_option maxHeartbeats 1000000
set_option exponentiation.threshold 2000
/-! C33b: the program's own. -/
namespace T
open PySem PySem.Spec L2 Pd
open PyProof.Rows hiding St
set_option autoImplicit false
local macro_rules | `(tactic| walk_at "pd") => `(tactic| try simp only [wSeq, wSet, wRet, wRetO, wCallO, wRetN, wDrop, wIfS, wNext, wNever, wBreak, wCont, wAsg, wgName, wgNil, wgCons, wgTup, wPar, wFCons, wNil, wCons, preps, prep, setAll, wVar, wC, wOp, wUn, wTest, wTruth, truD, wAnd, wOr, wNot, wAndV, wOrV, wNotV, wIf, wChain,
  wTup, wLst, wCB, wNoPart, wPart, wSl, wIsi, wIsi2, wCall, wCallM, wOwn, wAppend, wExtend, wPop, wCount, wSetIx, wAug, wFor, wSq, wRange1, wRange2, wZip, wEnum, wLc, noOwn, wYes, asInt, seqD, rs, rsv, stl, fz, fzs, rss, isLst,
  opAdd, opSub, opMul, opFdiv, opMod, opPow, opLt, opLe, opGt, opGe, opEq, opNe, opIn, opNotIn, opIs, opIsNot, isNone, opNeg, opIx, opSl, bLen, bAbs, bInt, bSum, bMax, bMin, bAll, bAny, bSorted, bTuple, bList, bMax2, bMin2, bRepr, ipAdd, ipSub, isD_int_none, isD_int_bool, isD_int_int, isD_int_str, isD_int_list, isD_int_tuple, isD_bool_none, isD_bool_bool, isD_bool_int, isD_bool_str, isD_bool_list, isD_bool_tuple, isD_str_none, isD_str_bool, isD_str_int, isD_str_str, isD_str_list, isD_str_tuple, isD_list_none, isD_list_bool, isD_list_int, isD_list_str, isD_list_list, isD_list_tuple, isD_tuple_none, isD_tuple_bool, isD_tuple_int, isD_tuple_str, isD_tuple_list, isD_tuple_tuple, isD_dict_none, isD_dict_bool, isD_dict_int, isD_dict_str, isD_dict_list, isD_dict_tuple, flatD, at5_0, at5_1, at5_2, at5_3, at5_4, ix5_1, ix5_2, ix5_3, ix5_4,
  wipeD, back, startD, endsP, endsO, startM, endsM, own0, List.map_cons, List.map_nil, List.nil_append, List.cons_append, List.length_cons, List.length_nil, List.replicate_succ, List.replicate_zero, List.getElem?_cons_zero, List.getElem?_cons_succ, List.getElem?_nil, List.set_cons_zero, List.set_cons_succ, Nat.sub_zero, Nat.reduceSub, Int.reduceToNat, Nat.reduceAdd, Nat.zero_add,
  shaped_int, eqv_int, shaped_bool, eqv_bool, eqv_str, BEq.rfl, true_and, and_true, if_true, if_false, Bool.false_eq_true, Bool.true_eq_false, Bool.and_true, Bool.true_and, Bool.and_false, Bool.false_and, Bool.not_true, Bool.not_false, reduceIte, decide_eq_true_eq, decide_eq_false_iff_not, Option.getD_some, Option.getD_none, beq_iff_eq, Bool.or_true, Bool.true_or, Bool.or_false, Bool.false_or])

abbrev iT (a : List Int) : D := .tuple (a.map PyData.int)
theorem eN_map (l : List Nat) : l.map eN = (l.map Int.ofNat).map PyData.int := by rw [List.map_map]; rfl
theorem rangeD_N (n : Nat) : rangeD 1 n = (rg n).map eN := by
  unfold rangeD rg
  rw [List.map_map]
  refine List.map_congr_left fun i _ => ?_
  show PyData.int ((1 : Int) + (i : Int)) = PyData.int ((i + 1 : Nat) : Int)
  rw [show (1 : Int) + (i : Int) = ((i + 1 : Nat) : Int) by omega]
theorem imod (a b : Nat) : (a : Int) % (b : Int) = ((a % b : Nat) : Int) := rfl
theorem idiv (a b : Nat) : (a : Int) / (b : Int) = ((a / b : Nat) : Int) := rfl
theorem atA {a : List Int} {d : Nat} (h0 : 1 ≤ d) (h1 : d ≤ a.length) : atI (a.map PyData.int) ((d : Int) - 1) = some (.int (A a d)) := by
  have hl : d - 1 < a.length := by omega
  unfold atI ixN A
  rw [List.length_map, if_pos (by omega), if_pos (by omega)]
  show (List.map PyData.int a)[((d : Int) - 1).toNat]? = _
  rw [show ((d : Int) - 1).toNat = d - 1 by omega, List.getElem?_map, List.getElem?_eq_getElem hl, List.getD_eq_getElem?_getD, List.getElem?_eq_getElem hl]
  rfl
theorem at0 {a : List Int} (h1 : 1 ≤ a.length) : atI (a.map PyData.int) 0 = some (.int (A a 1)) := atA (d := 1) (by decide) h1
def Bd (a : List Int) : Prop := ∀ x ∈ a, -18446744073709551616 < x ∧ x < 18446744073709551616
theorem Bd.at {a : List Int} (h : Bd a) {d : Nat} : -18446744073709551616 < A a d ∧ A a d < 18446744073709551616 := by
  unfold A
  rw [List.getD_eq_getElem?_getD]
  cases e : a[d - 1]? with
  | none => exact ⟨by decide, by decide⟩
  | some x => exact h x (List.mem_of_getElem? e)
theorem mulR {i j : Int} (h : -18446744073709551616 < j ∧ j < 18446744073709551616) : MulOk i j := .inr (.inr h)
def sp_is_values : FSpec := fun ds Q => match ds with
  | [.tuple xs] => ∃ a : List Int, (xs = a.map PyData.int ∧ 1 ≤ a.length ∧ a.length ≤ 40) ∧ Q (.bool true)
  | _ => False
theorem len_is_values : ∀ ds Q, sp_is_values ds Q → ds.length = 1 := fun ds Q h => by
  unfold sp_is_values at h
  split at h <;> first | rfl | exact h.elim
def w_is_values : WS := wRet (wAndV (wIsi .tuple (wVar 0)) (wAndV (wChain opLe opLe (wC (.int 1)) (wCB bLen (wCons (wVar 0) (wNil))) (wC (.int 200))) (wCB bAll (wCons (wLc (wSq
    (wVar 0)) (wgName 1) (wYes) (wCall sp_is_integer (wCons (wVar 1) (wNil))) [1]) (wNil)))))
theorem ok_is_values : ∀ ds Qd, sp_is_values ds Qd → w_is_values (endsP Qd) (startD 2 ds) := fun ds Qd h => by
  unfold sp_is_values at h
  split at h
  · obtain ⟨a, ⟨rfl, h0, h1⟩, h⟩ := h
    unfold w_is_values
    walk_at "pd"
    simp only [List.length_map]
    rw [if_pos (by omega), if_pos (by omega)]
    (try walk_at "pd")
    refine lcGo_all (xs := a) (acc := []) PyData.int (fun _ => .bool true) (fun x hx k1 hk => ?_) (by rw [sizeLine_eq]; simp only [List.length_nil]; omega) ?_
    · walk_at "pd"
      simp only [sp_is_integer]
      exact hk
    · walk_at "pd"
      have e : a.map (fun _ => PyData.bool true) = (a.map fun _ => true).map PyData.bool := by rw [List.map_map]; rfl
      rw [e, withBools_map, List.all_map]
      have e2 : (a.all (id ∘ fun _ => true)) = true := List.all_eq_true.mpr fun _ _ => rfl
      rw [e2]
      exact h
  · exact h.elim
def sp_check_values : FSpec := fun ds Q => match ds with
  | [.tuple xs] => ∃ a : List Int, (xs = a.map PyData.int ∧ 1 ≤ a.length ∧ a.length ≤ 40) ∧ Q .none
  | _ => False
theorem len_check_values : ∀ ds Q, sp_check_values ds Q → ds.length = 1 := fun ds Q h => by
  unfold sp_check_values at h
  split at h <;> first | rfl | exact h.elim
def w_check_values : WS := wIfS (wNot (wTruth (wCall sp_is_values (wCons (wVar 0) (wNil))))) (wNever) (wNext)
theorem ok_check_values : ∀ ds Qd, sp_check_values ds Qd → w_check_values (endsP Qd) (startD 1 ds) := fun ds Qd h => by
  unfold sp_check_values at h
  split at h
  · obtain ⟨a, ha, h⟩ := h
    unfold w_check_values
    walk_at "pd"
    simp only [sp_is_values]
    refine ⟨a, ha, ?_⟩
    (try walk_at "pd")
    exact h
  · exact h.elim
def sp_check_two : FSpec := fun ds Q => match ds with
  | [.tuple xs, .tuple ys] => ∃ a b : List Int, (xs = a.map PyData.int ∧ ys = b.map PyData.int ∧ 1 ≤ a.length ∧ a.length ≤ 40 ∧ b.length = a.length) ∧ Q .none
  | _ => False
theorem len_check_two : ∀ ds Q, sp_check_two ds Q → ds.length = 2 := fun ds Q h => by
  unfold sp_check_two at h
  split at h <;> first | rfl | exact h.elim
def w_check_two : WS := wSeq (wDrop (wCall sp_check_values (wCons (wVar 0) (wNil)))) (wSeq (wDrop (wCall sp_check_values (wCons (wVar 1) (wNil)))) (wIfS (wTest (wOp opNe (wCB bLen
    (wCons (wVar 0) (wNil))) (wCB bLen (wCons (wVar 1) (wNil))))) (wNever) (wNext)))
theorem ok_check_two : ∀ ds Qd, sp_check_two ds Qd → w_check_two (endsP Qd) (startD 2 ds) := fun ds Qd h => by
  unfold sp_check_two at h
  split at h
  · obtain ⟨a, b, ⟨rfl, rfl, h0, h1, h2⟩, h⟩ := h
    unfold w_check_two
    walk_at "pd"
    simp only [sp_check_values]
    refine ⟨a, ⟨rfl, h0, h1⟩, ?_⟩
    (try walk_at "pd")
    refine ⟨b, ⟨rfl, by omega, by omega⟩, ?_⟩
    (try walk_at "pd")
    simp only [List.length_map, h2]
    (try rw [if_neg (by simp)])
    exact h
  · exact h.elim
def sp_own_divisors : FSpec := fun ds Q => match ds with
  | [.int n] => (1 ≤ n ∧ n ≤ 40) ∧ Q (.tuple ((og n.toNat).map eN))
  | _ => False
theorem len_own_divisors : ∀ ds Q, sp_own_divisors ds Q → ds.length = 1 := fun ds Q h => by
  unfold sp_own_divisors at h
  split at h <;> first | rfl | exact h.elim
def w_own_divisors : WS := wRet (wCB bTuple (wCons (wLc (wSq (wCall sp_divisors (wCons (wVar 0) (wNil)))) (wgName 1) (wTest (wOp opEq (wCall sp_common (wCons (wVar 1) (wCons (wOp
    opFdiv (wVar 0) (wVar 1)) (wNil)))) (wC (.int 1)))) (wVar 1) [1]) (wNil)))
theorem ok_own_divisors : ∀ ds Qd, sp_own_divisors ds Qd → w_own_divisors (endsP Qd) (startD 2 ds) := fun ds Qd h => by
  unfold sp_own_divisors at h
  split at h
  · next n =>
    obtain ⟨⟨n0, n1⟩, h⟩ := h
    obtain ⟨n, rfl⟩ := Int.eq_ofNat_of_zero_le (show 0 ≤ n by omega)
    simp only [Int.ofNat_eq_natCast, Int.toNat_natCast] at h n0 n1
    obtain ⟨_, _, _, _, _, _, _, k8⟩ := f1_all n (by omega) (by omega)
    have hl := B.divs_le (show 1 ≤ n by omega)
    unfold w_own_divisors
    walk_at "pd"
    simp only [sp_divisors, Int.toNat_natCast]
    refine ⟨⟨n0, by omega⟩, ?_⟩
    (try walk_at "pd")
    refine lcGo_of (xs := B.divs n) (acc := []) PyData.int (fun x => Int.gcd x ((n : Int) / x) == 1) PyData.int (fun x hx k1 k2 h1 h2 => ?_) (by rw [sizeLine_eq]; simp only [List.length_nil]; omega) ?_
    · obtain ⟨x0, _, x1⟩ := B.divs_mem (show 1 ≤ n by omega) hx
      walk_at "pd"
      refine ⟨div64 (by omega) (by omega), ?_⟩
      simp only [sp_common]
      (try walk_at "pd")
      by_cases e : Int.gcd x ((n : Int) / x) = 1
      · rw [if_pos (by rw [e]; rfl)]
        exact h1 (by rw [e]; rfl)
      · rw [if_neg (by omega)]
        exact h2 (by simpa using e)
    · walk_at "pd"
      rw [k8, ← eN_map]
      exact h
  · exact h.elim
def sp_sign : FSpec := fun ds Q => match ds with
  | [.int n] => (1 ≤ n ∧ n ≤ 40) ∧ Q (.int (sg n.toNat))
  | _ => False
theorem len_sign : ∀ ds Q, sp_sign ds Q → ds.length = 1 := fun ds Q h => by
  unfold sp_sign at h
  split at h <;> first | rfl | exact h.elim
def w_sign : WS := wRet (wIf (wTest (wOp opEq (wOp opMod (wCB bInt (wCons (wCB bLen (wCons (wCall sp_factors (wCons (wVar 0) (wNil))) (wNil))) (wNil))) (wC (.int 2))) (wC (.int
    0)))) (wC (.int 1)) (wUn opNeg (wC (.int 1))))
theorem ok_sign : ∀ ds Qd, sp_sign ds Qd → w_sign (endsP Qd) (startD 1 ds) := fun ds Qd h => by
  unfold sp_sign at h
  split at h
  · next n =>
    obtain ⟨⟨n0, n1⟩, h⟩ := h
    unfold sg at h
    unfold w_sign
    walk_at "pd"
    simp only [sp_factors]
    refine ⟨⟨n0, by omega⟩, ?_⟩
    (try walk_at "pd")
    simp only [List.length_map]
    by_cases c : (B.facs n.toNat).length % 2 = 0
    · rw [if_pos c] at h
      rw [if_pos (by omega)]
      exact ⟨by decide, h⟩
    · rw [if_neg c] at h
      rw [if_neg (by omega)]
      exact ⟨by decide, h⟩
  · exact h.elim
def tgs (a b : List Int) : List Int := (rg a.length).map (conv (A a) (A b))
def sp_together : FSpec := fun ds Q => match ds with
  | [.tuple xs, .tuple ys] => ∃ a b : List Int, (xs = a.map PyData.int ∧ ys = b.map PyData.int ∧ 1 ≤ a.length ∧ a.length ≤ 40 ∧ b.length = a.length ∧ (Bd a ∨ Bd b)) ∧ Q (iT (tgs a b))
  | _ => False
theorem len_together : ∀ ds Q, sp_together ds Q → ds.length = 2 := fun ds Q h => by
  unfold sp_together at h
  split at h <;> first | rfl | exact h.elim
def w_together : WS := wSeq (wDrop (wCall sp_check_two (wCons (wVar 0) (wCons (wVar 1) (wNil))))) (wSeq (wSet 2 (wLst (wNil))) (wSeq (wFor (wRange2 (wCons (wC (.int 1)) (wCons (wOp
    opAdd (wCB bLen (wCons (wVar 0) (wNil))) (wC (.int 1))) (wNil)))) (wgName 3) (wDrop (wAppend 2 (wCB bSum (wCons (wLc (wSq (wCall sp_own_divisors (wCons (wVar 3) (wNil))))
    (wgName 4) (wYes) (wOp opMul (wOp opIx (wVar 0) (wOp opSub (wVar 4) (wC (.int 1)))) (wOp opIx (wVar 1) (wOp opSub (wOp opFdiv (wVar 3) (wVar 4)) (wC (.int 1))))) [4])
    (wNil)))))) (wRet (wCB bTuple (wCons (wVar 2) (wNil))))))
theorem mul_any {a b : List Int} (h : Bd a ∨ Bd b) (i j : Nat) : MulOk (A a i) (A b j) := by
  rcases h with h | h
  · exact mulL h.at.1 h.at.2
  · exact mulR h.at
theorem ok_together : ∀ ds Qd, sp_together ds Qd → w_together (endsP Qd) (startD 5 ds) := fun ds Qd h => by
  unfold sp_together at h
  split at h
  · obtain ⟨a, b, ⟨rfl, rfl, h0, h1, h2, hB⟩, h⟩ := h
    unfold tgs at h
    unfold w_together
    refine wSeq_by (fun Γ => Γ = [some (.imm (iT a)), some (.imm (iT b)), none, none, none]) (fun N hN => ?_) (fun Γ hp => ?_)
    · walk_at "pd"
      simp only [sp_check_two]
      exact ⟨a, b, ⟨rfl, rfl, h0, h1, h2⟩, hN _ rfl⟩
    subst hp
    refine wSeq_by (fun Γ => Γ = [some (.imm (iT a)), some (.imm (iT b)), some (.own none []), none, none]) (fun N hN => ?_) (fun Γ hp => ?_)
    · walk_at "pd"
      exact ⟨Nat.zero_le _, hN _ rfl⟩
    subst hp
    walk_at "pd"
    simp only [List.length_map]
    refine ⟨in62_of (by omega) (by omega), in62_of (by omega) (by omega), ?_⟩
    rw [show ((a.length : Int) + 1 - 1).toNat = a.length by omega, rangeD_N]
    refine forGo_of eN (fun items Γ => ∃ (done : List Nat) (s3 : Option SV), done ++ items = rg a.length ∧ Γ = [some (.imm (iT a)), some (.imm (iT b)), some (.own none ((done.map (conv (A a) (A b))).map PyData.int)), s3, none])
      (fun n ns Γ N2 hi hN2 => ?_) (fun Γ hi => ?_) ⟨[], none, rfl, rfl⟩
    · obtain ⟨done, s3, hd, rfl⟩ := hi
      obtain ⟨n0, n1⟩ := rg_mem.mp (show n ∈ rg a.length by rw [← hd]; simp)
      have hl := og_len n
      have dl : done.length ≤ 40 := by
        have := congrArg List.length hd
        rw [List.length_append, rg_len] at this
        omega
      walk_at "pd"
      simp only [sp_own_divisors, Int.toNat_natCast]
      refine ⟨⟨by omega, by omega⟩, ?_⟩
      (try walk_at "pd")
      refine lcGo_all (xs := og n) (acc := []) eN (fun d => .int (A a d * A b (n / d))) (fun d hd2 k1 hk => ?_) (by rw [sizeLine_eq]; simp only [List.length_nil]; omega) ?_
      · obtain ⟨d0, d1, _, _, _, d2, d3⟩ := og_mem hd2
        walk_at "pd"
        rw [idiv, atA d0 (by omega)]
        refine ⟨div64 (by omega) (by omega), ?_⟩
        rw [atA d3 (by omega)]
        exact ⟨mul_any hB _ _, hk⟩
      · walk_at "pd"
        have e : (og n).map (fun d => PyData.int (A a d * A b (n / d))) = ((og n).map fun d => A a d * A b (n / d)).map PyData.int := by rw [List.map_map]; rfl
        rw [e, withInts_map]
        refine ⟨by rw [sizeLine_eq]; simp only [List.length_map]; omega, hN2 _ ⟨done ++ [n], some (.imm (eN n)), by rw [← hd]; simp, ?_⟩⟩
        rw [List.map_append, List.map_append]
        rfl
    · obtain ⟨done, s3, hd, rfl⟩ := hi
      rw [List.append_nil] at hd
      subst hd
      walk_at "pd"
      exact h
  · exact h.elim
def over (a : List Int) : List Int := (rg a.length).map fun k => ((og k).map (A a)).sum
def sp_over_own : FSpec := fun ds Q => match ds with
  | [.tuple xs] => ∃ a : List Int, (xs = a.map PyData.int ∧ 1 ≤ a.length ∧ a.length ≤ 40) ∧ Q (iT (over a))
  | _ => False
theorem len_over_own : ∀ ds Q, sp_over_own ds Q → ds.length = 1 := fun ds Q h => by
  unfold sp_over_own at h
  split at h <;> first | rfl | exact h.elim
def w_over_own : WS := wSeq (wDrop (wCall sp_check_values (wCons (wVar 0) (wNil)))) (wRet (wCB bTuple (wCons (wLc (wRange2 (wCons (wC (.int 1)) (wCons (wOp opAdd (wCB bLen (wCons
    (wVar 0) (wNil))) (wC (.int 1))) (wNil)))) (wgName 1) (wYes) (wCB bSum (wCons (wLc (wSq (wCall sp_own_divisors (wCons (wVar 1) (wNil)))) (wgName 2) (wYes) (wOp opIx (wVar 0)
    (wOp opSub (wVar 2) (wC (.int 1)))) [2]) (wNil))) [1]) (wNil))))
theorem ok_over_own : ∀ ds Qd, sp_over_own ds Qd → w_over_own (endsP Qd) (startD 3 ds) := fun ds Qd h => by
  unfold sp_over_own at h
  split at h
  · obtain ⟨a, ⟨rfl, h0, h1⟩, h⟩ := h
    unfold over at h
    unfold w_over_own
    refine wSeq_by (fun Γ => Γ = [some (.imm (iT a)), none, none]) (fun N hN => ?_) (fun Γ hp => ?_)
    · walk_at "pd"
      simp only [sp_check_values]
      exact ⟨a, ⟨rfl, h0, h1⟩, hN _ rfl⟩
    subst hp
    walk_at "pd"
    simp only [List.length_map]
    refine ⟨in62_of (by omega) (by omega), in62_of (by omega) (by omega), ?_⟩
    rw [show ((a.length : Int) + 1 - 1).toNat = a.length by omega, rangeD_N]
    refine lcGo_all (xs := rg a.length) (acc := []) eN (fun n => .int (((og n).map (A a)).sum)) (fun n hn k1 hk => ?_) (by rw [rg_len, sizeLine_eq]; simp only [List.length_nil]; omega) ?_
    · obtain ⟨n0, n1⟩ := rg_mem.mp hn
      have hl := og_len n
      walk_at "pd"
      simp only [sp_own_divisors, Int.toNat_natCast]
      refine ⟨⟨by omega, by omega⟩, ?_⟩
      (try walk_at "pd")
      refine lcGo_all (xs := og n) (acc := []) eN (fun d => .int (A a d)) (fun d hd2 k1 hk => ?_) (by rw [sizeLine_eq]; simp only [List.length_nil]; omega) ?_
      · obtain ⟨d0, d1, _, _, _, d2, d3⟩ := og_mem hd2
        walk_at "pd"
        rw [atA d0 (by omega)]
        exact hk
      · walk_at "pd"
        have e : (og n).map (fun d => PyData.int (A a d)) = ((og n).map (A a)).map PyData.int := by rw [List.map_map]; rfl
        rw [e, withInts_map]
        exact hk
    · walk_at "pd"
      have e : (rg a.length).map (fun n => PyData.int (((og n).map (A a)).sum)) = ((rg a.length).map fun k => ((og k).map (A a)).sum).map PyData.int := by rw [List.map_map]; rfl
      rw [e]
      exact h
  · exact h.elim
def back (a : List Int) : List Int := (rg a.length).map (conv sg (A a))
theorem sg_bd (n : Nat) : -18446744073709551616 < sg n ∧ sg n < 18446744073709551616 := by
  unfold sg
  split <;> exact ⟨by decide, by decide⟩
def sp_back_from_own : FSpec := fun ds Q => match ds with
  | [.tuple xs] => ∃ a : List Int, (xs = a.map PyData.int ∧ 1 ≤ a.length ∧ a.length ≤ 40) ∧ Q (iT (back a))
  | _ => False
theorem len_back_from_own : ∀ ds Q, sp_back_from_own ds Q → ds.length = 1 := fun ds Q h => by
  unfold sp_back_from_own at h
  split at h <;> first | rfl | exact h.elim
def w_back_from_own : WS := wSeq (wDrop (wCall sp_check_values (wCons (wVar 0) (wNil)))) (wSeq (wSet 1 (wLst (wNil))) (wSeq (wFor (wRange2 (wCons (wC (.int 1)) (wCons (wOp opAdd
    (wCB bLen (wCons (wVar 0) (wNil))) (wC (.int 1))) (wNil)))) (wgName 2) (wDrop (wAppend 1 (wCB bSum (wCons (wLc (wSq (wCall sp_own_divisors (wCons (wVar 2) (wNil)))) (wgName 3)
    (wYes) (wOp opMul (wCall sp_sign (wCons (wVar 3) (wNil))) (wOp opIx (wVar 0) (wOp opSub (wOp opFdiv (wVar 2) (wVar 3)) (wC (.int 1))))) [3]) (wNil)))))) (wRet (wCB bTuple
    (wCons (wVar 1) (wNil))))))
theorem ok_back_from_own : ∀ ds Qd, sp_back_from_own ds Qd → w_back_from_own (endsP Qd) (startD 4 ds) := fun ds Qd h => by
  unfold sp_back_from_own at h
  split at h
  · obtain ⟨a, ⟨rfl, h0, h1⟩, h⟩ := h
    unfold back at h
    unfold w_back_from_own
    refine wSeq_by (fun Γ => Γ = [some (.imm (iT a)), none, none, none]) (fun N hN => ?_) (fun Γ hp => ?_)
    · walk_at "pd"
      simp only [sp_check_values]
      exact ⟨a, ⟨rfl, h0, h1⟩, hN _ rfl⟩
    subst hp
    refine wSeq_by (fun Γ => Γ = [some (.imm (iT a)), some (.own none []), none, none]) (fun N hN => ?_) (fun Γ hp => ?_)
    · walk_at "pd"
      exact ⟨Nat.zero_le _, hN _ rfl⟩
    subst hp
    walk_at "pd"
    simp only [List.length_map]
    refine ⟨in62_of (by omega) (by omega), in62_of (by omega) (by omega), ?_⟩
    rw [show ((a.length : Int) + 1 - 1).toNat = a.length by omega, rangeD_N]
    refine forGo_of eN (fun items Γ => ∃ (done : List Nat) (s3 : Option SV), done ++ items = rg a.length ∧ Γ = [some (.imm (iT a)), some (.own none ((done.map (conv sg (A a))).map PyData.int)), s3, none])
      (fun n ns Γ N2 hi hN2 => ?_) (fun Γ hi => ?_) ⟨[], none, rfl, rfl⟩
    · obtain ⟨done, s3, hd, rfl⟩ := hi
      obtain ⟨n0, n1⟩ := rg_mem.mp (show n ∈ rg a.length by rw [← hd]; simp)
      have hl := og_len n
      have dl : done.length ≤ 40 := by
        have := congrArg List.length hd
        rw [List.length_append, rg_len] at this
        omega
      walk_at "pd"
      simp only [sp_own_divisors, Int.toNat_natCast]
      refine ⟨⟨by omega, by omega⟩, ?_⟩
      (try walk_at "pd")
      refine lcGo_all (xs := og n) (acc := []) eN (fun d => .int (sg d * A a (n / d))) (fun d hd2 k1 hk => ?_) (by rw [sizeLine_eq]; simp only [List.length_nil]; omega) ?_
      · obtain ⟨d0, d1, _, _, _, d2, d3⟩ := og_mem hd2
        walk_at "pd"
        simp only [sp_sign, Int.toNat_natCast]
        refine ⟨⟨by omega, by omega⟩, ?_⟩
        (try walk_at "pd")
        rw [idiv]
        refine ⟨div64 (by omega) (by omega), ?_⟩
        rw [atA d3 (by omega)]
        exact ⟨mulL (sg_bd d).1 (sg_bd d).2, hk⟩
      · walk_at "pd"
        have e : (og n).map (fun d => PyData.int (sg d * A a (n / d))) = ((og n).map fun d => sg d * A a (n / d)).map PyData.int := by rw [List.map_map]; rfl
        rw [e, withInts_map]
        refine ⟨by rw [sizeLine_eq]; simp only [List.length_map]; omega, hN2 _ ⟨done ++ [n], some (.imm (eN n)), by rw [← hd]; simp, ?_⟩⟩
        rw [List.map_append, List.map_append]
        rfl
    · obtain ⟨done, s3, hd, rfl⟩ := hi
      rw [List.append_nil] at hd
      subst hd
      walk_at "pd"
      exact h
  · exact h.elim
theorem cutLast (l : List D) : Pd.cutD l none (some (-1)) = l.dropLast := by
  unfold Pd.cutD
  have e1 : HT.sIx l.length 0 none = 0 := rfl
  have e2 : HT.sIx l.length l.length (some (-1)) = l.length - 1 := by
    simp only [HT.sIx]
    rw [if_pos (by decide)]
    omega
  rw [e1, e2, List.drop_zero, Nat.sub_zero, List.dropLast_eq_take]
def sp_whole_undoing : FSpec := fun ds Q => match ds with
  | [.tuple xs] => ∃ a : List Int, (xs = a.map PyData.int ∧ 1 ≤ a.length ∧ a.length ≤ 40 ∧ Bd a ∧ (A a 1 = 1 ∨ A a 1 = -1)) ∧ Q (iT (wu (A a) a.length))
  | _ => False
theorem len_whole_undoing : ∀ ds Q, sp_whole_undoing ds Q → ds.length = 1 := fun ds Q h => by
  unfold sp_whole_undoing at h
  split at h <;> first | rfl | exact h.elim
def w_whole_undoing : WS := wSeq (wDrop (wCall sp_check_values (wCons (wVar 0) (wNil)))) (wSeq (wIfS (wTest (wOp opNotIn (wOp opIx (wVar 0) (wC (.int 0))) (wTup (wCons (wC (.int
    1)) (wCons (wUn opNeg (wC (.int 1))) (wNil)))))) (wNever) (wNext)) (wSeq (wSet 1 (wLst (wNil))) (wSeq (wFor (wRange2 (wCons (wC (.int 1)) (wCons (wOp opAdd (wCB bLen (wCons
    (wVar 0) (wNil))) (wC (.int 1))) (wNil)))) (wgName 2) (wSeq (wSet 3 (wCB bInt (wCons (wOp opEq (wVar 2) (wC (.int 1))) (wNil)))) (wSeq (wFor (wSq (wSl opSl (wCall
    sp_own_divisors (wCons (wVar 2) (wNil))) (wNoPart) (wPart (wUn opNeg (wC (.int 1)))))) (wgName 4) (wAug 3 ipSub (wOp opMul (wOp opIx (wVar 0) (wOp opSub (wOp opFdiv (wVar 2)
    (wVar 4)) (wC (.int 1)))) (wOp opIx (wVar 1) (wOp opSub (wVar 4) (wC (.int 1))))))) (wDrop (wAppend 1 (wOp opMul (wVar 3) (wOp opIx (wVar 0) (wC (.int 0))))))))) (wRet (wCB
    bTuple (wCons (wVar 1) (wNil)))))))
theorem ok_whole_undoing : ∀ ds Qd, sp_whole_undoing ds Qd → w_whole_undoing (endsP Qd) (startD 5 ds) := fun ds Qd h => by
  unfold sp_whole_undoing at h
  split at h
  · obtain ⟨a, ⟨rfl, h0, h1, hB, hv⟩, h⟩ := h
    unfold w_whole_undoing
    refine wSeq_by (fun Γ => Γ = [some (.imm (iT a)), none, none, none, none]) (fun N hN => ?_) (fun Γ hp => ?_)
    · walk_at "pd"
      simp only [sp_check_values]
      exact ⟨a, ⟨rfl, h0, h1⟩, hN _ rfl⟩
    subst hp
    refine wSeq_by (fun Γ => Γ = [some (.imm (iT a)), none, none, none, none]) (fun N hN => ?_) (fun Γ hp => ?_)
    · walk_at "pd"
      rw [at0 h0]
      rcases hv with z | z <;> rw [z]
      · walk_at "pd"
        refine ⟨by rw [sizeLine_eq]; decide, rfl, ?_⟩
        rw [if_neg (by simp [eqv_int])]
        exact hN _ rfl
      · walk_at "pd"
        refine ⟨by rw [sizeLine_eq]; decide, rfl, ?_⟩
        rw [if_neg (by simp [eqv_int])]
        exact hN _ rfl
    subst hp
    refine wSeq_by (fun Γ => Γ = [some (.imm (iT a)), some (.own none []), none, none, none]) (fun N hN => ?_) (fun Γ hp => ?_)
    · walk_at "pd"
      exact ⟨Nat.zero_le _, hN _ rfl⟩
    subst hp
    walk_at "pd"
    simp only [List.length_map]
    refine ⟨in62_of (by omega) (by omega), in62_of (by omega) (by omega), ?_⟩
    rw [show ((a.length : Int) + 1 - 1).toNat = a.length by omega, rangeD_N]
    refine forGo_of eN (fun items Γ => ∃ (k : Nat) (s2 s3 s4 : Option SV), rg k ++ items = rg a.length ∧ Γ = [some (.imm (iT a)), some (.own none ((wu (A a) k).map PyData.int)), s2, s3, s4])
      (fun n ns Γ N2 hi hN2 => ?_) (fun Γ hi => ?_) ⟨0, none, none, none, rfl, rfl⟩
    · obtain ⟨k, s2, s3, s4, hd, rfl⟩ := hi
      obtain ⟨n0, n1⟩ := rg_mem.mp (show n ∈ rg a.length by rw [← hd]; simp)
      have hk : n = k + 1 := by
        have e1 : (rg a.length)[k]? = some n := by
          rw [← hd, List.getElem?_append_right (by rw [rg_len]; exact Nat.le_refl _), rg_len, Nat.sub_self]
          rfl
        have hk2 : k < a.length := by
          have := (List.getElem?_eq_some_iff.mp e1).1
          rwa [rg_len] at this
        unfold rg at e1
        rw [List.getElem?_map, List.getElem?_range hk2] at e1
        cases e1
        rfl
      subst hk
      obtain ⟨_, _, _, _, _, _, k7, _⟩ := f1_all (k + 1) (by omega) (by omega)
      have hl := og_len (k + 1)
      simp only [wgName, List.set_cons_succ, List.set_cons_zero]
      refine wSeq_by (fun Γ => Γ = [some (.imm (iT a)), some (.own none ((wu (A a) k).map PyData.int)), some (.imm (eN (k + 1))), some (.imm (.int (one1 (k + 1)))), s4]) (fun N hN => ?_) (fun Γ hp => ?_)
      · have hN := hN _ rfl
        unfold one1 at hN
        walk_at "pd"
        by_cases c : k + 1 = 1
        · rw [if_pos c] at hN
          rw [if_pos (by omega)]
          exact hN
        · rw [if_neg c] at hN
          rw [if_neg (by omega)]
          exact hN
      subst hp
      refine wSeq_by (fun Γ => ∃ s4, Γ = [some (.imm (iT a)), some (.own none ((wu (A a) k).map PyData.int)), some (.imm (eN (k + 1))), some (.imm (.int (one1 (k + 1) - ((og (k + 1)).dropLast.map fun d => A a ((k + 1) / d) * A (wu (A a) k) d).sum))), s4]) (fun N hN => ?_) (fun Γ hp => ?_)
      · walk_at "pd"
        simp only [sp_own_divisors, Int.toNat_natCast]
        refine ⟨⟨by omega, by omega⟩, ?_⟩
        (try walk_at "pd")
        rw [cutLast, ← List.map_dropLast]
        refine forGo_of eN (fun items Γ => ∃ (done : List Nat) (s4 : Option SV), done ++ items = (og (k + 1)).dropLast ∧ Γ = [some (.imm (iT a)), some (.own none ((wu (A a) k).map PyData.int)), some (.imm (eN (k + 1))), some (.imm (.int (one1 (k + 1) - (done.map fun d => A a ((k + 1) / d) * A (wu (A a) k) d).sum))), s4])
          (fun d ds Γ N3 hi hN3 => ?_) (fun Γ hi => ?_) ⟨[], s4, rfl, by rw [List.map_nil, List.sum_nil, Int.sub_zero]⟩
        · obtain ⟨done, s4, he, rfl⟩ := hi
          have hm : d ∈ (og (k + 1)).dropLast := by rw [← he]; simp
          have hlt := k7 d hm
          obtain ⟨d0, d1, _, _, _, d2, d3⟩ := og_mem (List.dropLast_subset _ hm)
          walk_at "pd"
          rw [idiv, atA d3 (by omega), atA d0 (by rw [wu_len]; omega)]
          refine ⟨div64 (by omega) (by omega), mulL hB.at.1 hB.at.2, hN3 _ ⟨done ++ [d], some (.imm (eN d)), by rw [← he]; simp, ?_⟩⟩
          rw [List.map_append, List.sum_append, List.map_cons, List.map_nil, List.sum_cons, List.sum_nil, Int.add_zero]
          simp only [Int.sub_sub]
        · obtain ⟨done, s4, he, rfl⟩ := hi
          rw [List.append_nil] at he
          subst he
          exact hN _ ⟨_, rfl⟩
      obtain ⟨s4, rfl⟩ := hp
      walk_at "pd"
      rw [at0 h0]
      refine ⟨mulR hB.at, by rw [sizeLine_eq]; simp only [List.length_map, wu_len]; omega, ?_⟩
      have ew : ((wu (A a) k).map PyData.int) ++ [PyData.int ((one1 (k + 1) - ((og (k + 1)).dropLast.map fun d => A a ((k + 1) / d) * A (wu (A a) k) d).sum) * A a 1)] = (wu (A a) (k + 1)).map PyData.int := by
        rw [wu, List.map_append]
        rfl
      rw [ew]
      refine hN2 _ ⟨k + 1, _, _, _, ?_, rfl⟩
      rw [← hd]
      unfold rg
      rw [List.range_succ, List.map_append, List.append_assoc]
      rfl
    · obtain ⟨k, s2, s3, s4, hd, rfl⟩ := hi
      rw [List.append_nil] at hd
      have : k = a.length := by rw [← rg_len k, hd, rg_len]
      subst this
      walk_at "pd"
      exact h
  · exact h.elim
end T
end

section
set_option maxRecDepth 100000
set_option maxHeartbeats 1000000
set_option exponentiation.threshold 2000
/-! C33c: the law's own. -/
namespace T
open PySem PySem.Spec L2 Pd
open PyProof.Rows hiding St
set_option autoImplicit false
local macro_rules | `(tactic| walk_at "pd") => `(tactic| try simp only [wSeq, wSet, wRet, wRetO, wCallO, wRetN, wDrop, wIfS, wNext, wNever, wBreak, wCont, wAsg, wgName, wgNil, wgCons, wgTup, wPar, wFCons, wNil, wCons, preps, prep, setAll, wVar, wC, wOp, wUn, wTest, wTruth, truD, wAnd, wOr, wNot, wAndV, wOrV, wNotV, wIf, wChain,
  wTup, wLst, wCB, wNoPart, wPart, wSl, wIsi, wIsi2, wCall, wCallM, wOwn, wAppend, wExtend, wPop, wCount, wSetIx, wAug, wFor, wSq, wRange1, wRange2, wZip, wEnum, wLc, noOwn, wYes, asInt, seqD, rs, rsv, stl, fz, fzs, rss, isLst,
  opAdd, opSub, opMul, opFdiv, opMod, opPow, opLt, opLe, opGt, opGe, opEq, opNe, opIn, opNotIn, opIs, opIsNot, isNone, opNeg, opIx, opSl, bLen, bAbs, bInt, bSum, bMax, bMin, bAll, bAny, bSorted, bTuple, bList, bMax2, bMin2, bRepr, ipAdd, ipSub, isD_int_none, isD_int_bool, isD_int_int, isD_int_str, isD_int_list, isD_int_tuple, isD_bool_none, isD_bool_bool, isD_bool_int, isD_bool_str, isD_bool_list, isD_bool_tuple, isD_str_none, isD_str_bool, isD_str_int, isD_str_str, isD_str_list, isD_str_tuple, isD_list_none, isD_list_bool, isD_list_int, isD_list_str, isD_list_list, isD_list_tuple, isD_tuple_none, isD_tuple_bool, isD_tuple_int, isD_tuple_str, isD_tuple_list, isD_tuple_tuple, isD_dict_none, isD_dict_bool, isD_dict_int, isD_dict_str, isD_dict_list, isD_dict_tuple, flatD, at5_0, at5_1, at5_2, at5_3, at5_4, ix5_1, ix5_2, ix5_3, ix5_4,
  wipeD, back, startD, endsP, endsO, startM, endsM, own0, List.map_cons, List.map_nil, List.nil_append, List.cons_append, List.length_cons, List.length_nil, List.replicate_succ, List.replicate_zero, List.getElem?_cons_zero, List.getElem?_cons_succ, List.getElem?_nil, List.set_cons_zero, List.set_cons_succ, Nat.sub_zero, Nat.reduceSub, Int.reduceToNat, Nat.reduceAdd, Nat.zero_add,
  shaped_int, eqv_int, shaped_bool, eqv_bool, eqv_str, BEq.rfl, true_and, and_true, if_true, if_false, Bool.false_eq_true, Bool.true_eq_false, Bool.and_true, Bool.true_and, Bool.and_false, Bool.false_and, Bool.not_true, Bool.not_false, reduceIte, decide_eq_true_eq, decide_eq_false_iff_not, Option.getD_some, Option.getD_none, beq_iff_eq, Bool.or_true, Bool.true_or, Bool.or_false, Bool.false_or])

/-- a comprehension whose values are drawn -/
theorem lcGo_ex {α : Type} (emb : α → D) {wg : WG} {we : WE} {vs : List Nat} {Q : List D → Sl → Prop} (Inv : List D → Sl → Prop) : ∀ {xs : List α} {acc : List D} {Γ : Sl},
    (∀ x ∈ xs, ∀ (acc : List D) (Γ : Sl), Inv acc Γ → ∀ (k1 : D → Sl → Prop), (∀ d Γ', Inv (acc ++ [d]) Γ' → k1 d Γ') → wg (emb x) (wipeD Γ vs) fun Γ1 => we Γ1 fun o Γ3 => fz Γ3 o fun y Γ4 => k1 y (Pd.back Γ Γ4 vs)) →
    acc.length + xs.length ≤ sizeLine → Inv acc Γ → (∀ acc' Γ', acc'.length = acc.length + xs.length → Inv acc' Γ' → Q acc' Γ') → lcGo wg wYes we vs Q (xs.map emb) acc Γ
  | [], acc, Γ, _, _, hi, q => q acc Γ rfl hi
  | x :: xs, acc, Γ, h, hl, hi, q => by
    simp only [List.length_cons] at hl
    rw [List.map_cons, lcGo]
    unfold wYes
    simp only [if_true]
    refine h x List.mem_cons_self acc Γ hi (fun y Γ' => acc.length < sizeLine ∧ lcGo wg wYes we vs Q (xs.map emb) (acc ++ [y]) Γ') fun d Γ' h' => ⟨by omega, ?_⟩
    refine lcGo_ex emb Inv (fun y hy => h y (List.mem_cons_of_mem _ hy)) (by rw [List.length_append, List.length_singleton]; omega) h' fun acc' Γ2 e h2 => q acc' Γ2 ?_ h2
    rw [e, List.length_append, List.length_singleton, List.length_cons]
    omega
def sp_law_common : FSpec := fun ds Q => match ds with
  | [.int a, .int b] => (0 ≤ a ∧ 0 ≤ b) ∧ Q (.int (Nat.gcd a.toNat b.toNat : Nat))
  | _ => False
theorem len_law_common : ∀ ds Q, sp_law_common ds Q → ds.length = 2 := fun ds Q h => by
  unfold sp_law_common at h
  split at h <;> first | rfl | exact h.elim
def w_law_common : WS := wSeq (wWhile (wTest (wOp opGt (wVar 1) (wC (.int 0)))) (wPar [0, 1] (wFCons (wVar 1) (wFCons (wOp opMod (wCB bInt (wCons (wVar 0) (wNil))) (wVar 1))
    (wNil))))) (wRet (wVar 0))
theorem ok_law_common : ∀ ds Qd, sp_law_common ds Qd → w_law_common (endsP Qd) (startD 2 ds) := fun ds Qd h => by
  unfold sp_law_common at h
  split at h
  · next a b =>
    obtain ⟨⟨a0, b0⟩, h⟩ := h
    obtain ⟨a, rfl⟩ := Int.eq_ofNat_of_zero_le a0
    obtain ⟨b, rfl⟩ := Int.eq_ofNat_of_zero_le b0
    simp only [Int.ofNat_eq_natCast, Int.toNat_natCast] at h
    unfold w_law_common
    walk_at "pd"
    refine wWhile_st (α := Nat × Nat) (fun p => [some (.imm (.int (p.1 : Int))), some (.imm (.int (p.2 : Int)))]) (fun p => Nat.gcd p.1 p.2 = Nat.gcd a b) (fun p => p.2) (fun p N hp hN => ?_) (a := (a, b)) rfl
    obtain ⟨x, y⟩ := p
    walk_at "pd"
    by_cases hy : (0 : Int) < (y : Int)
    · rw [if_pos hy]
      have hy' : 0 < y := by omega
      refine ⟨hy, ?_⟩
      have := hN (y, x % y) (by rw [← hp]; simp only; rw [Nat.gcd_comm y, ← Nat.gcd_rec, Nat.gcd_comm]) (Nat.mod_lt _ hy')
      simpa using this
    · rw [if_neg hy]
      have hy' : y = 0 := by omega
      subst hy'
      simp only [Nat.gcd_zero_right] at hp
      rw [hp]
      exact h
  · exact h.elim
def sp_law_together : FSpec := fun ds Q => match ds with
  | [.tuple xs, .tuple ys] => ∃ a b : List Int, (xs = a.map PyData.int ∧ ys = b.map PyData.int ∧ 1 ≤ a.length ∧ a.length ≤ 40 ∧ b.length = a.length ∧ (Bd a ∨ Bd b)) ∧ Q (iT (tgs a b))
  | _ => False
theorem len_law_together : ∀ ds Q, sp_law_together ds Q → ds.length = 2 := fun ds Q h => by
  unfold sp_law_together at h
  split at h <;> first | rfl | exact h.elim
def w_law_together : WS := wSeq (wSet 2 (wLst (wNil))) (wSeq (wFor (wRange2 (wCons (wC (.int 1)) (wCons (wOp opAdd (wCB bLen (wCons (wVar 0) (wNil))) (wC (.int 1))) (wNil))))
    (wgName 3) (wSeq (wSet 4 (wC (.int 0))) (wSeq (wFor (wRange2 (wCons (wC (.int 1)) (wCons (wOp opAdd (wVar 3) (wC (.int 1))) (wNil)))) (wgName 5) (wIfS (wAnd (wTest (wOp opEq
    (wOp opMod (wCB bInt (wCons (wVar 3) (wNil))) (wVar 5)) (wC (.int 0)))) (wTest (wOp opEq (wCall sp_law_common (wCons (wVar 5) (wCons (wOp opFdiv (wVar 3) (wVar 5)) (wNil))))
    (wC (.int 1))))) (wSet 4 (wOp opAdd (wVar 4) (wOp opMul (wOp opIx (wVar 0) (wOp opSub (wVar 5) (wC (.int 1)))) (wOp opIx (wVar 1) (wOp opSub (wOp opFdiv (wVar 3) (wVar 5)) (wC
    (.int 1))))))) (wNext))) (wDrop (wAppend 2 (wVar 4)))))) (wRet (wCB bTuple (wCons (wVar 2) (wNil)))))
theorem ok_law_together : ∀ ds Qd, sp_law_together ds Qd → w_law_together (endsP Qd) (startD 6 ds) := fun ds Qd h => by
  unfold sp_law_together at h
  split at h
  · obtain ⟨a, b, ⟨rfl, rfl, h0, h1, h2, hB⟩, h⟩ := h
    unfold tgs at h
    unfold w_law_together
    refine wSeq_by (fun Γ => Γ = [some (.imm (iT a)), some (.imm (iT b)), some (.own none []), none, none, none]) (fun N hN => ?_) (fun Γ hp => ?_)
    · walk_at "pd"
      exact ⟨Nat.zero_le _, hN _ rfl⟩
    subst hp
    walk_at "pd"
    simp only [List.length_map]
    refine ⟨in62_of (by omega) (by omega), in62_of (by omega) (by omega), ?_⟩
    rw [show ((a.length : Int) + 1 - 1).toNat = a.length by omega, rangeD_N]
    refine forGo_of eN (fun items Γ => ∃ (done : List Nat) (s3 s4 s5 : Option SV), done ++ items = rg a.length ∧ Γ = [some (.imm (iT a)), some (.imm (iT b)), some (.own none ((done.map (conv (A a) (A b))).map PyData.int)), s3, s4, s5])
      (fun n ns Γ N2 hi hN2 => ?_) (fun Γ hi => ?_) ⟨[], none, none, none, rfl, rfl⟩
    · obtain ⟨done, s3, s4, s5, hd, rfl⟩ := hi
      obtain ⟨n0, n1⟩ := rg_mem.mp (show n ∈ rg a.length by rw [← hd]; simp)
      have dl : done.length ≤ 40 := by
        have := congrArg List.length hd
        rw [List.length_append, rg_len] at this
        omega
      simp only [wgName, List.set_cons_succ, List.set_cons_zero]
      refine wSeq_by (fun Γ => Γ = [some (.imm (iT a)), some (.imm (iT b)), some (.own none ((done.map (conv (A a) (A b))).map PyData.int)), some (.imm (eN n)), some (.imm (.int 0)), s5]) (fun N hN => ?_) (fun Γ hp => ?_)
      · walk_at "pd"
        exact hN _ rfl
      subst hp
      refine wSeq_by (fun Γ => ∃ s5, Γ = [some (.imm (iT a)), some (.imm (iT b)), some (.own none ((done.map (conv (A a) (A b))).map PyData.int)), some (.imm (eN n)), some (.imm (.int (conv (A a) (A b) n))), s5]) (fun N hN => ?_) (fun Γ hp => ?_)
      · walk_at "pd"
        refine ⟨in62_of (by omega) (by omega), in62_of (by omega) (by omega), ?_⟩
        rw [show ((n : Int) + 1 - 1).toNat = n by omega, rangeD_N]
        refine forGo_of eN (fun items Γ => ∃ (did : List Nat) (s5 : Option SV), did ++ items = rg n ∧ Γ = [some (.imm (iT a)), some (.imm (iT b)), some (.own none ((done.map (conv (A a) (A b))).map PyData.int)), some (.imm (eN n)), some (.imm (.int (((did.filter fun d => n % d == 0 && Nat.gcd d (n / d) == 1).map fun d => A a d * A b (n / d)).sum))), s5])
          (fun d ds Γ N3 hi hN3 => ?_) (fun Γ hi => ?_) ⟨[], s5, rfl, rfl⟩
        · obtain ⟨did, s5, he, rfl⟩ := hi
          obtain ⟨d0, d1⟩ := rg_mem.mp (show d ∈ rg n by rw [← he]; simp)
          walk_at "pd"
          refine ⟨by omega, ?_⟩
          rw [imod]
          by_cases c : n % d = 0
          case neg =>
            rw [if_neg (by omega)]
            refine hN3 _ ⟨did ++ [d], some (.imm (eN d)), by rw [← he]; simp, ?_⟩
            rw [List.filter_append, List.filter_cons_of_neg (by simp [c]), List.filter_nil, List.append_nil]
          have q1 : d * (n / d) = n := Nat.mul_div_cancel' (Nat.dvd_of_mod_eq_zero c)
          have q2 : 1 ≤ n / d := by
            rcases Nat.eq_zero_or_pos (n / d) with z | z
            · rw [z, Nat.mul_zero] at q1; omega
            · exact z
          have q3 : n / d ≤ n := Nat.div_le_self _ _
          rw [if_pos (by omega), idiv]
          refine ⟨div64 (by omega) (by omega), ?_⟩
          simp only [sp_law_common, Int.toNat_natCast]
          refine ⟨⟨by omega, by omega⟩, ?_⟩
          (try walk_at "pd")
          by_cases g : Nat.gcd d (n / d) = 1
          case neg =>
            rw [if_neg (by omega)]
            refine hN3 _ ⟨did ++ [d], some (.imm (eN d)), by rw [← he]; simp, ?_⟩
            rw [List.filter_append, List.filter_cons_of_neg (by simp [g]), List.filter_nil, List.append_nil]
          rw [if_pos (by omega)]
          rw [atA d0 (by omega)]
          refine ⟨div64 (by omega) (by omega), ?_⟩
          rw [atA q2 (by omega)]
          refine ⟨mul_any hB _ _, hN3 _ ⟨did ++ [d], some (.imm (eN d)), by rw [← he]; simp, ?_⟩⟩
          rw [List.filter_append, List.filter_cons_of_pos (by simp [c, g]), List.filter_nil, List.map_append, List.sum_append, List.map_cons, List.map_nil, List.sum_cons, List.sum_nil, Int.add_zero]
        · obtain ⟨did, s5, he, rfl⟩ := hi
          rw [List.append_nil] at he
          subst he
          exact hN _ ⟨_, rfl⟩
      obtain ⟨s5, rfl⟩ := hp
      walk_at "pd"
      refine ⟨by rw [sizeLine_eq]; simp only [List.length_map]; omega, hN2 _ ⟨done ++ [n], some (.imm (eN n)), some (.imm (.int (conv (A a) (A b) n))), s5, by rw [← hd]; simp, ?_⟩⟩
      rw [List.map_append, List.map_append]
      rfl
    · obtain ⟨done, s3, s4, s5, hd, rfl⟩ := hi
      rw [List.append_nil] at hd
      subst hd
      walk_at "pd"
      exact h
  · exact h.elim
/-- small entries -/
def Sm (c : Nat) (a : List Int) : Prop := ∀ x ∈ a, x.natAbs ≤ c
theorem Sm.bd {c : Nat} {a : List Int} (h : Sm c a) (hc : c < 18446744073709551616) : Bd a := fun x hx => by
  have := h x hx
  omega
def sp_law_row : MSpec := fun cs ds Q => match ds with
  | [.int m] => (HandOk cs ∧ 1 ≤ m ∧ m ≤ 40) ∧ ∀ a : List Int, a.length = m.toNat → Sm 5 a → ∀ cs', HandOk cs' → Q (iT a) cs'
  | _ => False
theorem len_law_row : ∀ cs ds Q, sp_law_row cs ds Q → ds.length + 1 = 2 := fun cs ds Q h => by
  unfold sp_law_row at h
  split at h <;> first | rfl | exact h.elim
def w_law_row : WS := wRet (wCB bTuple (wCons (wLc (wRange1 (wCons (wVar 1) (wNil))) (wgName 2) (wYes) (wOp opSub (wCallM sp_law_draw 0 (wCons (wC (.int 11)) (wNil))) (wC (.int
    5))) [2]) (wNil)))
theorem ok_law_row : ∀ p cs ds Qd, sp_law_row cs ds Qd → w_law_row (endsM p Qd) (startM 3 p cs ds) := fun p cs ds Qd h => by
  unfold sp_law_row at h
  split at h
  · next m =>
    obtain ⟨⟨hh, m0, m1⟩, h⟩ := h
    unfold w_law_row
    walk_at "pd"
    refine ⟨in62_of (by omega) (by omega), ?_⟩
    rw [rangeD_ints]
    refine lcGo_ex PyData.int (fun acc Γ => ∃ (a : List Int) (cs : List D), acc = a.map PyData.int ∧ Sm 5 a ∧ HandOk cs ∧ Γ = [some (.own (some p) cs), some (.imm (.int m)), none]) (fun x hx acc Γ hi k1 hk => ?_) (by rw [rangeI_len, sizeLine_eq]; simp only [List.length_nil]; omega) ⟨[], cs, rfl, fun _ hx => absurd hx (by simp), hh, rfl⟩ fun acc Γ he hi => ?_
    · obtain ⟨a, cs, rfl, ha, hh, rfl⟩ := hi
      walk_at "pd"
      simp only [sp_law_draw]
      refine ⟨⟨hh, by decide, by decide⟩, fun r r0 r1 cs2 h2 => ?_⟩
      (try walk_at "pd")
      refine hk _ _ ⟨a ++ [r - 5], cs2, by rw [List.map_append]; rfl, fun x hx => ?_, h2, rfl⟩
      rcases List.mem_append.mp hx with hx | hx
      · exact ha x hx
      · rw [List.mem_singleton.mp hx]; omega
    · obtain ⟨a, cs, rfl, ha, hh, rfl⟩ := hi
      rw [List.length_map, rangeI_len] at he
      walk_at "pd"
      refine h a ?_ ha cs hh
      simp only [List.length_nil] at he
      omega
  · exact h.elim
def sp_law_is_product : FSpec := fun ds Q => match ds with
  | [.tuple xs] => ∃ a : List Int, (xs = a.map PyData.int ∧ 1 ≤ a.length ∧ a.length ≤ 40 ∧ Bd a ∧ IsP a.length (A a)) ∧ Q (.bool true)
  | _ => False
theorem len_law_is_product : ∀ ds Q, sp_law_is_product ds Q → ds.length = 1 := fun ds Q h => by
  unfold sp_law_is_product at h
  split at h <;> first | rfl | exact h.elim
def w_law_is_product : WS := wSeq (wFor (wRange2 (wCons (wC (.int 1)) (wCons (wOp opAdd (wCB bLen (wCons (wVar 0) (wNil))) (wC (.int 1))) (wNil)))) (wgName 1) (wFor (wRange2 (wCons
    (wC (.int 1)) (wCons (wOp opAdd (wOp opFdiv (wCB bLen (wCons (wVar 0) (wNil))) (wVar 1)) (wC (.int 1))) (wNil)))) (wgName 2) (wIfS (wAnd (wTest (wOp opEq (wCall sp_law_common
    (wCons (wVar 1) (wCons (wVar 2) (wNil)))) (wC (.int 1)))) (wTest (wOp opNe (wOp opIx (wVar 0) (wOp opSub (wOp opMul (wVar 1) (wVar 2)) (wC (.int 1)))) (wOp opMul (wOp opIx
    (wVar 0) (wOp opSub (wVar 1) (wC (.int 1)))) (wOp opIx (wVar 0) (wOp opSub (wVar 2) (wC (.int 1)))))))) (wRet (wC (.bool false))) (wNext)))) (wRet (wOp opEq (wOp opIx (wVar 0)
    (wC (.int 0))) (wC (.int 1))))
theorem ok_law_is_product : ∀ ds Qd, sp_law_is_product ds Qd → w_law_is_product (endsP Qd) (startD 3 ds) := fun ds Qd h => by
  unfold sp_law_is_product at h
  split at h
  · obtain ⟨a, ⟨rfl, h0, h1, hB, hP⟩, h⟩ := h
    unfold w_law_is_product
    walk_at "pd"
    simp only [List.length_map]
    refine ⟨in62_of (by omega) (by omega), in62_of (by omega) (by omega), ?_⟩
    rw [show ((a.length : Int) + 1 - 1).toNat = a.length by omega, rangeD_N]
    refine forGo_of eN (fun items Γ => (∀ n ∈ items, 1 ≤ n ∧ n ≤ a.length) ∧ ∃ (s1 s2 : Option SV), Γ = [some (.imm (iT a)), s1, s2])
      (fun n ns Γ N2 hi hN2 => ?_) (fun Γ hi => ?_) ⟨fun n hn => rg_mem.mp hn, none, none, rfl⟩
    · obtain ⟨hm, s1, s2, rfl⟩ := hi
      obtain ⟨n0, n1⟩ := hm n List.mem_cons_self
      have rest : ∀ k ∈ ns, 1 ≤ k ∧ k ≤ a.length := fun k hk => hm k (List.mem_cons_of_mem _ hk)
      walk_at "pd"
      simp only [List.length_map]
      refine ⟨div64 (by omega) (by omega), ?_⟩
      rw [idiv]
      have q3 : a.length / n ≤ a.length := Nat.div_le_self _ _
      generalize hq : a.length / n = q at q3 ⊢
      refine ⟨in62_of (by omega) (by omega), in62_of (by omega) (by omega), ?_⟩
      rw [show ((q : Int) + 1 - 1).toNat = q by omega, rangeD_N]
      refine forGo_of eN (fun items Γ => (∀ k ∈ items, 1 ≤ k ∧ k ≤ q) ∧ ∃ (s2 : Option SV), Γ = [some (.imm (iT a)), some (.imm (eN n)), s2])
        (fun k ks Γ N3 hi hN3 => ?_) (fun Γ hi => ?_) ⟨fun n hn => rg_mem.mp hn, s2, rfl⟩
      · obtain ⟨hm2, s2, rfl⟩ := hi
        obtain ⟨k0, k1⟩ := hm2 k List.mem_cons_self
        have rest2 : ∀ t ∈ ks, 1 ≤ t ∧ t ≤ q := fun t ht => hm2 t (List.mem_cons_of_mem _ ht)
        have kn : n * k ≤ a.length := by
          rw [Nat.mul_comm]
          exact (Nat.le_div_iff_mul_le (by omega)).mp (by rw [hq]; exact k1)
        have kn0 : 1 ≤ n * k := Nat.mul_pos n0 k0
        walk_at "pd"
        simp only [sp_law_common, Int.toNat_natCast]
        refine ⟨⟨by omega, by omega⟩, ?_⟩
        (try walk_at "pd")
        by_cases g : Nat.gcd n k = 1
        · rw [if_pos (by omega)]
          have em : (n : Int) * (k : Int) = ((n * k : Nat) : Int) := by rw [Int.natCast_mul]
          rw [em, atA kn0 kn, atA n0 n1, atA k0 (by omega)]
          refine ⟨mulL (by omega) (by omega), mulL hB.at.1 hB.at.2, ?_⟩
          rw [hP.2 n k n0 k0 kn g]
          refine ⟨rfl, ?_⟩
          rw [if_neg (by simp [eqv_int])]
          exact hN3 _ ⟨rest2, _, rfl⟩
        · rw [if_neg (by omega)]
          exact hN3 _ ⟨rest2, _, rfl⟩
      · obtain ⟨_, s2, rfl⟩ := hi
        exact hN2 _ ⟨rest, _, _, rfl⟩
    · obtain ⟨_, s1, s2, rfl⟩ := hi
      walk_at "pd"
      rw [at0 h0, hP.1]
      refine ⟨rfl, ?_⟩
      rw [eqv_int]
      exact h
  · exact h.elim
end T
end

section
set_option maxRecDepth 100000
set_option maxHeartbeats 1000000
set_option exponentiation.threshold 2000
/-! C33d: rows of products. -/
namespace T
open PySem PySem.Spec L2 Pd
open PyProof.Rows hiding St
set_option autoImplicit false
local macro_rules | `(tactic| walk_at "pd") => `(tactic| try simp only [wSeq, wSet, wRet, wRetO, wCallO, wRetN, wDrop, wIfS, wNext, wNever, wBreak, wCont, wAsg, wgName, wgNil, wgCons, wgTup, wPar, wFCons, wNil, wCons, preps, prep, setAll, wVar, wC, wOp, wUn, wTest, wTruth, truD, wAnd, wOr, wNot, wAndV, wOrV, wNotV, wIf, wChain,
  wTup, wLst, wCB, wNoPart, wPart, wSl, wIsi, wIsi2, wCall, wCallM, wOwn, wAppend, wExtend, wPop, wCount, wSetIx, wAug, wFor, wSq, wRange1, wRange2, wZip, wEnum, wLc, noOwn, wYes, asInt, seqD, rs, rsv, stl, fz, fzs, rss, isLst,
  opAdd, opSub, opMul, opFdiv, opMod, opPow, opLt, opLe, opGt, opGe, opEq, opNe, opIn, opNotIn, opIs, opIsNot, isNone, opNeg, opIx, opSl, bLen, bAbs, bInt, bSum, bMax, bMin, bAll, bAny, bSorted, bTuple, bList, bMax2, bMin2, bRepr, ipAdd, ipSub, isD_int_none, isD_int_bool, isD_int_int, isD_int_str, isD_int_list, isD_int_tuple, isD_bool_none, isD_bool_bool, isD_bool_int, isD_bool_str, isD_bool_list, isD_bool_tuple, isD_str_none, isD_str_bool, isD_str_int, isD_str_str, isD_str_list, isD_str_tuple, isD_list_none, isD_list_bool, isD_list_int, isD_list_str, isD_list_list, isD_list_tuple, isD_tuple_none, isD_tuple_bool, isD_tuple_int, isD_tuple_str, isD_tuple_list, isD_tuple_tuple, isD_dict_none, isD_dict_bool, isD_dict_int, isD_dict_str, isD_dict_list, isD_dict_tuple, flatD, at5_0, at5_1, at5_2, at5_3, at5_4, ix5_1, ix5_2, ix5_3, ix5_4,
  wipeD, back, startD, endsP, endsO, startM, endsM, own0, List.map_cons, List.map_nil, List.nil_append, List.cons_append, List.length_cons, List.length_nil, List.replicate_succ, List.replicate_zero, List.getElem?_cons_zero, List.getElem?_cons_succ, List.getElem?_nil, List.set_cons_zero, List.set_cons_succ, Nat.sub_zero, Nat.reduceSub, Int.reduceToNat, Nat.reduceAdd, Nat.zero_add,
  shaped_int, eqv_int, shaped_bool, eqv_bool, eqv_str, BEq.rfl, true_and, and_true, if_true, if_false, Bool.false_eq_true, Bool.true_eq_false, Bool.and_true, Bool.true_and, Bool.and_false, Bool.false_and, Bool.not_true, Bool.not_false, reduceIte, decide_eq_true_eq, decide_eq_false_iff_not, Option.getD_some, Option.getD_none, beq_iff_eq, Bool.or_true, Bool.true_or, Bool.or_false, Bool.false_or])

/-! the dict of told values -/
abbrev Kv := List (L2.Key × D)
def vi : Option D → Int
  | some (.int v) => v
  | _ => 0
def tau (kvs : Kv) (q : Nat) : Int := vi (valD kvs (.inl (q : Int)))
def has (kvs : Kv) (q : Nat) : Prop := ∃ v : Int, valD kvs (.inl (q : Int)) = some (.int v)
def TI (kvs : Kv) : Prop := ∀ (k : L2.Key) (d : D), valD kvs k = some d → ∃ v : Int, d = .int v ∧ v.natAbs ≤ 3
theorem TI.bd {kvs : Kv} (h : TI kvs) (q : Nat) : (tau kvs q).natAbs ≤ 3 := by
  unfold tau
  cases e : valD kvs (.inl (q : Int)) with
  | none => exact Nat.zero_le _
  | some d =>
    obtain ⟨v, rfl, hv⟩ := h _ _ e
    exact hv
theorem valD_none {kvs : Kv} {k : L2.Key} (h : valD kvs k = none) : (kvs.any fun kv => decide (kv.1 = k)) = false := by
  unfold valD at h
  rw [Option.map_eq_none_iff, List.find?_eq_none] at h
  rw [List.any_eq_false]
  exact fun kv hk => h kv hk
theorem valD_put {kvs : Kv} {k : L2.Key} {d : D} (h : valD kvs k = none) (k' : L2.Key) : valD (putD kvs k d) k' = if k' = k then some d else valD kvs k' := by
  unfold putD
  rw [valD_none h, if_neg Bool.false_ne_true]
  unfold valD at h ⊢
  rw [List.find?_append]
  by_cases e : k' = k
  · subst e
    rw [Option.map_eq_none_iff] at h
    rw [if_pos rfl, h]
    simp
  · rw [if_neg e]
    have e2 : (List.find? (fun kv => decide (kv.1 = k')) [(k, d)]) = none := by
      rw [List.find?_eq_none]
      intro x hx
      rw [List.mem_singleton.mp hx]
      simpa using fun z => e z.symm
    rw [e2, Option.or_none]
theorem has_put {kvs : Kv} {q : Nat} {d : D} (h : valD kvs (.inl (q : Int)) = none) {q' : Nat} (h' : has kvs q') : has (putD kvs (.inl (q : Int)) d) q' ∧ tau (putD kvs (.inl (q : Int)) d) q' = tau kvs q' := by
  obtain ⟨v, hv⟩ := h'
  have ne : ¬ ((Sum.inl (q' : Int) : L2.Key) = .inl (q : Int)) := fun z => by rw [z, h] at hv; cases hv
  have e := valD_put (d := d) h (.inl (q' : Int))
  rw [if_neg ne] at e
  refine ⟨⟨v, by rw [e]; exact hv⟩, ?_⟩
  unfold tau
  rw [e]
theorem fold_congr {τ τ' : Nat → Int} : ∀ (l : List Nat) (c : Int), (∀ q ∈ l, τ' q = τ q) → l.foldl (fun w q => w * τ' q) c = l.foldl (fun w q => w * τ q) c
  | [], _, _ => rfl
  | q :: l, c, h => by
    rw [List.foldl_cons, List.foldl_cons, h q List.mem_cons_self]
    exact fold_congr l _ fun x hx => h x (List.mem_cons_of_mem _ hx)
theorem fold_bd {τ : Nat → Int} (h : ∀ q, (τ q).natAbs ≤ 3) : ∀ (l : List Nat) (c : Int) (b : Nat), c.natAbs ≤ b → (l.foldl (fun w q => w * τ q) c).natAbs ≤ b * 3 ^ l.length
  | [], c, b, hc => by simpa using hc
  | q :: l, c, b, hc => by
    rw [List.foldl_cons, List.length_cons]
    refine Nat.le_trans (fold_bd h l (c * τ q) (b * 3) (by rw [Int.natAbs_mul]; exact Nat.mul_le_mul hc (h q))) ?_
    rw [Nat.pow_succ, Nat.mul_comm (3 ^ l.length) 3, Nat.mul_assoc]
    exact Nat.le_refl _
theorem pp_len : ∀ n < 41, (pps n).length ≤ 5 := by decide +kernel
theorem strip_mul {f l a p l' a' : Nat} (h : stripF f l a p = some (l', a')) : l' * a' = l * a := by
  induction f generalizing l a with
  | zero => cases h
  | succ f ih =>
    unfold stripF at h
    split at h
    · next e =>
      rw [ih h]
      have := Nat.div_add_mod l p
      rw [e, Nat.add_zero] at this
      rw [Nat.mul_comm a p, ← Nat.mul_assoc, Nat.mul_comm (l / p) p, this]
    · cases h; rfl
/-- what is told is enough for the rows so far -/
structure St33 where
  f : Nat
  l : Nat
  p : Nat
  done : List Nat
  r : List Nat
  kvs : Kv
  cs : List D
  s8 : Option SV
def rowW (kvs : Kv) (j : Nat) : List Int := (rg j).map (wor (tau kvs))
def Enough (kvs : Kv) (j : Nat) : Prop := ∀ i ∈ rg j, ∀ q ∈ pps i, has kvs q
theorem rowW_put {kvs : Kv} {j q : Nat} {d : D} (h : valD kvs (.inl (q : Int)) = none) (he : Enough kvs j) : Enough (putD kvs (.inl (q : Int)) d) j ∧ rowW (putD kvs (.inl (q : Int)) d) j = rowW kvs j := by
  refine ⟨fun i hi x hx => (has_put h (he i hi x hx)).1, ?_⟩
  unfold rowW
  refine List.map_congr_left fun i hi => ?_
  unfold wor
  exact fold_congr _ _ fun x hx => (has_put h (he i hi x hx)).2
def wD (kvs : Kv) (done : List Nat) : Int := done.foldl (fun w q => w * tau kvs q) 1
def sp_law_product : MSpec := fun cs ds Q => match ds with
  | [.int m] => (HandOk cs ∧ 1 ≤ m ∧ m ≤ 40) ∧ ∀ a : List Int, a.length = m.toNat → Sm 243 a → IsP a.length (A a) → ∀ cs', HandOk cs' → Q (iT a) cs'
  | _ => False
theorem len_law_product : ∀ cs ds Q, sp_law_product cs ds Q → ds.length + 1 = 2 := fun cs ds Q h => by
  unfold sp_law_product at h
  split at h <;> first | rfl | exact h.elim
def w_law_product : WS := wSeq (wPar [2, 3] (wFCons (wDNew) (wFCons (wLst (wNil)) (wNil)))) (wSeq (wFor (wRange2 (wCons (wC (.int 1)) (wCons (wOp opAdd (wVar 1) (wC (.int 1)))
    (wNil)))) (wgName 4) (wSeq (wPar [5, 6, 7] (wFCons (wVar 4) (wFCons (wC (.int 1)) (wFCons (wC (.int 2)) (wNil))))) (wSeq (wWhile (wTest (wOp opGt (wVar 5) (wC (.int 1)))) (wSeq
    (wSet 8 (wC (.int 1))) (wSeq (wWhile (wTest (wOp opEq (wOp opMod (wCB bInt (wCons (wVar 5) (wNil))) (wVar 7)) (wC (.int 0)))) (wPar [5, 8] (wFCons (wOp opFdiv (wVar 5) (wVar
    7)) (wFCons (wOp opMul (wVar 8) (wVar 7)) (wNil))))) (wSeq (wIfS (wTest (wOp opGt (wVar 8) (wC (.int 1)))) (wSeq (wIfS (wTest (wDIn true (wVar 8) 2)) (wDPut 2 (wVar 8) (wOp
    opSub (wCallM sp_law_draw 0 (wCons (wC (.int 7)) (wNil))) (wC (.int 3)))) (wNext)) (wSet 6 (wOp opMul (wVar 6) (wDGet 2 (wVar 8))))) (wNext)) (wSet 7 (wOp opAdd (wVar 7) (wC
    (.int 1)))))))) (wDrop (wAppend 3 (wVar 6)))))) (wRet (wCB bTuple (wCons (wVar 3) (wNil)))))
theorem ok_law_product : ∀ p cs ds Qd, sp_law_product cs ds Qd → w_law_product (endsM p Qd) (startM 9 p cs ds) := fun p cs ds Qd h => by
  unfold sp_law_product at h
  split at h
  · next m =>
    obtain ⟨⟨hh, m0, m1⟩, h⟩ := h
    obtain ⟨m, rfl⟩ := Int.eq_ofNat_of_zero_le (show 0 ≤ m by omega)
    simp only [Int.ofNat_eq_natCast, Int.toNat_natCast] at h m0 m1
    unfold w_law_product
    refine wSeq_by (fun Γ => Γ = some (.own (some p) cs) :: some (.imm (eN m)) :: some (.dic ⟨false, []⟩) :: some (.own none []) :: List.replicate 5 none) (fun N hN => ?_) (fun Γ hp => ?_)
    · walk_at "pd"
      simp only [wDNew]
      (try walk_at "pd")
      exact ⟨Nat.zero_le _, hN _ rfl⟩
    subst hp
    walk_at "pd"
    refine ⟨in62_of (by omega) (by omega), in62_of (by omega) (by omega), ?_⟩
    rw [show ((m : Int) + 1 - 1).toNat = m by omega, rangeD_N]
    refine forGo_of eN (fun items Γ => ∃ (j : Nat) (kvs : Kv) (cs : List D) (s4 s5 s6 s7 s8 : Option SV), rg j ++ items = rg m ∧ TI kvs ∧ kvs.length ≤ 60 * j ∧ Enough kvs j ∧ HandOk cs ∧ Γ = [some (.own (some p) cs), some (.imm (eN m)), some (.dic ⟨false, kvs⟩), some (.own none ((rowW kvs j).map PyData.int)), s4, s5, s6, s7, s8])
      (fun n ns Γ N2 hi hN2 => ?_) (fun Γ hi => ?_) ⟨0, [], cs, none, none, none, none, none, rfl, (fun k d z => absurd z (by simp [valD])), Nat.le_refl _, (fun i hi => absurd hi (by simp [rg])), hh, rfl⟩
    · obtain ⟨j, kvs, cs, s4, s5, s6, s7, s8, hd, hT, hkl, hE, hh, rfl⟩ := hi
      obtain ⟨n0, n1⟩ := rg_mem.mp (show n ∈ rg m by rw [← hd]; simp)
      have hk : n = j + 1 := by
        have e1 : (rg m)[j]? = some n := by
          rw [← hd, List.getElem?_append_right (by rw [rg_len]; exact Nat.le_refl _), rg_len, Nat.sub_self]
          rfl
        have hk2 : j < m := by
          have := (List.getElem?_eq_some_iff.mp e1).1
          rwa [rg_len] at this
        unfold rg at e1
        rw [List.getElem?_map, List.getElem?_range hk2] at e1
        cases e1
        rfl
      subst hk
      simp only [wgName, List.set_cons_succ, List.set_cons_zero]
      refine wSeq_by (fun Γ => Γ = [some (.own (some p) cs), some (.imm (eN m)), some (.dic ⟨false, kvs⟩), some (.own none ((rowW kvs j).map PyData.int)), some (.imm (eN (j + 1))), some (.imm (eN (j + 1))), some (.imm (.int 1)), some (.imm (.int 2)), s8]) (fun N hN => ?_) (fun Γ hp => ?_)
      · walk_at "pd"
        exact hN _ rfl
      subst hp
      refine wSeq_by (fun Γ => ∃ (kvs : Kv) (cs : List D) (s5 s7 s8 : Option SV), TI kvs ∧ kvs.length ≤ 60 * (j + 1) ∧ Enough kvs (j + 1) ∧ HandOk cs ∧ Γ = [some (.own (some p) cs), some (.imm (eN m)), some (.dic ⟨false, kvs⟩), some (.own none ((rowW kvs j).map PyData.int)), some (.imm (eN (j + 1))), s5, some (.imm (.int (wor (tau kvs) (j + 1)))), s7, s8]) (fun N hN => ?_) (fun Γ hp => ?_)
      · refine wWhile_st (α := St33) (fun q => [some (.own (some p) q.cs), some (.imm (eN m)), some (.dic ⟨false, q.kvs⟩), some (.own none ((rowW q.kvs j).map PyData.int)), some (.imm (eN (j + 1))), some (.imm (eN q.l)), some (.imm (.int (wD q.kvs q.done))), some (.imm (eN q.p)), q.s8])
          (fun q => ppF q.f q.l q.p = some q.r ∧ q.done ++ q.r = pps (j + 1) ∧ TI q.kvs ∧ q.kvs.length + q.f ≤ 60 * (j + 1) ∧ Enough q.kvs j ∧ (∀ x ∈ q.done, has q.kvs x) ∧ HandOk q.cs ∧ 1 ≤ q.l ∧ q.l ≤ 40 ∧ 2 ≤ q.p ∧ q.p + q.f ≤ 62) (fun q => q.f) (fun q N3 hq hN3 => ?_)
          (a := ⟨60, j + 1, 2, [], pps (j + 1), kvs, cs, s8⟩) ⟨pp_ok (j + 1) (by omega) n0, rfl, hT, by simp only; omega, hE, (fun x hx => absurd hx (by simp)), hh, by simp only; omega, by simp only; omega, by simp only; omega, by simp only; omega⟩
        obtain ⟨f, l, pr, done, r, kvs, cs, s8⟩ := q
        obtain ⟨q1, q2, q3, q4, q5, q6, q7, q8, q9, q10, q11⟩ := hq
        simp only at q1 q2 q3 q4 q5 q6 q7 q8 q9 q10 q11 hN3
        cases f with
        | zero => cases q1
        | succ f =>
          unfold ppF at q1
          walk_at "pd"
          by_cases c : 1 < l
          case neg =>
            rw [if_neg c] at q1
            cases q1
            rw [List.append_nil] at q2
            rw [if_neg (by omega)]
            (try walk_at "pd")
            have ew : wD kvs done = wor (tau kvs) (j + 1) := by
              unfold wor
              rw [← q2]
              rfl
            rw [ew]
            refine hN _ ⟨kvs, cs, _, _, _, q3, by omega, fun i hi x hx => ?_, q7, rfl⟩
            by_cases e : i = j + 1
            · subst e
              exact q6 x (by rw [q2]; exact hx)
            · exact q5 i (rg_mem.mpr (by have := rg_mem.mp hi; omega)) x hx
          rw [if_pos c] at q1
          rw [if_pos (by omega)]
          (try walk_at "pd")
          cases hs : stripF 20 l 1 pr with
          | none => rw [hs] at q1; cases q1
          | some res =>
          obtain ⟨l', y'⟩ := res
          rw [hs] at q1
          simp only at q1
          have hm := strip_mul hs
          rw [Nat.mul_one] at hm
          have l0' : 1 ≤ l' := by
            rcases Nat.eq_zero_or_pos l' with z | z
            · rw [z, Nat.zero_mul] at hm; omega
            · exact z
          have y0' : 1 ≤ y' := by
            rcases Nat.eq_zero_or_pos y' with z | z
            · rw [z, Nat.mul_zero] at hm; omega
            · exact z
          have l1' : l' ≤ l := by rw [← hm]; exact Nat.le_mul_of_pos_right _ y0'
          have y1' : y' ≤ l := by rw [← hm]; exact Nat.le_mul_of_pos_left _ l0'
          obtain ⟨r', hr', hr2⟩ := Option.map_eq_some_iff.mp q1
          refine wWhile_st (α := Nat × Nat × Nat) (fun q => [some (.own (some p) cs), some (.imm (eN m)), some (.dic ⟨false, kvs⟩), some (.own none ((rowW kvs j).map PyData.int)), some (.imm (eN (j + 1))), some (.imm (eN q.2.1)), some (.imm (.int (wD kvs done))), some (.imm (eN pr)), some (.imm (eN q.2.2))])
            (fun q => stripF q.1 q.2.1 q.2.2 pr = some (l', y') ∧ q.2.1 * q.2.2 = l) (fun q => q.1) (fun q N4 hq hN4 => ?_) (a := (20, l, 1)) ⟨hs, Nat.mul_one l⟩
          obtain ⟨t, x, y⟩ := q
          obtain ⟨r1, r2⟩ := hq
          simp only at r1 r2 hN4
          have x0 : 1 ≤ x := by
            rcases Nat.eq_zero_or_pos x with z | z
            · rw [z, Nat.zero_mul] at r2; omega
            · exact z
          have y0 : 1 ≤ y := by
            rcases Nat.eq_zero_or_pos y with z | z
            · rw [z, Nat.mul_zero] at r2; omega
            · exact z
          have x1 : x ≤ l := by rw [← r2]; exact Nat.le_mul_of_pos_right _ y0
          have y1 : y ≤ l := by rw [← r2]; exact Nat.le_mul_of_pos_left _ x0
          cases t with
          | zero => cases r1
          | succ t =>
            unfold stripF at r1
            walk_at "pd"
            refine ⟨by omega, ?_⟩
            rw [imod]
            by_cases d2 : x % pr = 0
            · rw [if_pos d2] at r1
              rw [if_pos (by omega)]
              have hx : x / pr * pr = x := Nat.div_mul_cancel (Nat.dvd_of_mod_eq_zero d2)
              have e2 : (y : Int) * (pr : Int) = ((y * pr : Nat) : Int) := by rw [Int.natCast_mul]
              rw [idiv, e2]
              have r3 : x / pr * (y * pr) = l := by rw [Nat.mul_comm y pr, ← Nat.mul_assoc, hx, r2]
              refine ⟨div64 (by omega) (by omega), mulL (by omega) (by omega), hN4 (t, x / pr, y * pr) ⟨r1, r3⟩ (by simp only; omega)⟩
            · rw [if_neg d2] at r1
              cases r1
              rw [if_neg (by omega)]
              (try walk_at "pd")
              by_cases g : 1 < y'
              case neg =>
                rw [if_neg g] at hr2
                subst hr2
                rw [if_neg (by omega)]
                exact hN3 ⟨f, l', pr + 1, done, r', kvs, cs, _⟩ ⟨hr', q2, q3, by simp only; omega, q5, q6, q7, x0, by simp only; omega, by simp only; omega, by simp only; omega⟩ (by simp only; omega)
              rw [if_pos g] at hr2
              subst hr2
              rw [if_pos (by omega)]
              have q2' : (done ++ [y']) ++ r' = pps (j + 1) := by rw [← q2]; simp
              simp only [wDIn, wDPut, wDGet, wDic, asKey, keyD]
              (try walk_at "pd")
              by_cases hv : valD kvs (.inl (y' : Int)) = none
              · rw [if_pos (by rw [hv]; rfl)]
                simp only [sp_law_draw]
                refine ⟨⟨q7, by decide, by decide⟩, fun v v0 v1 cs2 h2 => ?_⟩
                (try walk_at "pd")
                (try simp only [wDPut, wDGet, wDic, asKey, keyD])
                (try walk_at "pd")
                obtain ⟨rE, rR⟩ := rowW_put (d := .int (v - 3)) hv q5
                have vy : valD (putD kvs (.inl (y' : Int)) (.int (v - 3))) (.inl (y' : Int)) = some (.int (v - 3)) := by rw [valD_put hv, if_pos rfl]
                have hT2 : TI (putD kvs (.inl (y' : Int)) (.int (v - 3))) := fun k d z => by
                  rw [valD_put hv] at z
                  split at z
                  · cases z
                    exact ⟨_, rfl, by omega⟩
                  · exact q3 k d z
                have hl2 : (putD kvs (.inl (y' : Int)) (.int (v - 3))).length = kvs.length + 1 := by
                  unfold putD
                  rw [valD_none hv, if_neg Bool.false_ne_true, List.length_append]
                  rfl
                have wd : wD (putD kvs (.inl (y' : Int)) (.int (v - 3))) done = wD kvs done := fold_congr _ _ fun x hx => (has_put hv (q6 x hx)).2
                have hy : has (putD kvs (.inl (y' : Int)) (.int (v - 3))) y' := ⟨_, vy⟩
                have ty : tau (putD kvs (.inl (y' : Int)) (.int (v - 3))) y' = v - 3 := by unfold tau; rw [vy]; rfl
                have h6 : ∀ x ∈ done ++ [y'], has (putD kvs (.inl (y' : Int)) (.int (v - 3))) x := fun x hx => by
                  rcases List.mem_append.mp hx with hx | hx
                  · exact (has_put hv (q6 x hx)).1
                  · rw [List.mem_singleton.mp hx]; exact hy
                have hb := hT2.bd y'
                refine ⟨by rw [sizeLine_eq]; omega, ?_⟩
                generalize putD kvs (.inl (y' : Int)) (.int (v - 3)) = kv2 at *
                (try simp only [wDGet, wDic, asKey, keyD, vy])
                (try walk_at "pd")
                (try simp only [vy])
                rw [← rR, ← wd]
                have ew : wD kv2 done * (v - 3) = wD kv2 (done ++ [y']) := by
                  unfold wD
                  rw [List.foldl_append, List.foldl_cons, List.foldl_nil, ty]
                rw [ew]
                refine ⟨mulR (by omega), ?_⟩
                exact hN3 ⟨f, l', pr + 1, done ++ [y'], r', kv2, cs2, _⟩ ⟨hr', q2', hT2, by simp only; omega, rE, h6, h2, x0, by simp only; omega, by simp only; omega, by simp only; omega⟩ (by simp only; omega)
              · obtain ⟨d, hv⟩ := Option.ne_none_iff_exists'.mp hv
                obtain ⟨v, rfl, vb⟩ := q3 _ _ hv
                rw [if_neg (by rw [hv]; exact Bool.false_ne_true)]
                (try simp only [wDGet, wDic, asKey, keyD, hv])
                (try walk_at "pd")
                (try simp only [hv])
                have ty : tau kvs y' = v := by unfold tau; rw [hv]; rfl
                have h6 : ∀ x ∈ done ++ [y'], has kvs x := fun x hx => by
                  rcases List.mem_append.mp hx with hx | hx
                  · exact q6 x hx
                  · rw [List.mem_singleton.mp hx]; exact ⟨v, hv⟩
                have ew : wD kvs done * v = wD kvs (done ++ [y']) := by
                  unfold wD
                  rw [List.foldl_append, List.foldl_cons, List.foldl_nil, ty]
                rw [ew]
                refine ⟨mulR (by omega), ?_⟩
                exact hN3 ⟨f, l', pr + 1, done ++ [y'], r', kvs, cs, _⟩ ⟨hr', q2', q3, by simp only; omega, q5, h6, q7, x0, by simp only; omega, by simp only; omega, by simp only; omega⟩ (by simp only; omega)
      obtain ⟨kvs, cs, s5, s7, s8, hT, hkl, hE, hh, rfl⟩ := hp
      walk_at "pd"
      have er : ((rowW kvs j).map PyData.int) ++ [PyData.int (wor (tau kvs) (j + 1))] = (rowW kvs (j + 1)).map PyData.int := by
        unfold rowW rg
        rw [List.range_succ]
        simp only [List.map_append]
        rfl
      rw [er]
      refine ⟨by rw [sizeLine_eq]; unfold rowW; simp only [List.length_map, rg_len]; omega, hN2 _ ⟨j + 1, kvs, cs, _, _, _, _, _, ?_, hT, hkl, hE, hh, rfl⟩⟩
      rw [← hd]
      unfold rg
      rw [List.range_succ, List.map_append, List.append_assoc]
      rfl
    · obtain ⟨j, kvs, cs, s4, s5, s6, s7, s8, hd, hT, hkl, hE, hh, rfl⟩ := hi
      rw [List.append_nil] at hd
      have : j = m := by rw [← rg_len j, hd, rg_len]
      subst this
      walk_at "pd"
      have el : (rowW kvs j).length = j := by unfold rowW; rw [List.length_map, rg_len]
      refine h (rowW kvs j) el (fun x hx => ?_) ?_ cs hh
      · obtain ⟨i, hi, rfl⟩ := List.mem_map.mp hx
        have := rg_mem.mp hi
        have h5 := pp_len i (by omega)
        have b := fold_bd (fun q => hT.bd q) (pps i) 1 1 (by decide)
        rw [Nat.one_mul] at b
        exact Nat.le_trans b (Nat.le_trans (Nat.pow_le_pow_right (by decide) h5) (by decide))
      · rw [el]
        have hw := wor_prod (tau kvs) j (by omega)
        refine ⟨?_, fun x y x1 y1 hxy g => ?_⟩
        · unfold rowW
          rw [A_map _ (by decide) (by omega)]
          exact hw.1
        · have hx : x ≤ j := Nat.le_trans (Nat.le_mul_of_pos_right x y1) hxy
          have hy : y ≤ j := Nat.le_trans (Nat.le_mul_of_pos_left y x1) hxy
          unfold rowW
          rw [A_map _ (Nat.mul_pos x1 y1) hxy, A_map _ x1 hx, A_map _ y1 hy]
          exact hw.2 x y x1 y1 hxy g
  · exact h.elim
end T
end

section
set_option maxRecDepth 100000
set_option maxHeartbeats 1000000
set_option exponentiation.threshold 2000
/-! C33e: the whole. -/
namespace T
open PySem PySem.Spec L2 Pd
open PyProof.Rows hiding St
set_option autoImplicit false
local macro_rules | `(tactic| walk_at "pd") => `(tactic| try simp only [wSeq, wSet, wRet, wRetO, wCallO, wRetN, wDrop, wIfS, wNext, wNever, wBreak, wCont, wAsg, wgName, wgNil, wgCons, wgTup, wPar, wFCons, wNil, wCons, preps, prep, setAll, wVar, wC, wOp, wUn, wTest, wTruth, truD, wAnd, wOr, wNot, wAndV, wOrV, wNotV, wIf, wChain,
  wTup, wLst, wCB, wNoPart, wPart, wSl, wIsi, wIsi2, wCall, wCallM, wOwn, wAppend, wExtend, wPop, wCount, wSetIx, wAug, wFor, wSq, wRange1, wRange2, wZip, wEnum, wLc, noOwn, wYes, asInt, seqD, rs, rsv, stl, fz, fzs, rss, isLst,
  opAdd, opSub, opMul, opFdiv, opMod, opPow, opLt, opLe, opGt, opGe, opEq, opNe, opIn, opNotIn, opIs, opIsNot, isNone, opNeg, opIx, opSl, bLen, bAbs, bInt, bSum, bMax, bMin, bAll, bAny, bSorted, bTuple, bList, bMax2, bMin2, bRepr, ipAdd, ipSub, isD_int_none, isD_int_bool, isD_int_int, isD_int_str, isD_int_list, isD_int_tuple, isD_bool_none, isD_bool_bool, isD_bool_int, isD_bool_str, isD_bool_list, isD_bool_tuple, isD_str_none, isD_str_bool, isD_str_int, isD_str_str, isD_str_list, isD_str_tuple, isD_list_none, isD_list_bool, isD_list_int, isD_list_str, isD_list_list, isD_list_tuple, isD_tuple_none, isD_tuple_bool, isD_tuple_int, isD_tuple_str, isD_tuple_list, isD_tuple_tuple, isD_dict_none, isD_dict_bool, isD_dict_int, isD_dict_str, isD_dict_list, isD_dict_tuple, flatD, at5_0, at5_1, at5_2, at5_3, at5_4, ix5_1, ix5_2, ix5_3, ix5_4,
  wipeD, back, startD, endsP, endsO, startM, endsM, own0, List.map_cons, List.map_nil, List.nil_append, List.cons_append, List.length_cons, List.length_nil, List.replicate_succ, List.replicate_zero, List.getElem?_cons_zero, List.getElem?_cons_succ, List.getElem?_nil, List.set_cons_zero, List.set_cons_succ, Nat.sub_zero, Nat.reduceSub, Int.reduceToNat, Nat.reduceAdd, Nat.zero_add,
  shaped_int, eqv_int, shaped_bool, eqv_bool, eqv_str, BEq.rfl, true_and, and_true, if_true, if_false, Bool.false_eq_true, Bool.true_eq_false, Bool.and_true, Bool.true_and, Bool.and_false, Bool.false_and, Bool.not_true, Bool.not_false, reduceIte, decide_eq_true_eq, decide_eq_false_iff_not, Option.getD_some, Option.getD_none, beq_iff_eq, Bool.or_true, Bool.true_or, Bool.or_false, Bool.false_or])

theorem if_same {a b : D} {p q : Prop} (e : a = b) (h : q) : if (!a.shown == b.shown) = true then p else q := by
  subst e
  rw [if_neg (by simp)]
  exact h
theorem if_eqv {a b : List Int} {p q : Prop} (e : a = b) (h : q) : if (!PyData.eqv (iT a) (iT b)) = true then p else q := by
  subst e
  rw [eqv_intsT, decide_eq_true rfl, if_neg (by decide)]
  exact h
theorem sum_abs {c : Nat} : ∀ {l : List Int}, (∀ x ∈ l, x.natAbs ≤ c) → l.sum.natAbs ≤ l.length * c
  | [], _ => Nat.zero_le _
  | x :: l, h => by
    have h1 := h x List.mem_cons_self
    have h2 := sum_abs (c := c) (l := l) fun y hy => h y (List.mem_cons_of_mem _ hy)
    rw [List.sum_cons, List.length_cons, Nat.succ_mul]
    omega
theorem Sm.at {c : Nat} {a : List Int} (h : Sm c a) (d : Nat) : (A a d).natAbs ≤ c := by
  unfold A
  rw [List.getD_eq_getElem?_getD]
  cases e : a[d - 1]? with
  | none => exact Nat.zero_le _
  | some x => exact h x (List.mem_of_getElem? e)
theorem tgs_len (a b : List Int) : (tgs a b).length = a.length := by unfold tgs; rw [List.length_map, rg_len]
theorem tgs_sm {a b : List Int} {c e : Nat} (ha : Sm c a) (hb : Sm e b) (hl : a.length ≤ 40) : Sm (40 * (c * e)) (tgs a b) := fun x hx => by
  obtain ⟨n, hn, rfl⟩ := List.mem_map.mp hx
  unfold conv
  have h1 := sum_abs (c := c * e) (l := (og n).map fun d => A a d * A b (n / d)) fun y hy => by
    obtain ⟨d, _, rfl⟩ := List.mem_map.mp hy
    rw [Int.natAbs_mul]
    exact Nat.mul_le_mul (ha.at d) (hb.at _)
  rw [List.length_map] at h1
  have h2 := og_len n
  have h3 := rg_mem.mp hn
  exact Nat.le_trans h1 (Nat.mul_le_mul_right _ (by omega))
theorem ok_T {a : List Int} {c : Nat} (h : Sm c a) (hc : c < 100000000000) (hl : a.length ≤ 1000) : reprOk (iT a) := by
  refine reprOk_of (nz_intsT fun i hi => ?_) ?_ (by decide)
  · have := h i hi
    exact Nat.lt_trans (show i.natAbs < 100000000000 by omega) (by decide)
  · omega
theorem tgs_comm {a b : List Int} (h0 : 1 ≤ a.length) (h1 : a.length ≤ 40) (h2 : b.length = a.length) : tgs b a = tgs a b := by
  unfold tgs
  rw [h2]
  refine List.map_congr_left fun n hn => ?_
  have := rg_mem.mp hn
  exact conv_comm this.1 (by omega) _ _
theorem A_tgs {a b : List Int} {k : Nat} (h0 : 1 ≤ k) (h1 : k ≤ a.length) : A (tgs a b) k = conv (A a) (A b) k := A_map _ h0 h1
theorem tgs_assoc {a b c : List Int} (h0 : 1 ≤ a.length) (h1 : a.length ≤ 40) (h2 : b.length = a.length) : tgs (tgs a b) c = tgs a (tgs b c) := by
  have e : tgs (tgs a b) c = (rg a.length).map (conv (A (tgs a b)) (A c)) := by
    unfold tgs
    rw [List.length_map, rg_len]
  rw [e]
  show _ = (rg a.length).map (conv (A a) (A (tgs b c)))
  refine List.map_congr_left fun n hn => ?_
  have := rg_mem.mp hn
  rw [conv_congr (f' := conv (A a) (A b)) (g' := A c) (m := a.length) this.2 (fun k k1 k2 => A_tgs k1 k2) (fun _ _ _ => rfl)]
  rw [conv_congr (f := A a) (f' := A a) (g := A (tgs b c)) (g' := conv (A b) (A c)) (m := a.length) this.2 (fun _ _ _ => rfl) (fun k k1 k2 => A_tgs k1 (by omega))]
  exact conv_assoc this.1 (by omega) _ _ _
def ones (m : Nat) : List Int := List.replicate m 1
def firsts (m : Nat) : List Int := 1 :: List.replicate (m - 1) 0
theorem ones_at {m k : Nat} (h0 : 1 ≤ k) (h1 : k ≤ m) : A (ones m) k = 1 := by
  unfold A ones
  rw [List.getD_eq_getElem?_getD, List.getElem?_replicate, if_pos (by omega)]
  rfl
theorem firsts_at {m k : Nat} (h0 : 1 ≤ k) (h1 : k ≤ m) : A (firsts m) k = one1 k := by
  obtain ⟨k, rfl⟩ : ∃ j, k = j + 1 := ⟨k - 1, by omega⟩
  unfold A firsts one1
  rw [Nat.add_sub_cancel, List.getD_eq_getElem?_getD]
  cases k with
  | zero => rfl
  | succ k =>
    rw [List.getElem?_cons_succ, List.getElem?_replicate, if_pos (by omega), if_neg (by omega)]
    rfl
theorem firsts_len {m : Nat} (h : 1 ≤ m) : (firsts m).length = m := by unfold firsts; rw [List.length_cons, List.length_replicate]; omega
theorem firsts_map {m : Nat} (h : 1 ≤ m) : firsts m = (rg m).map one1 := by
  rw [← A_ext (a := firsts m), firsts_len h]
  refine List.map_congr_left fun n hn => ?_
  have := rg_mem.mp hn
  exact firsts_at this.1 this.2
theorem over_ones (a : List Int) : tgs a (ones a.length) = over a := by
  unfold tgs over
  refine List.map_congr_left fun n hn => ?_
  have hn := rg_mem.mp hn
  unfold conv
  refine sum_congr fun d hd => ?_
  obtain ⟨_, _, _, _, _, e, c⟩ := og_mem hd
  rw [ones_at c (by omega), Int.mul_one]
theorem over_len (a : List Int) : (over a).length = a.length := by unfold over; rw [List.length_map, rg_len]
theorem back_over {a : List Int} (h1 : a.length ≤ 40) : back (over a) = a := by
  have e : back (over a) = (rg a.length).map (A a) := by
    unfold back
    rw [over_len]
    refine List.map_congr_left fun n hn => ?_
    have := rg_mem.mp hn
    rw [conv_congr (f := sg) (f' := sg) (g := A (over a)) (g' := fun k => ((og k).map (A a)).sum) (m := a.length) this.2 (fun _ _ _ => rfl) (fun k k1 k2 => A_map _ k1 k2)]
    exact conv_back this.1 (by omega) _
  rw [e]
  exact A_ext
theorem tgs_first {a : List Int} (h1 : a.length ≤ 40) : tgs a (firsts a.length) = a := by
  have e : tgs a (firsts a.length) = (rg a.length).map (A a) := by
    unfold tgs
    refine List.map_congr_left fun n hn => ?_
    have := rg_mem.mp hn
    rw [conv_congr (f := A a) (f' := A a) (g := A (firsts a.length)) (g' := one1) (m := a.length) this.2 (fun _ _ _ => rfl) (fun k k1 k2 => firsts_at k1 k2)]
    exact conv_first this.1 (by omega) _
  rw [e]
  exact A_ext
theorem tgs_undo {a : List Int} (h0 : 1 ≤ a.length) (h1 : a.length ≤ 40) (hv : A a 1 = 1 ∨ A a 1 = -1) : tgs a (wu (A a) a.length) = firsts a.length := by
  rw [firsts_map h0]
  unfold tgs
  refine List.map_congr_left fun n hn => ?_
  have := rg_mem.mp hn
  exact undo_conv this.1 (by omega) hv (wu_undo _ this.1 this.2 (by omega))
theorem tgs_prod {a b : List Int} (h0 : 1 ≤ a.length) (h1 : a.length ≤ 40) (h2 : b.length = a.length) (ha : IsP a.length (A a)) (hb : IsP b.length (A b)) : IsP (tgs a b).length (A (tgs a b)) := by
  rw [tgs_len]
  rw [h2] at hb
  have hc := IsP.conv h1 ha hb h0
  refine ⟨by rw [A_tgs (by decide) h0]; exact hc.1, fun x y x1 y1 h g => ?_⟩
  have hx : x ≤ a.length := Nat.le_trans (Nat.le_mul_of_pos_right x y1) h
  have hy : y ≤ a.length := Nat.le_trans (Nat.le_mul_of_pos_left y x1) h
  rw [A_tgs (Nat.mul_pos x1 y1) h, A_tgs x1 hx, A_tgs y1 hy]
  exact hc.2 x y x1 y1 h g
theorem wu_prod {a : List Int} (h0 : 1 ≤ a.length) (h1 : a.length ≤ 40) (ha : IsP a.length (A a)) : IsP (wu (A a) a.length).length (A (wu (A a) a.length)) := by
  rw [wu_len]
  exact IsP.sign h1 ha (undo_prod h1 ha fun n n1 n2 => wu_undo _ n1 n2 (by omega)) h0
theorem wu_sm {a : List Int} {c : Nat} (hs : Sm c a) (h0 : 1 ≤ a.length) (h1 : a.length ≤ 40) (ha : IsP a.length (A a)) : Sm c (wu (A a) a.length) := fun x hx => by
  have hu := undo_prod h1 ha fun n n1 n2 => wu_undo (A a) n1 n2 (by omega)
  rw [← A_ext (a := wu (A a) a.length)] at hx
  obtain ⟨n, hn, rfl⟩ := List.mem_map.mp hx
  have := rg_mem.mp hn
  rw [wu_len] at this
  rw [hu n this.1 this.2, Int.natAbs_mul]
  have e : (sg n).natAbs = 1 := by unfold sg; split <;> rfl
  rw [e, Nat.one_mul]
  exact hs.at n
theorem sp_tg {a b : List Int} (h0 : 1 ≤ a.length) (h1 : a.length ≤ 40) (h2 : b.length = a.length) (hB : Bd a ∨ Bd b) (Q : D → Prop) (q : Q (iT (tgs a b))) : sp_together [iT a, iT b] Q := ⟨a, b, ⟨rfl, rfl, h0, h1, h2, hB⟩, q⟩
theorem sp_lt {a b : List Int} (h0 : 1 ≤ a.length) (h1 : a.length ≤ 40) (h2 : b.length = a.length) (hB : Bd a ∨ Bd b) (Q : D → Prop) (q : Q (iT (tgs a b))) : sp_law_together [iT a, iT b] Q := ⟨a, b, ⟨rfl, rfl, h0, h1, h2, hB⟩, q⟩
theorem shT (a : List Int) (hl : a.length ≤ 1000) : SeqAt.shaped (iT a) = true := shaped_intsT a
def sp_law_rows_right : MSpec := fun cs ds Q => match ds with
  | [.int m] => (HandOk cs ∧ 1 ≤ m ∧ m ≤ 40) ∧ ∀ cs', HandOk cs' → Q (.bool true) cs'
  | _ => False
theorem len_law_rows_right : ∀ cs ds Q, sp_law_rows_right cs ds Q → ds.length + 1 = 2 := fun cs ds Q h => by
  unfold sp_law_rows_right at h
  split at h <;> first | rfl | exact h.elim
def w_law_rows_right : WS := wSeq (wPar [2, 3, 4] (wFCons (wCallM sp_law_row 0 (wCons (wVar 1) (wNil))) (wFCons (wCallM sp_law_row 0 (wCons (wVar 1) (wNil))) (wFCons (wCallM
    sp_law_row 0 (wCons (wVar 1) (wNil))) (wNil))))) (wSeq (wSet 5 (wCall sp_law_together (wCons (wVar 2) (wCons (wVar 3) (wNil))))) (wSeq (wIfS (wOr (wTest (wOp opNe (wCB bRepr
    (wCons (wCall sp_together (wCons (wVar 2) (wCons (wVar 3) (wNil)))) (wNil))) (wCB bRepr (wCons (wVar 5) (wNil))))) (wTest (wOp opNe (wCall sp_together (wCons (wVar 3) (wCons
    (wVar 2) (wNil)))) (wVar 5)))) (wRet (wC (.bool false))) (wNext)) (wSeq (wIfS (wTest (wOp opNe (wCall sp_together (wCons (wCall sp_together (wCons (wVar 2) (wCons (wVar 3)
    (wNil)))) (wCons (wVar 4) (wNil)))) (wCall sp_together (wCons (wVar 2) (wCons (wCall sp_together (wCons (wVar 3) (wCons (wVar 4) (wNil)))) (wNil)))))) (wRet (wC (.bool false)))
    (wNext)) (wSeq (wPar [6, 7] (wFCons (wOp opMulT (wTup (wCons (wC (.int 1)) (wNil))) (wVar 1)) (wFCons (wOp opAdd (wTup (wCons (wC (.int 1)) (wNil))) (wOp opMulT (wTup (wCons
    (wC (.int 0)) (wNil))) (wOp opSub (wVar 1) (wC (.int 1))))) (wNil)))) (wSeq (wSet 8 (wCall sp_law_together (wCons (wVar 2) (wCons (wVar 6) (wNil))))) (wSeq (wIfS (wTest (wOp
    opNe (wCB bRepr (wCons (wLst (wCons (wCall sp_over_own (wCons (wVar 2) (wNil))) (wCons (wCall sp_back_from_own (wCons (wVar 8) (wNil))) (wNil)))) (wNil))) (wCB bRepr (wCons
    (wLst (wCons (wVar 8) (wCons (wVar 2) (wNil)))) (wNil))))) (wRet (wC (.bool false))) (wNext)) (wSeq (wIfS (wTest (wOp opNe (wCall sp_back_from_own (wCons (wCall sp_over_own
    (wCons (wVar 3) (wNil))) (wNil))) (wVar 3))) (wRet (wC (.bool false))) (wNext)) (wSeq (wIfS (wOr (wTest (wOp opNe (wCall sp_together (wCons (wVar 2) (wCons (wVar 7) (wNil))))
    (wVar 2))) (wTest (wOp opNe (wCall sp_together (wCons (wVar 7) (wCons (wVar 3) (wNil)))) (wVar 3)))) (wRet (wC (.bool false))) (wNext)) (wSeq (wSet 9 (wOp opAdd (wTup (wCons
    (wCallM sp_law_any 0 (wCons (wLst (wCons (wC (.int 1)) (wCons (wUn opNeg (wC (.int 1))) (wNil)))) (wNil))) (wNil))) (wSl opSl (wVar 2) (wPart (wC (.int 1))) (wNoPart)))) (wSeq
    (wSet 10 (wCall sp_whole_undoing (wCons (wVar 9) (wNil)))) (wSeq (wIfS (wOr (wNot (wTruth (wIsi .tuple (wVar 10)))) (wOr (wTest (wOp opNe (wCB bLen (wCons (wVar 10) (wNil)))
    (wVar 1))) (wTest (wOp opNe (wCall sp_law_together (wCons (wVar 9) (wCons (wVar 10) (wNil)))) (wVar 7))))) (wRet (wC (.bool false))) (wNext)) (wSeq (wPar [11, 12] (wFCons
    (wCallM sp_law_product 0 (wCons (wVar 1) (wNil))) (wFCons (wCallM sp_law_product 0 (wCons (wVar 1) (wNil))) (wNil)))) (wRet (wAndV (wCall sp_law_is_product (wCons (wCall
    sp_together (wCons (wVar 11) (wCons (wVar 12) (wNil)))) (wNil))) (wCall sp_law_is_product (wCons (wCall sp_whole_undoing (wCons (wVar 11) (wNil))) (wNil)))))))))))))))))
theorem ok_law_rows_right : ∀ p cs ds Qd, sp_law_rows_right cs ds Qd → w_law_rows_right (endsM p Qd) (startM 13 p cs ds) := fun p cs ds Qd h => by
  unfold sp_law_rows_right at h
  split at h
  · next m =>
    obtain ⟨⟨hh, m0, m1⟩, h⟩ := h
    obtain ⟨m, rfl⟩ := Int.eq_ofNat_of_zero_le (show 0 ≤ m by omega)
    unfold w_law_rows_right
    refine wSeq_by (fun Γ => ∃ (a b c : List Int) (cs : List D), (a.length = m ∧ b.length = m ∧ c.length = m) ∧ (Sm 5 a ∧ Sm 5 b ∧ Sm 5 c) ∧ HandOk cs ∧ Γ = some (.own (some p) cs) :: some (.imm (eN m)) :: some (.imm (iT a)) :: some (.imm (iT b)) :: some (.imm (iT c)) :: List.replicate 8 none) (fun N hN => ?_) (fun Γ hp => ?_)
    · walk_at "pd"
      simp only [sp_law_row, Int.toNat_natCast]
      refine ⟨⟨hh, m0, m1⟩, fun a ha sa cs1 h1 => ?_⟩
      (try walk_at "pd")
      refine ⟨⟨h1, m0, m1⟩, fun b hb sb cs2 h2 => ?_⟩
      (try walk_at "pd")
      refine ⟨⟨h2, m0, m1⟩, fun c hc sc cs3 h3 => ?_⟩
      (try walk_at "pd")
      exact hN _ ⟨a, b, c, cs3, ⟨ha, hb, hc⟩, ⟨sa, sb, sc⟩, h3, rfl⟩
    obtain ⟨a, b, c, cs, ⟨la, lb, lc⟩, ⟨sa, sb, sc⟩, hh, rfl⟩ := hp
    have Ba := sa.bd (by decide)
    have Bb := sb.bd (by decide)
    have Bc := sc.bd (by decide)
    have sab := tgs_sm sa sb (by omega)
    have okab := ok_T sab (by decide) (by rw [tgs_len]; omega)
    refine wSeq_by (fun Γ => Γ = some (.own (some p) cs) :: some (.imm (eN m)) :: some (.imm (iT a)) :: some (.imm (iT b)) :: some (.imm (iT c)) :: some (.imm (iT (tgs a b))) :: List.replicate 7 none) (fun N hN => ?_) (fun Γ hp => ?_)
    · walk_at "pd"
      refine sp_lt (by omega) (by omega) (by omega) (.inl Ba) _ ?_
      (try walk_at "pd")
      exact hN _ rfl
    subst hp
    refine wSeq_by (fun Γ => Γ = some (.own (some p) cs) :: some (.imm (eN m)) :: some (.imm (iT a)) :: some (.imm (iT b)) :: some (.imm (iT c)) :: some (.imm (iT (tgs a b))) :: List.replicate 7 none) (fun N hN => ?_) (fun Γ hp => ?_)
    · walk_at "pd"
      refine sp_tg (by omega) (by omega) (by omega) (.inl Ba) _ ?_
      (try walk_at "pd")
      refine ⟨okab, okab, ?_⟩
      refine sp_tg (by omega) (by omega) (by omega) (.inl Bb) _ ?_
      (try walk_at "pd")
      refine ⟨shaped_intsT _, shaped_intsT _, ?_⟩
      refine if_eqv (tgs_comm (by omega) (by omega) (by omega)) ?_
      exact hN _ rfl
    subst hp
    refine wSeq_by (fun Γ => Γ = some (.own (some p) cs) :: some (.imm (eN m)) :: some (.imm (iT a)) :: some (.imm (iT b)) :: some (.imm (iT c)) :: some (.imm (iT (tgs a b))) :: List.replicate 7 none) (fun N hN => ?_) (fun Γ hp => ?_)
    · walk_at "pd"
      refine sp_tg (by omega) (by omega) (by omega) (.inl Ba) _ ?_
      (try walk_at "pd")
      refine sp_tg (by rw [tgs_len]; omega) (by rw [tgs_len]; omega) (by rw [tgs_len]; omega) (.inr Bc) _ ?_
      (try walk_at "pd")
      refine sp_tg (by omega) (by omega) (by omega) (.inl Bb) _ ?_
      (try walk_at "pd")
      refine sp_tg (by omega) (by omega) (by rw [tgs_len]; omega) (.inl Ba) _ ?_
      (try walk_at "pd")
      refine ⟨shaped_intsT _, shaped_intsT _, ?_⟩
      refine if_eqv (tgs_assoc (by omega) (by omega) (by omega)) ?_
      exact hN _ rfl
    subst hp
    generalize some (SV.imm (iT (tgs a b))) = s5
    generalize some (SV.imm (iT c)) = s4
    refine wSeq_by (fun Γ => Γ = some (.own (some p) cs) :: some (.imm (eN m)) :: some (.imm (iT a)) :: some (.imm (iT b)) :: s4 :: s5 :: some (.imm (iT (ones m))) :: some (.imm (iT (firsts m))) :: List.replicate 5 none) (fun N hN => ?_) (fun Γ hp => ?_)
    · have hN := hN _ rfl
      have e1 : (List.replicate m [PyData.int 1]).flatten = (ones m).map PyData.int := by
        unfold ones
        rw [List.map_replicate, List.flatten_replicate_singleton]
      have e2 : (PyData.int 1) :: (List.replicate (m - 1) [PyData.int 0]).flatten = (firsts m).map PyData.int := by
        unfold firsts
        rw [List.map_cons, List.map_replicate, List.flatten_replicate_singleton]
      walk_at "pd"
      simp only [opMulT]
      have nz : (1 : Nat) ≤ sizeLine := by rw [sizeLine_eq]; decide
      have e3 : (List.replicate (m - 1) [PyData.int 0]).flatten.length = m - 1 := by rw [List.flatten_replicate_singleton, List.length_replicate]
      have e4 : ((m : Int) - 1).toNat = m - 1 := by omega
      simp only [Int.toNat_natCast, e4, e1]
      repeat (refine ⟨by first | exact nz | decide | omega | (rw [e3, sizeLine_eq]; simp only [List.length_cons, List.length_nil]; omega), ?_⟩)
      have e5 : [PyData.int 1] ++ (List.replicate (m - 1) [PyData.int 0]).flatten = (firsts m).map PyData.int := e2
      rw [e5]
      exact hN
    subst hp
    refine wSeq_by (fun Γ => Γ = some (.own (some p) cs) :: some (.imm (eN m)) :: some (.imm (iT a)) :: some (.imm (iT b)) :: s4 :: s5 :: some (.imm (iT (ones m))) :: some (.imm (iT (firsts m))) :: some (.imm (iT (over a))) :: List.replicate 4 none) (fun N hN => ?_) (fun Γ hp => ?_)
    · walk_at "pd"
      refine sp_lt (by omega) (by omega) (by unfold ones; rw [List.length_replicate]; omega) (.inl Ba) _ ?_
      rw [← la, over_ones]
      (try walk_at "pd")
      rw [la]
      exact hN _ rfl
    subst hp
    generalize some (SV.imm (iT (ones m))) = s6
    have sov : Sm 200 (over a) := by
      rw [← over_ones]
      have := tgs_sm (e := 1) sa (b := ones a.length) (fun x hx => by rw [List.eq_of_mem_replicate hx]; decide) (by omega)
      exact this
    have ok2 : reprOk (.list [iT (over a), iT a]) := by
      have n1 := nz_intsT (ns := over a) fun i hi => Nat.lt_trans (show i.natAbs < 1000 by have := sov i hi; omega) (by decide)
      have n2 := nz_intsT (ns := a) fun i hi => Nat.lt_trans (show i.natAbs < 1000 by have := sa i hi; omega) (by decide)
      rw [over_len] at n1
      refine reprOk_of (nz_list (B := 2600) (n := 1) fun y hy => ?_) (by simp only [List.length_cons, List.length_nil]; decide) (by decide)
      simp only [List.mem_cons, List.not_mem_nil, or_false] at hy
      rcases hy with rfl | rfl
      · exact n1.up (by omega) (by decide)
      · exact n2.up (by omega) (by decide)
    have spo : ∀ (x : List Int) (Q : D → Prop), x.length = m → Q (iT (over x)) → sp_over_own [iT x] Q := fun x Q hx q => ⟨x, ⟨rfl, by omega, by omega⟩, q⟩
    have spb : ∀ (x : List Int) (Q : D → Prop), x.length = m → Q (iT (back x)) → sp_back_from_own [iT x] Q := fun x Q hx q => ⟨x, ⟨rfl, by omega, by omega⟩, q⟩
    refine wSeq_by (fun Γ => Γ = some (.own (some p) cs) :: some (.imm (eN m)) :: some (.imm (iT a)) :: some (.imm (iT b)) :: s4 :: s5 :: s6 :: some (.imm (iT (firsts m))) :: some (.imm (iT (over a))) :: List.replicate 4 none) (fun N hN => ?_) (fun Γ hp => ?_)
    · walk_at "pd"
      refine spo a _ la ?_
      (try walk_at "pd")
      refine spb (over a) _ (by rw [over_len]; exact la) ?_
      rw [back_over (by omega)]
      (try walk_at "pd")
      refine ⟨by decide, ok2, by decide, ok2, ?_⟩
      exact hN _ rfl
    subst hp
    generalize some (SV.imm (iT (over a))) = s8
    refine wSeq_by (fun Γ => Γ = some (.own (some p) cs) :: some (.imm (eN m)) :: some (.imm (iT a)) :: some (.imm (iT b)) :: s4 :: s5 :: s6 :: some (.imm (iT (firsts m))) :: s8 :: List.replicate 4 none) (fun N hN => ?_) (fun Γ hp => ?_)
    · walk_at "pd"
      refine spo b _ lb ?_
      (try walk_at "pd")
      refine spb (over b) _ (by rw [over_len]; exact lb) ?_
      rw [back_over (by omega)]
      (try walk_at "pd")
      refine ⟨shaped_intsT _, shaped_intsT _, ?_⟩
      refine if_eqv rfl ?_
      exact hN _ rfl
    subst hp
    refine wSeq_by (fun Γ => Γ = some (.own (some p) cs) :: some (.imm (eN m)) :: some (.imm (iT a)) :: some (.imm (iT b)) :: s4 :: s5 :: s6 :: some (.imm (iT (firsts m))) :: s8 :: List.replicate 4 none) (fun N hN => ?_) (fun Γ hp => ?_)
    · walk_at "pd"
      have lf := firsts_len (m := m) (by omega)
      refine sp_tg (by omega) (by omega) (by omega) (.inl Ba) _ ?_
      (try walk_at "pd")
      refine ⟨shaped_intsT _, shaped_intsT _, ?_⟩
      refine if_eqv (by rw [← la]; exact tgs_first (by omega)) ?_
      refine sp_tg (by omega) (by omega) (by omega) (.inr Bb) _ ?_
      (try walk_at "pd")
      refine ⟨shaped_intsT _, shaped_intsT _, ?_⟩
      refine if_eqv (by rw [tgs_comm (a := b) (by omega) (by omega) (by omega), ← lb]; exact tgs_first (by omega)) ?_
      exact hN _ rfl
    subst hp
    generalize some (SV.imm (iT b)) = s3
    refine wSeq_by (fun Γ => ∃ (g : List Int) (cs : List D), (g.length = m ∧ Bd g ∧ (A g 1 = 1 ∨ A g 1 = -1)) ∧ HandOk cs ∧ Γ = some (.own (some p) cs) :: some (.imm (eN m)) :: some (.imm (iT a)) :: s3 :: s4 :: s5 :: s6 :: some (.imm (iT (firsts m))) :: s8 :: some (.imm (iT g)) :: List.replicate 3 none) (fun N hN => ?_) (fun Γ hp => ?_)
    · walk_at "pd"
      simp only [sp_law_any]
      refine ⟨by decide, ⟨hh, by simp, by simp⟩, fun e he cs3 h3 => ?_⟩
      have hb : ∃ b : Int, e = .int b ∧ (b = 1 ∨ b = -1) := by
        simp only [List.mem_cons, List.not_mem_nil, or_false] at he
        rcases he with rfl | rfl
        · exact ⟨1, rfl, .inl rfl⟩
        · exact ⟨-1, rfl, .inr rfl⟩
      obtain ⟨u, rfl, hu⟩ := hb
      (try walk_at "pd")
      have hcut : Pd.cutD (a.map PyData.int) (some 1) none = (a.drop 1).map PyData.int := by
        unfold Pd.cutD
        have e1 : HT.sIx (a.map PyData.int).length 0 (some 1) = 1 := by
          rw [show (some (1 : Int)) = some ((1 : Nat) : Int) from rfl, HT.sIx_nat, List.length_map]
          omega
        have e2 : HT.sIx (a.map PyData.int).length (a.map PyData.int).length none = (a.map PyData.int).length := rfl
        rw [e1, e2, List.take_of_length_le (by rw [List.length_drop]; exact Nat.le_refl _), List.map_drop]
      rw [hcut]
      have ed : (a.drop 1).length + 1 = m := by rw [List.length_drop]; omega
      refine ⟨by decide, by rw [sizeLine_eq]; simp only [List.length_map, List.length_cons, List.length_nil]; omega, ?_⟩
      refine hN _ ⟨u :: a.drop 1, cs3, ⟨by rw [List.length_cons]; exact ed, fun x hx => ?_, hu⟩, h3, rfl⟩
      rcases List.mem_cons.mp hx with rfl | hx
      · omega
      · exact Ba x (List.drop_subset _ _ hx)
    obtain ⟨g, cs, ⟨lg, Bg, hg⟩, hh, rfl⟩ := hp
    have spw : ∀ (x : List Int) (Q : D → Prop), x.length = m → Bd x → (A x 1 = 1 ∨ A x 1 = -1) → Q (iT (wu (A x) x.length)) → sp_whole_undoing [iT x] Q := fun x Q hx b v q => ⟨x, ⟨rfl, by omega, by omega, b, v⟩, q⟩
    generalize some (SV.imm (iT a)) = s2
    refine wSeq_by (fun Γ => Γ = some (.own (some p) cs) :: some (.imm (eN m)) :: s2 :: s3 :: s4 :: s5 :: s6 :: some (.imm (iT (firsts m))) :: s8 :: some (.imm (iT g)) :: some (.imm (iT (wu (A g) g.length))) :: List.replicate 2 none) (fun N hN => ?_) (fun Γ hp => ?_)
    · walk_at "pd"
      refine spw g _ lg Bg hg ?_
      (try walk_at "pd")
      exact hN _ rfl
    subst hp
    refine wSeq_by (fun Γ => Γ = some (.own (some p) cs) :: some (.imm (eN m)) :: s2 :: s3 :: s4 :: s5 :: s6 :: some (.imm (iT (firsts m))) :: s8 :: some (.imm (iT g)) :: some (.imm (iT (wu (A g) g.length))) :: List.replicate 2 none) (fun N hN => ?_) (fun Γ hp => ?_)
    · walk_at "pd"
      simp only [List.length_map, wu_len, lg]
      rw [if_neg (by simp)]
      rw [← lg]
      refine sp_lt (by omega) (by omega) (by rw [wu_len]) (.inl Bg) _ ?_
      (try walk_at "pd")
      refine ⟨shaped_intsT _, shaped_intsT _, ?_⟩
      refine if_eqv (tgs_undo (by omega) (by omega) hg) ?_
      rw [lg]
      rw [lg] at hN
      exact hN _ rfl
    subst hp
    refine wSeq_by (fun Γ => ∃ (a b : List Int) (cs : List D), (a.length = m ∧ b.length = m) ∧ (Sm 243 a ∧ Sm 243 b) ∧ (IsP a.length (A a) ∧ IsP b.length (A b)) ∧ HandOk cs ∧ ∃ s7 s9 s10 : Option SV, Γ = [some (.own (some p) cs), some (.imm (eN m)), s2, s3, s4, s5, s6, s7, s8, s9, s10, some (.imm (iT a)), some (.imm (iT b))]) (fun N hN => ?_) (fun Γ hp => ?_)
    · walk_at "pd"
      simp only [sp_law_product, Int.toNat_natCast]
      refine ⟨⟨hh, m0, m1⟩, fun a ha sa pa cs1 h1 => ?_⟩
      (try walk_at "pd")
      refine ⟨⟨h1, m0, m1⟩, fun b hb sb pb cs2 h2 => ?_⟩
      (try walk_at "pd")
      exact hN _ ⟨a, b, cs2, ⟨ha, hb⟩, ⟨sa, sb⟩, ⟨pa, pb⟩, h2, _, _, _, rfl⟩
    obtain ⟨a, b, cs, ⟨la, lb⟩, ⟨sa, sb⟩, ⟨pa, pb⟩, hh, s7, s9, s10, rfl⟩ := hp
    have spp : ∀ (x : List Int) (Q : D → Prop), x.length = m → Bd x → IsP x.length (A x) → Q (.bool true) → sp_law_is_product [iT x] Q := fun x Q hx b v q => ⟨x, ⟨rfl, by omega, by omega, b, v⟩, q⟩
    walk_at "pd"
    refine sp_tg (by omega) (by omega) (by omega) (.inl (sa.bd (by decide))) _ ?_
    (try walk_at "pd")
    refine spp _ _ (by rw [tgs_len]; exact la) ((tgs_sm sa sb (by omega)).bd (by decide)) (tgs_prod (by omega) (by omega) (by omega) pa pb) ?_
    (try walk_at "pd")
    refine spw a _ la (sa.bd (by decide)) (.inl pa.1) ?_
    (try walk_at "pd")
    refine spp _ _ (by rw [wu_len]; exact la) ((wu_sm sa (by omega) (by omega) pa).bd (by decide)) (wu_prod (by omega) (by omega) pa) ?_
    (try walk_at "pd")
    exact h _ hh
  · exact h.elim
def w_law : WS := wSeq (wSet 1 (wCallO sp_law_hand (wCons (wVar 0) (wNil)))) (wSeq (wSet 2 (wLst (wCons (wCall sp_together (wCons (wTup (wCons (wC (.int 1)) (wCons (wC (.int 2))
    (wCons (wC (.int 3)) (wCons (wC (.int 4)) (wNil)))))) (wCons (wTup (wCons (wC (.int 1)) (wCons (wC (.int 1)) (wCons (wC (.int 1)) (wCons (wC (.int 1)) (wNil)))))) (wNil))))
    (wCons (wCall sp_over_own (wCons (wTup (wCons (wC (.int 1)) (wCons (wC (.int 1)) (wCons (wC (.int 1)) (wCons (wC (.int 1)) (wCons (wC (.int 1)) (wCons (wC (.int 1))
    (wNil)))))))) (wNil))) (wNil))))) (wSeq (wSet 2 (wOp opAdd (wVar 2) (wLst (wCons (wCall sp_back_from_own (wCons (wTup (wCons (wC (.int 1)) (wCons (wC (.int 2)) (wCons (wC (.int
    2)) (wCons (wC (.int 2)) (wCons (wC (.int 2)) (wCons (wC (.int 4)) (wNil)))))))) (wNil))) (wCons (wCall sp_whole_undoing (wCons (wTup (wCons (wC (.int 1)) (wCons (wC (.int 1))
    (wCons (wC (.int 1)) (wCons (wC (.int 1)) (wNil)))))) (wNil))) (wCons (wCall sp_whole_undoing (wCons (wTup (wCons (wUn opNeg (wC (.int 1))) (wCons (wC (.int 0)) (wNil))))
    (wNil))) (wNil))))))) (wSeq (wSet 3 (wLst (wCons (wTup (wCons (wC (.int 1)) (wCons (wC (.int 3)) (wCons (wC (.int 4)) (wCons (wC (.int 5)) (wNil)))))) (wCons (wTup (wCons (wC
    (.int 1)) (wCons (wC (.int 2)) (wCons (wC (.int 2)) (wCons (wC (.int 2)) (wCons (wC (.int 2)) (wCons (wC (.int 4)) (wNil)))))))) (wCons (wTup (wCons (wC (.int 1)) (wCons (wC
    (.int 1)) (wCons (wC (.int 1)) (wCons (wC (.int 1)) (wCons (wC (.int 1)) (wCons (wC (.int 1)) (wNil)))))))) (wCons (wTup (wCons (wC (.int 1)) (wCons (wUn opNeg (wC (.int 1)))
    (wCons (wUn opNeg (wC (.int 1))) (wCons (wUn opNeg (wC (.int 1))) (wNil)))))) (wCons (wTup (wCons (wUn opNeg (wC (.int 1))) (wCons (wC (.int 0)) (wNil)))) (wNil)))))))) (wSeq
    (wIfS (wTest (wOp opNe (wCB bRepr (wCons (wVar 2) (wNil))) (wCB bRepr (wCons (wVar 3) (wNil))))) (wRet (wC (.bool false))) (wNext)) (wRet (wCB bAll (wCons (wLc (wRange1 (wCons
    (wC (.int 3)) (wNil))) (wgName 4) (wYes) (wCallM sp_law_rows_right 1 (wCons (wOp opAdd (wC (.int 1)) (wCallM sp_law_draw 1 (wCons (wC (.int 40)) (wNil)))) (wNil))) [4])
    (wNil))))))))
def due33 : List D := [.tuple [.int 1, .int 3, .int 4, .int 5], .tuple [.int 1, .int 2, .int 2, .int 2, .int 2, .int 4], .tuple [.int 1, .int 1, .int 1, .int 1, .int 1, .int 1], .tuple [.int 1, .int (-1), .int (-1), .int (-1)], .tuple [.int (-1), .int 0]]
theorem due_ok : reprOk (.list due33) := ⟨by decide +kernel, by decide +kernel, by decide +kernel, by rw [sizeLine_eq]; decide +kernel⟩
theorem told1 : tgs [1, 2, 3, 4] [1, 1, 1, 1] = [1, 3, 4, 5] ∧ over [1, 1, 1, 1, 1, 1] = [1, 2, 2, 2, 2, 4] ∧ back [1, 2, 2, 2, 2, 4] = [1, 1, 1, 1, 1, 1] ∧ wu (A [1, 1, 1, 1]) 4 = [1, -1, -1, -1] ∧ wu (A [-1, 0]) 2 = [-1, 0] := by decide +kernel
theorem bd_small {a : List Int} (h : ∀ x ∈ a, x.natAbs ≤ 100) : Bd a := (show Sm 100 a from h).bd (by decide)
theorem ok_law : ∀ ds Qd, spLaw 63 ds Qd → w_law (endsP Qd) (startD 5 ds) := fun ds Qd h => by
  unfold spLaw at h
  split at h
  · next xs =>
    obtain ⟨hx, h⟩ := h
    obtain ⟨t1, t2, t3, t4, t5⟩ := told1
    unfold w_law
    refine wSeq_by (fun Γ => ∃ (cs : List D), HandOk cs ∧ Γ = some (.imm (.dict [(.none, .list xs)])) :: some (.own none cs) :: List.replicate 3 none) (fun N hN => ?_) (fun Γ hp => ?_)
    · walk_at "pd"
      simp only [sp_law_hand]
      exact ⟨hx, fun cs hcs => hN _ ⟨cs, hcs, rfl⟩⟩
    obtain ⟨cs, hcs, rfl⟩ := hp
    refine wSeq_by (fun Γ => Γ = some (.imm (.dict [(.none, .list xs)])) :: some (.own none cs) :: some (.own none (due33.take 2)) :: List.replicate 2 none) (fun N hN => ?_) (fun Γ hp => ?_)
    · have hN := hN _ rfl
      unfold due33 at hN
      simp only [List.take_succ_cons, List.take_zero] at hN
      walk_at "pd"
      refine ⟨by decide, by decide, ?_⟩
      refine sp_tg (a := [1, 2, 3, 4]) (b := [1, 1, 1, 1]) (by decide) (by decide) rfl (.inl (bd_small (by decide))) _ ?_
      rw [t1]
      (try walk_at "pd")
      refine ⟨by decide, ?_⟩
      refine ⟨[1, 1, 1, 1, 1, 1], ⟨rfl, by decide, by decide⟩, ?_⟩
      rw [t2]
      (try walk_at "pd")
      exact ⟨by decide, hN⟩
    subst hp
    refine wSeq_by (fun Γ => Γ = some (.imm (.dict [(.none, .list xs)])) :: some (.own none cs) :: some (.own none due33) :: List.replicate 2 none) (fun N hN => ?_) (fun Γ hp => ?_)
    · have hN := hN _ rfl
      unfold due33 at hN ⊢
      simp only [List.take_succ_cons, List.take_zero]
      walk_at "pd"
      refine ⟨by decide, ?_⟩
      refine ⟨[1, 2, 2, 2, 2, 4], ⟨rfl, by decide, by decide⟩, ?_⟩
      rw [t3]
      (try walk_at "pd")
      refine ⟨by decide, ?_⟩
      refine ⟨[1, 1, 1, 1], ⟨rfl, by decide, by decide, bd_small (by decide), .inl rfl⟩, ?_⟩
      rw [show ([1, 1, 1, 1] : List Int).length = 4 from rfl, t4]
      (try walk_at "pd")
      refine ⟨by decide, ?_⟩
      refine ⟨[-1, 0], ⟨rfl, by decide, by decide, bd_small (by decide), .inr rfl⟩, ?_⟩
      rw [show ([-1, 0] : List Int).length = 2 from rfl, t5]
      (try walk_at "pd")
      exact ⟨by decide, by rw [sizeLine_eq]; decide, hN⟩
    subst hp
    refine wSeq_by (fun Γ => Γ = some (.imm (.dict [(.none, .list xs)])) :: some (.own none cs) :: some (.own none due33) :: some (.own none due33) :: List.replicate 1 none) (fun N hN => ?_) (fun Γ hp => ?_)
    · have hN := hN _ rfl
      unfold due33 at hN ⊢
      walk_at "pd"
      exact ⟨by decide, by decide, by decide, by decide, by decide, by decide, hN⟩
    subst hp
    refine wSeq_by (fun Γ => ∃ s2 s3, Γ = some (.imm (.dict [(.none, .list xs)])) :: some (.own none cs) :: s2 :: s3 :: List.replicate 1 none) (fun N hN => ?_) (fun Γ hp => ?_)
    · walk_at "pd"
      refine ⟨due_ok, due_ok, ?_⟩
      first | exact hN _ ⟨_, _, rfl⟩ | exact if_same rfl (hN _ ⟨_, _, rfl⟩)
    obtain ⟨s2, s3, rfl⟩ := hp
    walk_at "pd"
    refine ⟨in62_of (by omega) (by omega), ?_⟩
    rw [rangeD_ints]
    refine lcGo_invA PyData.int (fun Γ => ∃ cs, HandOk cs ∧ Γ = [some (.imm (.dict [(.none, .list xs)])), some (.own none cs), s2, s3, none]) (fun _ => .bool true) (fun x hx Γ hi k1 hk => ?_) (by rw [rangeI_len, sizeLine_eq]; decide) ⟨cs, hcs, rfl⟩ fun Γ hi => ?_
    · obtain ⟨cs, hcs, rfl⟩ := hi
      walk_at "pd"
      simp only [sp_law_draw]
      refine ⟨⟨hcs, by decide, by decide⟩, fun r r0 r1 cs2 h2 => ?_⟩
      (try walk_at "pd")
      simp only [sp_law_rows_right]
      refine ⟨⟨h2, by omega, by omega⟩, fun cs3 h3 => ?_⟩
      (try walk_at "pd")
      exact hk _ ⟨cs3, h3, rfl⟩
    · obtain ⟨cs, hcs, rfl⟩ := hi
      (try walk_at "pd")
      rw [show (rangeI 0 3).map (fun _ => PyData.bool true) = ((rangeI 0 3).map fun _ => true).map PyData.bool by rw [List.map_map]; rfl, withBools_map]
      exact h
  · exact h.elim
end T
end

section
set_option maxRecDepth 100000
set_option maxHeartbeats 4000000
namespace T
open PySem PySem.Spec L2 Pd
open PyProof.Rows hiding St
set_option autoImplicit false
def topS (i : Nat) : Stmt := PySem.Challenge.pw_divisorhall_k33_whole_rows_by_own_diviso.main.body.getD i (.Pass ⟨0, 0, 0, 0⟩)
abbrev s_is_integer : Stmt := topS 7
abbrev s_is_within : Stmt := topS 8
abbrev s_check_number : Stmt := topS 9
abbrev s_common : Stmt := topS 10
abbrev s_factors : Stmt := topS 11
abbrev s_grown : Stmt := topS 13
abbrev s_divisors : Stmt := topS 12
abbrev s_is_values : Stmt := topS 16
abbrev s_check_values : Stmt := topS 17
abbrev s_check_two : Stmt := topS 18
abbrev s_own_divisors : Stmt := topS 20
abbrev s_sign : Stmt := topS 21
abbrev s_together : Stmt := topS 22
abbrev s_over_own : Stmt := topS 23
abbrev s_back_from_own : Stmt := topS 24
abbrev s_whole_undoing : Stmt := topS 25
abbrev s_law_hand : Stmt := topS 27
abbrev s_law_draw : Stmt := topS 28
abbrev s_law_any : Stmt := topS 29
abbrev s_law_common : Stmt := topS 30
abbrev s_law_together : Stmt := topS 31
abbrev s_law_row : Stmt := topS 32
abbrev s_law_product : Stmt := topS 33
abbrev s_law_is_product : Stmt := topS 34
abbrev s_law_rows_right : Stmt := topS 35
abbrev s_law : Stmt := topS 36
structure Txt (K : PySem.W.Frag) (mg : Str → Option Value) : Prop where
  d_is_integer : IsDef K mg "is_integer" s_is_integer
  d_is_within : IsDef K mg "is_within" s_is_within
  d_check_number : IsDef K mg "check_number" s_check_number
  d_common : IsDef K mg "common" s_common
  d_factors : IsDef K mg "factors" s_factors
  d_grown : IsDef K mg "grown" s_grown
  d_divisors : IsDef K mg "divisors" s_divisors
  d_is_values : IsDef K mg "is_values" s_is_values
  d_check_values : IsDef K mg "check_values" s_check_values
  d_check_two : IsDef K mg "check_two" s_check_two
  d_own_divisors : IsDef K mg "own_divisors" s_own_divisors
  d_sign : IsDef K mg "sign" s_sign
  d_together : IsDef K mg "together" s_together
  d_over_own : IsDef K mg "over_own" s_over_own
  d_back_from_own : IsDef K mg "back_from_own" s_back_from_own
  d_whole_undoing : IsDef K mg "whole_undoing" s_whole_undoing
  d_law_hand : IsDef K mg "_law_hand" s_law_hand
  d_law_draw : IsDef K mg "_law_draw" s_law_draw
  d_law_any : IsDef K mg "_law_any" s_law_any
  d_law_common : IsDef K mg "_law_common" s_law_common
  d_law_together : IsDef K mg "_law_together" s_law_together
  d_law_row : IsDef K mg "_law_row" s_law_row
  d_law_product : IsDef K mg "_law_product" s_law_product
  d_law_is_product : IsDef K mg "_law_is_product" s_law_is_product
  d_law_rows_right : IsDef K mg "_law_rows_right" s_law_rows_right
  d_law : IsDef K mg "law" s_law
  n_abs : mg "abs" = none
  n_all : mg "all" = none
  n_bool : mg "bool" = none
  n_int : mg "int" = none
  n_isinstance : mg "isinstance" = none
  n_len : mg "len" = none
  n_range : mg "range" = none
  n_repr : mg "repr" = none
  n_sorted : mg "sorted" = none
  n_sum : mg "sum" = none
  n_tuple : mg "tuple" = none
  c_MOST : GInt mg "MOST" 1000000
  c_MOST_LONG : GInt mg "MOST_LONG" 200
section
variable {P : Program} {w : World} {K : PySem.W.Frag} {mg : Str → Option Value} {base : Heap}
theorem sc_is_integer : FnScope ["thing"] ["thing"] (defScope s_is_integer) := ⟨rfl, rfl, rfl, by decide +kernel, rfl, by decide +kernel, by decide +kernel⟩
theorem has_is_integer (t : Txt K mg)  : Has P w K mg base 1 "is_integer" ["thing"] (spP K sp_is_integer) :=
  has_def t.d_is_integer sc_is_integer (by decide) len_is_integer (fun _ _ _ _ _ _ us hl => match us, hl with | [_], _ => rfl) ok_is_integer fun f cdv A outer s H E hr => ⟨_,
    show DSs _ _ _ _ (w_is_integer) from ss_one (s_ret (e_and (e_isi .int t.n_isinstance t.n_int (e_var 0)) (e_one (e_not (e_isi .bool t.n_isinstance t.n_bool (e_var 0))))))⟩
theorem sc_is_within : FnScope ["thing", "low", "high"] ["thing", "low", "high"] (defScope s_is_within) := ⟨rfl, rfl, rfl, by decide +kernel, rfl, by decide +kernel, by decide +kernel⟩
theorem has_is_within (t : Txt K mg) (h_is_integer : Has P w K mg base 1 "is_integer" ["thing"] (spP K sp_is_integer)) : Has P w K mg base 2 "is_within" ["thing", "low", "high"]
    (spP K sp_is_within) :=
  has_def t.d_is_within sc_is_within (by decide) len_is_within (fun _ _ _ _ _ _ us hl => match us, hl with | [_, _, _], _ => rfl) ok_is_within fun f cdv A outer s H E hr => ⟨_,
    show DSs _ _ _ _ (w_is_within) from ss_one (s_ret (e_and (e_call h_is_integer hr (a_cons (e_var 0) (a_nil))) (e_one (e_chain c_le c_le (e_var 1) (e_var 0) (e_var 2)))))⟩
theorem sc_check_number : FnScope ["thing", "low", "high"] ["thing", "low", "high"] (defScope s_check_number) := ⟨rfl, rfl, rfl, by decide +kernel, rfl, by decide +kernel, by decide +kernel⟩
theorem has_check_number (t : Txt K mg) (h_is_within : Has P w K mg base 2 "is_within" ["thing", "low", "high"] (spP K sp_is_within)) : Has P w K mg base 3 "check_number" ["thing",
    "low", "high"] (spP K sp_check_number) :=
  has_def t.d_check_number sc_check_number (by decide) len_check_number (fun _ _ _ _ _ _ us hl => match us, hl with | [_, _, _], _ => rfl) ok_check_number fun f cdv A outer s H E hr => ⟨_,
    show DSs _ _ _ _ (w_check_number) from ss_one (s_if (t_not (t_val (e_call h_is_within hr (a_cons (e_var 0) (a_cons (e_var 1) (a_cons (e_var 2) (a_nil))))))) (ss_never) (ss_nil))⟩
theorem sc_common : FnScope ["one", "other"] ["one", "other"] (defScope s_common) := ⟨rfl, rfl, rfl, by decide +kernel, rfl, by decide +kernel, by decide +kernel⟩
theorem has_common (t : Txt K mg)  : Has P w K mg base 1 "common" ["one", "other"] (spP K sp_common) :=
  has_def t.d_common sc_common (by decide) len_common (fun _ _ _ _ _ _ us hl => match us, hl with | [_, _], _ => rfl) ok_common fun f cdv A outer s H E hr => ⟨_,
    show DSs _ _ _ _ (w_common) from ss_cons (s_par2 0 1 rfl sc_common.nd (f_cons (e_blt bt_abs bb_abs t.n_abs (a_cons (e_var 0) (a_nil))) (f_cons (e_blt bt_abs bb_abs t.n_abs (a_cons (e_var 1) (a_nil))) (f_nil))))
      (ss_cons (s_while (t_cmp c_gt (e_var 1) (e_int)) (ss_one (s_par2 0 1 rfl sc_common.nd (f_cons (e_var 1) (f_cons (e_mod (e_typ bt_int bb_int t.n_int (a_cons (e_var 0) (a_nil))) (e_var 1)) (f_nil))))))
      (ss_one (s_ret (e_var 0))))⟩
theorem sc_factors : FnScope ["number", "found", "left", "one", "many"] ["number"] (defScope s_factors) := ⟨rfl, rfl, rfl, by decide +kernel, rfl, by decide +kernel, by decide +kernel⟩
theorem has_factors (t : Txt K mg) (h_check_number : Has P w K mg base 3 "check_number" ["thing", "low", "high"] (spP K sp_check_number)) : Has P w K mg base 4 "factors" ["number"]
    (spP K sp_factors) :=
  has_def t.d_factors sc_factors (by decide) len_factors (fun _ _ _ _ _ _ us hl => match us, hl with | [_], _ => rfl) ok_factors fun f cdv A outer s H E hr => ⟨_,
    show DSs _ _ _ _ (w_factors) from ss_cons (s_expr (e_call h_check_number hr (a_cons (e_var 0) (a_cons (e_int) (a_cons (e_gint t.c_MOST) (a_nil))))))
      (ss_cons (s_par3 1 2 3 rfl sc_factors.nd (f_cons (e_lst (a_nil)) (f_cons (e_var 0) (f_cons (e_int) (f_nil)))))
      (ss_cons (s_while (t_cmp c_le (e_mul (e_var 3) (e_var 3)) (e_var 2)) (ss_cons (s_set 4 sc_factors.nd (e_int))
      (ss_cons (s_while (t_cmp (c_eq hr) (e_mod (e_typ bt_int bb_int t.n_int (a_cons (e_var 2) (a_nil))) (e_var 3)) (e_int)) (ss_one (s_par2 2 4 rfl sc_factors.nd (f_cons (e_fdiv (e_var 2) (e_var 3)) (f_cons (e_add (e_var 4) (e_int)) (f_nil))))))
      (ss_cons (s_expr (e_extend 1 (e_if (t_cmp c_gt (e_var 4) (e_int)) (e_lst (a_cons (e_tup (a_cons (e_var 3) (a_cons (e_var 4) (a_nil)))) (a_nil))) (e_lst (a_nil))) (fun h => pe_bm PySem.F.plainAttrs_list PySem.F.slot_list_extend PySem.F.type_list_extend mt_extend (pv 1) h)))
      (ss_one (s_aug 3 sc_factors.nd ip_plus (e_int)))))))
      (ss_cons (s_expr (e_extend 1 (e_if (t_cmp c_gt (e_var 2) (e_int)) (e_lst (a_cons (e_tup (a_cons (e_var 2) (a_cons (e_int) (a_nil)))) (a_nil))) (e_lst (a_nil))) (fun h => pe_bm PySem.F.plainAttrs_list PySem.F.slot_list_extend PySem.F.type_list_extend mt_extend (pv 1) h)))
      (ss_one (s_ret (e_typ bt_tuple bb_tuple t.n_tuple (a_cons (e_var 1) (a_nil))))))))⟩
theorem sc_grown : FnScope ["some", "prime", "many", "found", "by", "turn", "one"] ["some", "prime", "many"] (defScope s_grown) := ⟨rfl, rfl, rfl, by decide +kernel, rfl, by decide +kernel, by decide +kernel⟩
theorem has_grown (t : Txt K mg)  : Has P w K mg base 1 "grown" ["some", "prime", "many"] (spP K sp_grown) :=
  has_def t.d_grown sc_grown (by decide) len_grown (fun _ _ _ _ _ _ us hl => match us, hl with | [_, _, _], _ => rfl) ok_grown fun f cdv A outer s H E hr => ⟨_,
    show DSs _ _ _ _ (w_grown) from ss_cons (s_parT 2 rfl (f_cons (e_lst (a_nil)) (f_cons (e_int) (f_nil))) (gns_cons 3 sc_grown.nd (gns_cons 4 sc_grown.nd (gns_nil))))
      (ss_cons (s_for rfl (i_range1 t.n_range (a_cons (e_add (e_var 2) (e_int)) (a_nil))) (g_name 5 sc_grown.nd) (ss_cons (s_expr (e_extend 3 (e_lc [("one", 6)] rfl sc_grown.nd (i_sq (e_var 0)) (blkOk_by (N := ["some", "prime", "many", "found", "by", "turn", "one"]) (sc := defScope s_grown) (by decide +kernel)) (fun _ _ _ _ _ => g_name 6 sc_grown.nd) (fun _ _ _ _ _ => ts_nil) (fun _ _ _ _ _ => e_mul (e_var 6) (e_var 4))) (fun h => pe_bm PySem.F.plainAttrs_list PySem.F.slot_list_extend PySem.F.type_list_extend mt_extend (pv 3) h)))
      (ss_one (s_set 4 sc_grown.nd (e_mul (e_var 4) (e_var 1))))))
      (ss_one (s_ret (e_var 3))))⟩
theorem sc_divisors : FnScope ["number", "found", "prime", "many"] ["number"] (defScope s_divisors) := ⟨rfl, rfl, rfl, by decide +kernel, rfl, by decide +kernel, by decide +kernel⟩
theorem has_divisors (t : Txt K mg) (h_factors : Has P w K mg base 4 "factors" ["number"] (spP K sp_factors)) (h_grown : Has P w K mg base 1 "grown" ["some", "prime", "many"] (spP
    K sp_grown)) : Has P w K mg base 5 "divisors" ["number"] (spP K sp_divisors) :=
  has_def t.d_divisors sc_divisors (by decide) len_divisors (fun _ _ _ _ _ _ us hl => match us, hl with | [_], _ => rfl) ok_divisors fun f cdv A outer s H E hr => ⟨_,
    show DSs _ _ _ _ (w_divisors) from ss_cons (s_set 1 sc_divisors.nd (e_lst (a_cons (e_int) (a_nil))))
      (ss_cons (s_for rfl (i_sq (e_call h_factors hr (a_cons (e_var 0) (a_nil)))) (g_tup rfl (gs_cons (g_name 2 sc_divisors.nd) (gs_cons (g_name 3 sc_divisors.nd) (gs_nil)))) (ss_one (s_set 1 sc_divisors.nd (e_call h_grown (hr.mono (by decide)) (a_cons (e_var 1) (a_cons (e_var 2) (a_cons (e_var 3) (a_nil))))))))
      (ss_one (s_ret (e_typ bt_tuple bb_tuple t.n_tuple (a_cons (e_blt bt_sorted bb_sorted t.n_sorted (a_cons (e_var 1) (a_nil))) (a_nil))))))⟩
theorem sc_is_values : FnScope ["thing", "one"] ["thing"] (defScope s_is_values) := ⟨rfl, rfl, rfl, by decide +kernel, rfl, by decide +kernel, by decide +kernel⟩
theorem has_is_values (t : Txt K mg) (h_is_integer : Has P w K mg base 1 "is_integer" ["thing"] (spP K sp_is_integer)) : Has P w K mg base 2 "is_values" ["thing"] (spP K
    sp_is_values) :=
  has_def t.d_is_values sc_is_values (by decide) len_is_values (fun _ _ _ _ _ _ us hl => match us, hl with | [_], _ => rfl) ok_is_values fun f cdv A outer s H E hr => ⟨_,
    show DSs _ _ _ _ (w_is_values) from ss_one (s_ret (e_and (e_isi .tuple t.n_isinstance t.n_tuple (e_var 0)) (e_and (e_chain c_le c_le (e_int) (e_blt bt_len bb_len t.n_len (a_cons (e_var 0) (a_nil))) (e_gint t.c_MOST_LONG)) (e_one (e_blt bt_all bb_all t.n_all (a_cons (e_lc [("one", 1)] rfl sc_is_values.nd (i_sq (e_var 0)) (blkOk_by (N := ["thing", "one"]) (sc := defScope s_is_values) (by decide +kernel)) (fun _ _ _ _ _ => g_name 1 sc_is_values.nd) (fun _ _ _ _ _ => ts_nil) (fun _ _ _ _ _ => e_call h_is_integer hr (a_cons (e_var 1) (a_nil)))) (a_nil)))))))⟩
theorem sc_check_values : FnScope ["values"] ["values"] (defScope s_check_values) := ⟨rfl, rfl, rfl, by decide +kernel, rfl, by decide +kernel, by decide +kernel⟩
theorem has_check_values (t : Txt K mg) (h_is_values : Has P w K mg base 2 "is_values" ["thing"] (spP K sp_is_values)) : Has P w K mg base 3 "check_values" ["values"] (spP K
    sp_check_values) :=
  has_def t.d_check_values sc_check_values (by decide) len_check_values (fun _ _ _ _ _ _ us hl => match us, hl with | [_], _ => rfl) ok_check_values fun f cdv A outer s H E hr => ⟨_,
    show DSs _ _ _ _ (w_check_values) from ss_one (s_if (t_not (t_val (e_call h_is_values hr (a_cons (e_var 0) (a_nil))))) (ss_never) (ss_nil))⟩
theorem sc_check_two : FnScope ["one", "other"] ["one", "other"] (defScope s_check_two) := ⟨rfl, rfl, rfl, by decide +kernel, rfl, by decide +kernel, by decide +kernel⟩
theorem has_check_two (t : Txt K mg) (h_check_values : Has P w K mg base 3 "check_values" ["values"] (spP K sp_check_values)) : Has P w K mg base 4 "check_two" ["one", "other"]
    (spP K sp_check_two) :=
  has_def t.d_check_two sc_check_two (by decide) len_check_two (fun _ _ _ _ _ _ us hl => match us, hl with | [_, _], _ => rfl) ok_check_two fun f cdv A outer s H E hr => ⟨_,
    show DSs _ _ _ _ (w_check_two) from ss_cons (s_expr (e_call h_check_values hr (a_cons (e_var 0) (a_nil))))
      (ss_cons (s_expr (e_call h_check_values hr (a_cons (e_var 1) (a_nil))))
      (ss_one (s_if (t_cmp (c_ne hr) (e_blt bt_len bb_len t.n_len (a_cons (e_var 0) (a_nil))) (e_blt bt_len bb_len t.n_len (a_cons (e_var 1) (a_nil)))) (ss_never) (ss_nil))))⟩
theorem sc_own_divisors : FnScope ["number", "one"] ["number"] (defScope s_own_divisors) := ⟨rfl, rfl, rfl, by decide +kernel, rfl, by decide +kernel, by decide +kernel⟩
theorem has_own_divisors (t : Txt K mg) (h_divisors : Has P w K mg base 5 "divisors" ["number"] (spP K sp_divisors)) (h_common : Has P w K mg base 1 "common" ["one", "other"] (spP
    K sp_common)) : Has P w K mg base 6 "own_divisors" ["number"] (spP K sp_own_divisors) :=
  has_def t.d_own_divisors sc_own_divisors (by decide) len_own_divisors (fun _ _ _ _ _ _ us hl => match us, hl with | [_], _ => rfl) ok_own_divisors fun f cdv A outer s H E hr => ⟨_,
    show DSs _ _ _ _ (w_own_divisors) from ss_one (s_ret (e_typ bt_tuple bb_tuple t.n_tuple (a_cons (e_lc [("one", 1)] rfl sc_own_divisors.nd (i_sq (e_call h_divisors hr (a_cons (e_var 0) (a_nil)))) (blkOk_by (N := ["number", "one"]) (sc := defScope s_own_divisors) (by decide +kernel)) (fun _ _ _ _ _ => g_name 1 sc_own_divisors.nd) (fun _ _ _ _ _ => ts_one (t_cmp (c_eq hr) (e_call h_common (hr.mono (by decide)) (a_cons (e_var 1) (a_cons (e_fdiv (e_var 0) (e_var 1)) (a_nil)))) (e_int))) (fun _ _ _ _ _ => e_var 1)) (a_nil))))⟩
theorem sc_sign : FnScope ["number"] ["number"] (defScope s_sign) := ⟨rfl, rfl, rfl, by decide +kernel, rfl, by decide +kernel, by decide +kernel⟩
theorem has_sign (t : Txt K mg) (h_factors : Has P w K mg base 4 "factors" ["number"] (spP K sp_factors)) : Has P w K mg base 5 "sign" ["number"] (spP K sp_sign) :=
  has_def t.d_sign sc_sign (by decide) len_sign (fun _ _ _ _ _ _ us hl => match us, hl with | [_], _ => rfl) ok_sign fun f cdv A outer s H E hr => ⟨_,
    show DSs _ _ _ _ (w_sign) from ss_one (s_ret (e_if (t_cmp (c_eq hr) (e_mod (e_typ bt_int bb_int t.n_int (a_cons (e_blt bt_len bb_len t.n_len (a_cons (e_call h_factors hr (a_cons (e_var 0) (a_nil))) (a_nil))) (a_nil))) (e_int)) (e_int)) (e_int) (e_neg (e_int))))⟩
theorem sc_together : FnScope ["one", "other", "found", "number", "part"] ["one", "other"] (defScope s_together) := ⟨rfl, rfl, rfl, by decide +kernel, rfl, by decide +kernel, by decide +kernel⟩
theorem has_together (t : Txt K mg) (h_check_two : Has P w K mg base 4 "check_two" ["one", "other"] (spP K sp_check_two)) (h_own_divisors : Has P w K mg base 6 "own_divisors"
    ["number"] (spP K sp_own_divisors)) : Has P w K mg base 7 "together" ["one", "other"] (spP K sp_together) :=
  has_def t.d_together sc_together (by decide) len_together (fun _ _ _ _ _ _ us hl => match us, hl with | [_, _], _ => rfl) ok_together fun f cdv A outer s H E hr => ⟨_,
    show DSs _ _ _ _ (w_together) from ss_cons (s_expr (e_call h_check_two (hr.mono (by decide)) (a_cons (e_var 0) (a_cons (e_var 1) (a_nil)))))
      (ss_cons (s_set 2 sc_together.nd (e_lst (a_nil)))
      (ss_cons (s_for rfl (i_range2 t.n_range (a_cons (e_int) (a_cons (e_add (e_blt bt_len bb_len t.n_len (a_cons (e_var 0) (a_nil))) (e_int)) (a_nil)))) (g_name 3 sc_together.nd) (ss_one (s_expr (e_append 2 (e_blt bt_sum bb_sum t.n_sum (a_cons (e_lc [("part", 4)] rfl sc_together.nd (i_sq (e_call h_own_divisors hr (a_cons (e_var 3) (a_nil)))) (blkOk_by (N := ["one", "other", "found", "number", "part"]) (sc := defScope s_together) (by decide +kernel)) (fun _ _ _ _ _ => g_name 4 sc_together.nd) (fun _ _ _ _ _ => ts_nil) (fun _ _ _ _ _ => e_mul (e_ix (e_var 0) (e_sub (e_var 4) (e_int))) (e_ix (e_var 1) (e_sub (e_fdiv (e_var 3) (e_var 4)) (e_int))))) (a_nil))) (fun h => pe_bm PySem.F.plainAttrs_list PySem.F.slot_list_append PySem.F.type_list_append mt_append (pv 2) h)))))
      (ss_one (s_ret (e_typ bt_tuple bb_tuple t.n_tuple (a_cons (e_var 2) (a_nil)))))))⟩
theorem sc_over_own : FnScope ["values", "number", "one"] ["values"] (defScope s_over_own) := ⟨rfl, rfl, rfl, by decide +kernel, rfl, by decide +kernel, by decide +kernel⟩
theorem has_over_own (t : Txt K mg) (h_check_values : Has P w K mg base 3 "check_values" ["values"] (spP K sp_check_values)) (h_own_divisors : Has P w K mg base 6 "own_divisors"
    ["number"] (spP K sp_own_divisors)) : Has P w K mg base 7 "over_own" ["values"] (spP K sp_over_own) :=
  has_def t.d_over_own sc_over_own (by decide) len_over_own (fun _ _ _ _ _ _ us hl => match us, hl with | [_], _ => rfl) ok_over_own fun f cdv A outer s H E hr => ⟨_,
    show DSs _ _ _ _ (w_over_own) from ss_cons (s_expr (e_call h_check_values (hr.mono (by decide)) (a_cons (e_var 0) (a_nil))))
      (ss_one (s_ret (e_typ bt_tuple bb_tuple t.n_tuple (a_cons (e_lc [("number", 1)] rfl sc_over_own.nd (i_range2 t.n_range (a_cons (e_int) (a_cons (e_add (e_blt bt_len bb_len t.n_len (a_cons (e_var 0) (a_nil))) (e_int)) (a_nil)))) (blkOk_by (N := ["values", "number", "one"]) (sc := defScope s_over_own) (by decide +kernel)) (fun _ _ _ _ _ => g_name 1 sc_over_own.nd) (fun _ _ _ _ _ => ts_nil) (fun _ _ _ _ _ => e_blt bt_sum bb_sum t.n_sum (a_cons (e_lc [("one", 2)] rfl sc_over_own.nd (i_sq (e_call h_own_divisors hr (a_cons (e_var 1) (a_nil)))) (blkOk_in (N := ["values", "number", "one"]) rfl (by decide +kernel)) (fun _ _ _ _ _ => g_name 2 sc_over_own.nd) (fun _ _ _ _ _ => ts_nil) (fun _ _ _ _ _ => e_ix (e_var 0) (e_sub (e_var 2) (e_int)))) (a_nil)))) (a_nil)))))⟩
theorem sc_back_from_own : FnScope ["sums", "found", "number", "one"] ["sums"] (defScope s_back_from_own) := ⟨rfl, rfl, rfl, by decide +kernel, rfl, by decide +kernel, by decide +kernel⟩
theorem has_back_from_own (t : Txt K mg) (h_check_values : Has P w K mg base 3 "check_values" ["values"] (spP K sp_check_values)) (h_sign : Has P w K mg base 5 "sign" ["number"]
    (spP K sp_sign)) (h_own_divisors : Has P w K mg base 6 "own_divisors" ["number"] (spP K sp_own_divisors)) : Has P w K mg base 7 "back_from_own" ["sums"] (spP K
    sp_back_from_own) :=
  has_def t.d_back_from_own sc_back_from_own (by decide) len_back_from_own (fun _ _ _ _ _ _ us hl => match us, hl with | [_], _ => rfl) ok_back_from_own fun f cdv A outer s H E hr => ⟨_,
    show DSs _ _ _ _ (w_back_from_own) from ss_cons (s_expr (e_call h_check_values (hr.mono (by decide)) (a_cons (e_var 0) (a_nil))))
      (ss_cons (s_set 1 sc_back_from_own.nd (e_lst (a_nil)))
      (ss_cons (s_for rfl (i_range2 t.n_range (a_cons (e_int) (a_cons (e_add (e_blt bt_len bb_len t.n_len (a_cons (e_var 0) (a_nil))) (e_int)) (a_nil)))) (g_name 2 sc_back_from_own.nd) (ss_one (s_expr (e_append 1 (e_blt bt_sum bb_sum t.n_sum (a_cons (e_lc [("one", 3)] rfl sc_back_from_own.nd (i_sq (e_call h_own_divisors hr (a_cons (e_var 2) (a_nil)))) (blkOk_by (N := ["sums", "found", "number", "one"]) (sc := defScope s_back_from_own) (by decide +kernel)) (fun _ _ _ _ _ => g_name 3 sc_back_from_own.nd) (fun _ _ _ _ _ => ts_nil) (fun _ _ _ _ _ => e_mul (e_call h_sign (hr.mono (by decide)) (a_cons (e_var 3) (a_nil))) (e_ix (e_var 0) (e_sub (e_fdiv (e_var 2) (e_var 3)) (e_int))))) (a_nil))) (fun h => pe_bm PySem.F.plainAttrs_list PySem.F.slot_list_append PySem.F.type_list_append mt_append (pv 1) h)))))
      (ss_one (s_ret (e_typ bt_tuple bb_tuple t.n_tuple (a_cons (e_var 1) (a_nil)))))))⟩
theorem sc_whole_undoing : FnScope ["values", "found", "number", "whole", "one"] ["values"] (defScope s_whole_undoing) := ⟨rfl, rfl, rfl, by decide +kernel, rfl, by decide +kernel, by decide +kernel⟩
theorem has_whole_undoing (t : Txt K mg) (h_check_values : Has P w K mg base 3 "check_values" ["values"] (spP K sp_check_values)) (h_own_divisors : Has P w K mg base 6
    "own_divisors" ["number"] (spP K sp_own_divisors)) : Has P w K mg base 7 "whole_undoing" ["values"] (spP K sp_whole_undoing) :=
  has_def t.d_whole_undoing sc_whole_undoing (by decide) len_whole_undoing (fun _ _ _ _ _ _ us hl => match us, hl with | [_], _ => rfl) ok_whole_undoing fun f cdv A outer s H E hr => ⟨_,
    show DSs _ _ _ _ (w_whole_undoing) from ss_cons (s_expr (e_call h_check_values (hr.mono (by decide)) (a_cons (e_var 0) (a_nil))))
      (ss_cons (s_if (t_cmp (c_notIn hr) (e_ix (e_var 0) (e_int)) (e_tup (a_cons (e_int) (a_cons (e_neg (e_int)) (a_nil))))) (ss_never) (ss_nil))
      (ss_cons (s_set 1 sc_whole_undoing.nd (e_lst (a_nil)))
      (ss_cons (s_for rfl (i_range2 t.n_range (a_cons (e_int) (a_cons (e_add (e_blt bt_len bb_len t.n_len (a_cons (e_var 0) (a_nil))) (e_int)) (a_nil)))) (g_name 2 sc_whole_undoing.nd) (ss_cons (s_set 3 sc_whole_undoing.nd (e_typ bt_int bb_int t.n_int (a_cons (e_cmp (c_eq hr) (e_var 2) (e_int)) (a_nil))))
      (ss_cons (s_for rfl (i_sq (e_sl (e_call h_own_divisors hr (a_cons (e_var 2) (a_nil))) (o_none) (o_some (e_neg (e_int))))) (g_name 4 sc_whole_undoing.nd) (ss_one (s_aug 3 sc_whole_undoing.nd ip_minus (e_mul (e_ix (e_var 0) (e_sub (e_fdiv (e_var 2) (e_var 4)) (e_int))) (e_ix (e_var 1) (e_sub (e_var 4) (e_int)))))))
      (ss_one (s_expr (e_append 1 (e_mul (e_var 3) (e_ix (e_var 0) (e_int))) (fun h => pe_bm PySem.F.plainAttrs_list PySem.F.slot_list_append PySem.F.type_list_append mt_append (pv 1) h)))))))
      (ss_one (s_ret (e_typ bt_tuple bb_tuple t.n_tuple (a_cons (e_var 1) (a_nil))))))))⟩
theorem sc_law_hand : FnScope ["script", "cells", "cell"] ["script"] (defScope s_law_hand) := ⟨rfl, rfl, rfl, by decide +kernel, rfl, by decide +kernel, by decide +kernel⟩
theorem has_law_hand (t : Txt K mg)  : Has P w K mg base 1 "_law_hand" ["script"] (spO K sp_law_hand) :=
  has_defO t.d_law_hand sc_law_hand (by decide) len_law_hand (fun _ _ _ _ _ _ us hl => match us, hl with | [_], _ => rfl) ok_law_hand fun f cdv A outer s H E hr => ⟨_,
    show DSs _ _ _ _ (w_law_hand) from ss_cons (s_setLc 1 [("cell", 2)] rfl sc_law_hand.nd (i_sq (e_sl (e_var 0) (o_none) (o_some (e_int)))) (blkOk_by (N := ["script", "cells", "cell"]) (sc := defScope s_law_hand) (by decide +kernel)) (fun _ _ _ _ _ => g_name 2 sc_law_hand.nd) (fun _ _ _ _ _ => ts_nil) (fun _ _ _ _ _ => e_mod (e_typ bt_int bb_int t.n_int (a_cons (e_blt bt_abs bb_abs t.n_abs (a_cons (e_typ bt_int bb_int t.n_int (a_cons (e_var 2) (a_nil))) (a_nil))) (a_nil))) (e_pow (e_int) (e_int))))
      (ss_one (s_retO (e_lst (a_cons (e_var 1) (a_cons (e_int) (a_cons (e_int) (a_cons (e_add (e_int) (e_mul (e_int) (e_blt bt_len bb_len t.n_len (a_cons (e_var 1) (a_nil))))) (a_cons (e_int) (a_nil)))))))))⟩
theorem sc_law_draw : FnScope ["hand", "below", "cell", "digit", "mixed"] ["hand", "below"] (defScope s_law_draw) := ⟨rfl, rfl, rfl, by decide +kernel, rfl, by decide +kernel, by decide +kernel⟩
theorem has_law_draw (t : Txt K mg)  : Has P w K mg base 1 "_law_draw" ["hand", "below"] (spM K sp_law_draw) :=
  has_defM t.d_law_draw sc_law_draw (by decide) len_law_draw (fun _ _ _ _ _ _ us hl => match us, hl with | [_, _], _ => rfl) ok_law_draw fun f cdv A outer s H E hr => ⟨_,
    show DSs _ _ _ _ (w_law_draw) from ss_cons (s_if (t_pw (w_and (t_cmp (c_eq hr) (e_ix (e_var 0) (e_int)) (e_int)) (w_and1 (t_cmp c_lt (e_ix (e_var 0) (e_int)) (e_blt bt_len bb_len t.n_len (a_cons (e_ix (e_var 0) (e_int)) (a_nil))))))) (ss_cons (s_set 2 sc_law_draw.nd (e_ix (e_ix (e_var 0) (e_int)) (e_ix (e_var 0) (e_int))))
      (ss_cons (s_setIx 0 (e_add (e_ix (e_var 0) (e_int)) (e_int)) (e_var 0) (e_int))
      (ss_cons (s_setIx 0 (e_mod (e_typ bt_int bb_int t.n_int (a_cons (e_add (e_add (e_mul (e_ix (e_var 0) (e_int)) (e_int)) (e_mul (e_var 2) (e_int))) (e_int)) (a_nil))) (e_int)) (e_var 0) (e_int))
      (ss_one (s_if (t_cmp c_ge (e_var 2) (e_pow (e_int) (e_int))) (ss_one (s_setIx 0 (e_var 2) (e_var 0) (e_int))) (ss_nil)))))) (ss_nil))
      (ss_cons (s_if (t_cmp c_gt (e_ix (e_var 0) (e_int)) (e_int)) (ss_cons (s_set 3 sc_law_draw.nd (e_mod (e_typ bt_int bb_int t.n_int (a_cons (e_ix (e_var 0) (e_int)) (a_nil))) (e_var 1)))
      (ss_cons (s_setIx 0 (e_fdiv (e_ix (e_var 0) (e_int)) (e_var 1)) (e_var 0) (e_int))
      (ss_one (s_ret (e_var 3))))) (ss_nil))
      (ss_cons (s_setIx 0 (e_add (e_ix (e_var 0) (e_int)) (e_int)) (e_var 0) (e_int))
      (ss_cons (s_set 4 sc_law_draw.nd (e_mod (e_typ bt_int bb_int t.n_int (a_cons (e_mul (e_typ bt_int bb_int t.n_int (a_cons (e_add (e_ix (e_var 0) (e_int)) (e_mul (e_int) (e_ix (e_var 0) (e_int)))) (a_nil))) (e_int)) (a_nil))) (e_int)))
      (ss_cons (s_set 4 sc_law_draw.nd (e_mod (e_typ bt_int bb_int t.n_int (a_cons (e_mul (e_var 4) (e_add (e_fdiv (e_var 4) (e_int)) (e_int))) (a_nil))) (e_int)))
      (ss_cons (s_set 4 sc_law_draw.nd (e_mod (e_typ bt_int bb_int t.n_int (a_cons (e_mul (e_var 4) (e_add (e_fdiv (e_var 4) (e_int)) (e_int))) (a_nil))) (e_int)))
      (ss_one (s_ret (e_mod (e_typ bt_int bb_int t.n_int (a_cons (e_fdiv (e_var 4) (e_int)) (a_nil))) (e_var 1)))))))))⟩
theorem sc_law_any : FnScope ["hand", "some"] ["hand", "some"] (defScope s_law_any) := ⟨rfl, rfl, rfl, by decide +kernel, rfl, by decide +kernel, by decide +kernel⟩
theorem has_law_any (t : Txt K mg) (h_law_draw : Has P w K mg base 1 "_law_draw" ["hand", "below"] (spM K sp_law_draw)) : Has P w K mg base 2 "_law_any" ["hand", "some"] (spM K
    sp_law_any) :=
  has_defM t.d_law_any sc_law_any (by decide) len_law_any (fun _ _ _ _ _ _ us hl => match us, hl with | [_, _], _ => rfl) ok_law_any fun f cdv A outer s H E hr => ⟨_,
    show DSs _ _ _ _ (w_law_any) from ss_one (s_ret (e_ix (e_var 1) (e_callM 0 h_law_draw hr (e_var 0) (a_cons (e_blt bt_len bb_len t.n_len (a_cons (e_var 1) (a_nil))) (a_nil)))))⟩
theorem sc_law_common : FnScope ["one", "other"] ["one", "other"] (defScope s_law_common) := ⟨rfl, rfl, rfl, by decide +kernel, rfl, by decide +kernel, by decide +kernel⟩
theorem has_law_common (t : Txt K mg)  : Has P w K mg base 1 "_law_common" ["one", "other"] (spP K sp_law_common) :=
  has_def t.d_law_common sc_law_common (by decide) len_law_common (fun _ _ _ _ _ _ us hl => match us, hl with | [_, _], _ => rfl) ok_law_common fun f cdv A outer s H E hr => ⟨_,
    show DSs _ _ _ _ (w_law_common) from ss_cons (s_while (t_cmp c_gt (e_var 1) (e_int)) (ss_one (s_par2 0 1 rfl sc_law_common.nd (f_cons (e_var 1) (f_cons (e_mod (e_typ bt_int bb_int t.n_int (a_cons (e_var 0) (a_nil))) (e_var 1)) (f_nil))))))
      (ss_one (s_ret (e_var 0)))⟩
theorem sc_law_together : FnScope ["one", "other", "found", "number", "total", "part"] ["one", "other"] (defScope s_law_together) := ⟨rfl, rfl, rfl, by decide +kernel, rfl, by decide +kernel, by decide +kernel⟩
theorem has_law_together (t : Txt K mg) (h_law_common : Has P w K mg base 1 "_law_common" ["one", "other"] (spP K sp_law_common)) : Has P w K mg base 2 "_law_together" ["one",
    "other"] (spP K sp_law_together) :=
  has_def t.d_law_together sc_law_together (by decide) len_law_together (fun _ _ _ _ _ _ us hl => match us, hl with | [_, _], _ => rfl) ok_law_together fun f cdv A outer s H E hr => ⟨_,
    show DSs _ _ _ _ (w_law_together) from ss_cons (s_set 2 sc_law_together.nd (e_lst (a_nil)))
      (ss_cons (s_for rfl (i_range2 t.n_range (a_cons (e_int) (a_cons (e_add (e_blt bt_len bb_len t.n_len (a_cons (e_var 0) (a_nil))) (e_int)) (a_nil)))) (g_name 3 sc_law_together.nd) (ss_cons (s_set 4 sc_law_together.nd (e_int))
      (ss_cons (s_for rfl (i_range2 t.n_range (a_cons (e_int) (a_cons (e_add (e_var 3) (e_int)) (a_nil)))) (g_name 5 sc_law_together.nd) (ss_one (s_if (t_pw (w_and (t_cmp (c_eq hr) (e_mod (e_typ bt_int bb_int t.n_int (a_cons (e_var 3) (a_nil))) (e_var 5)) (e_int)) (w_and1 (t_cmp (c_eq hr) (e_call h_law_common hr (a_cons (e_var 5) (a_cons (e_fdiv (e_var 3) (e_var 5)) (a_nil)))) (e_int))))) (ss_one (s_set 4 sc_law_together.nd (e_add (e_var 4) (e_mul (e_ix (e_var 0) (e_sub (e_var 5) (e_int))) (e_ix (e_var 1) (e_sub (e_fdiv (e_var 3) (e_var 5)) (e_int))))))) (ss_nil))))
      (ss_one (s_expr (e_append 2 (e_var 4) (fun h => pe_bm PySem.F.plainAttrs_list PySem.F.slot_list_append PySem.F.type_list_append mt_append (pv 2) h)))))))
      (ss_one (s_ret (e_typ bt_tuple bb_tuple t.n_tuple (a_cons (e_var 2) (a_nil))))))⟩
theorem sc_law_row : FnScope ["hand", "many", "number"] ["hand", "many"] (defScope s_law_row) := ⟨rfl, rfl, rfl, by decide +kernel, rfl, by decide +kernel, by decide +kernel⟩
theorem has_law_row (t : Txt K mg) (h_law_draw : Has P w K mg base 1 "_law_draw" ["hand", "below"] (spM K sp_law_draw)) : Has P w K mg base 2 "_law_row" ["hand", "many"] (spM K
    sp_law_row) :=
  has_defM t.d_law_row sc_law_row (by decide) len_law_row (fun _ _ _ _ _ _ us hl => match us, hl with | [_, _], _ => rfl) ok_law_row fun f cdv A outer s H E hr => ⟨_,
    show DSs _ _ _ _ (w_law_row) from ss_one (s_ret (e_typ bt_tuple bb_tuple t.n_tuple (a_cons (e_lc [("number", 2)] rfl sc_law_row.nd (i_range1 t.n_range (a_cons (e_var 1) (a_nil))) (blkOk_by (N := ["hand", "many", "number"]) (sc := defScope s_law_row) (by decide +kernel)) (fun _ _ _ _ _ => g_name 2 sc_law_row.nd) (fun _ _ _ _ _ => ts_nil) (fun _ _ _ _ _ => e_sub (e_callM 0 h_law_draw hr (e_var 0) (a_cons (e_int) (a_nil))) (e_int))) (a_nil))))⟩
theorem sc_law_product : FnScope ["hand", "many", "told", "found", "number", "left", "worth", "prime", "power"] ["hand", "many"] (defScope s_law_product) := ⟨rfl, rfl, rfl, by decide +kernel, rfl, by decide +kernel, by decide +kernel⟩
theorem has_law_product (t : Txt K mg) (h_law_draw : Has P w K mg base 1 "_law_draw" ["hand", "below"] (spM K sp_law_draw)) : Has P w K mg base 2 "_law_product" ["hand", "many"]
    (spM K sp_law_product) :=
  has_defM t.d_law_product sc_law_product (by decide) len_law_product (fun _ _ _ _ _ _ us hl => match us, hl with | [_, _], _ => rfl) ok_law_product fun f cdv A outer s H E hr => ⟨_,
    show DSs _ _ _ _ (w_law_product) from ss_cons (s_par2 2 3 rfl sc_law_product.nd (f_cons (e_dnew) (f_cons (e_lst (a_nil)) (f_nil))))
      (ss_cons (s_for rfl (i_range2 t.n_range (a_cons (e_int) (a_cons (e_add (e_var 1) (e_int)) (a_nil)))) (g_name 4 sc_law_product.nd) (ss_cons (s_par3 5 6 7 rfl sc_law_product.nd (f_cons (e_var 4) (f_cons (e_int) (f_cons (e_int) (f_nil)))))
      (ss_cons (s_while (t_cmp c_gt (e_var 5) (e_int)) (ss_cons (s_set 8 sc_law_product.nd (e_int))
      (ss_cons (s_while (t_cmp (c_eq hr) (e_mod (e_typ bt_int bb_int t.n_int (a_cons (e_var 5) (a_nil))) (e_var 7)) (e_int)) (ss_one (s_par2 5 8 rfl sc_law_product.nd (f_cons (e_fdiv (e_var 5) (e_var 7)) (f_cons (e_mul (e_var 8) (e_var 7)) (f_nil))))))
      (ss_cons (s_if (t_cmp c_gt (e_var 8) (e_int)) (ss_cons (s_if (t_dnotin 2 (hu_of hr) (e_var 8) (pv 2)) (ss_one (s_dput 2 (hu_of hr) (e_sub (e_callM 0 h_law_draw hr (e_var 0) (a_cons (e_int) (a_nil))) (e_int)) (pv 2) (e_var 8))) (ss_nil))
      (ss_one (s_set 6 sc_law_product.nd (e_mul (e_var 6) (e_dget 2 (hu_of hr) (pv 2) (e_var 8)))))) (ss_nil))
      (ss_one (s_set 7 sc_law_product.nd (e_add (e_var 7) (e_int))))))))
      (ss_one (s_expr (e_append 3 (e_var 6) (fun h => pe_bm PySem.F.plainAttrs_list PySem.F.slot_list_append PySem.F.type_list_append mt_append (pv 3) h)))))))
      (ss_one (s_ret (e_typ bt_tuple bb_tuple t.n_tuple (a_cons (e_var 3) (a_nil))))))⟩
theorem sc_law_is_product : FnScope ["row", "one", "other"] ["row"] (defScope s_law_is_product) := ⟨rfl, rfl, rfl, by decide +kernel, rfl, by decide +kernel, by decide +kernel⟩
theorem has_law_is_product (t : Txt K mg) (h_law_common : Has P w K mg base 1 "_law_common" ["one", "other"] (spP K sp_law_common)) : Has P w K mg base 2 "_law_is_product" ["row"]
    (spP K sp_law_is_product) :=
  has_def t.d_law_is_product sc_law_is_product (by decide) len_law_is_product (fun _ _ _ _ _ _ us hl => match us, hl with | [_], _ => rfl) ok_law_is_product fun f cdv A outer s H E hr => ⟨_,
    show DSs _ _ _ _ (w_law_is_product) from ss_cons (s_for rfl (i_range2 t.n_range (a_cons (e_int) (a_cons (e_add (e_blt bt_len bb_len t.n_len (a_cons (e_var 0) (a_nil))) (e_int)) (a_nil)))) (g_name 1 sc_law_is_product.nd) (ss_one (s_for rfl (i_range2 t.n_range (a_cons (e_int) (a_cons (e_add (e_fdiv (e_blt bt_len bb_len t.n_len (a_cons (e_var 0) (a_nil))) (e_var 1)) (e_int)) (a_nil)))) (g_name 2 sc_law_is_product.nd) (ss_one (s_if (t_pw (w_and (t_cmp (c_eq hr) (e_call h_law_common hr (a_cons (e_var 1) (a_cons (e_var 2) (a_nil)))) (e_int)) (w_and1 (t_cmp (c_ne hr) (e_ix (e_var 0) (e_sub (e_mul (e_var 1) (e_var 2)) (e_int))) (e_mul (e_ix (e_var 0) (e_sub (e_var 1) (e_int))) (e_ix (e_var 0) (e_sub (e_var 2) (e_int)))))))) (ss_one (s_ret (e_bl))) (ss_nil))))))
      (ss_one (s_ret (e_cmp (c_eq hr) (e_ix (e_var 0) (e_int)) (e_int))))⟩
theorem sc_law_rows_right : FnScope ["hand", "many", "one", "other", "last", "both", "ones", "first", "sums", "begun", "back", "row", "here"] ["hand", "many"] (defScope s_law_rows_right) := ⟨rfl, rfl, rfl, by decide +kernel, rfl, by decide +kernel, by decide +kernel⟩
theorem has_law_rows_right (t : Txt K mg) (h_law_together : Has P w K mg base 2 "_law_together" ["one", "other"] (spP K sp_law_together)) (h_whole_undoing : Has P w K mg base 7
    "whole_undoing" ["values"] (spP K sp_whole_undoing)) (h_law_row : Has P w K mg base 2 "_law_row" ["hand", "many"] (spM K sp_law_row)) (h_together : Has P w K mg base 7
    "together" ["one", "other"] (spP K sp_together)) (h_back_from_own : Has P w K mg base 7 "back_from_own" ["sums"] (spP K sp_back_from_own)) (h_law_product : Has P w K mg base 2
    "_law_product" ["hand", "many"] (spM K sp_law_product)) (h_law_is_product : Has P w K mg base 2 "_law_is_product" ["row"] (spP K sp_law_is_product)) (h_over_own : Has P w K mg
    base 7 "over_own" ["values"] (spP K sp_over_own)) (h_law_any : Has P w K mg base 2 "_law_any" ["hand", "some"] (spM K sp_law_any)) : HasG P w K mg base 8 "_law_rows_right"
    ["hand", "many"] (spM K sp_law_rows_right) :=
  hasG_defM t.d_law_rows_right sc_law_rows_right (by decide) len_law_rows_right (fun _ _ _ _ _ _ us hl => match us, hl with | [_, _], _ => rfl) ok_law_rows_right fun f cdv A outer s H E hr hgd => ⟨_,
    show DSs _ _ _ _ (w_law_rows_right) from ss_cons (s_par3 2 3 4 rfl sc_law_rows_right.nd (f_cons (e_callM 0 h_law_row (hr.mono (by decide)) (e_var 0) (a_cons (e_var 1) (a_nil))) (f_cons (e_callM 0 h_law_row (hr.mono (by decide)) (e_var 0) (a_cons (e_var 1) (a_nil))) (f_cons (e_callM 0 h_law_row (hr.mono (by decide)) (e_var 0) (a_cons (e_var 1) (a_nil))) (f_nil)))))
      (ss_cons (s_set 5 sc_law_rows_right.nd (e_call h_law_together (hr.mono (by decide)) (a_cons (e_var 2) (a_cons (e_var 3) (a_nil)))))
      (ss_cons (s_if (t_pw (w_or (t_cmp (c_ne hr) (e_blt (bt_repr hgd hr) bb_repr t.n_repr (a_cons (e_call h_together hr (a_cons (e_var 2) (a_cons (e_var 3) (a_nil)))) (a_nil))) (e_blt (bt_repr hgd hr) bb_repr t.n_repr (a_cons (e_var 5) (a_nil)))) (w_or1 (t_cmp (c_ne hr) (e_call h_together hr (a_cons (e_var 3) (a_cons (e_var 2) (a_nil)))) (e_var 5))))) (ss_one (s_ret (e_bl))) (ss_nil))
      (ss_cons (s_if (t_cmp (c_ne hr) (e_call h_together hr (a_cons (e_call h_together hr (a_cons (e_var 2) (a_cons (e_var 3) (a_nil)))) (a_cons (e_var 4) (a_nil)))) (e_call h_together hr (a_cons (e_var 2) (a_cons (e_call h_together hr (a_cons (e_var 3) (a_cons (e_var 4) (a_nil)))) (a_nil))))) (ss_one (s_ret (e_bl))) (ss_nil))
      (ss_cons (s_par2 6 7 rfl sc_law_rows_right.nd (f_cons (e_mulT (e_tup (a_cons (e_int) (a_nil))) (e_var 1)) (f_cons (e_add (e_tup (a_cons (e_int) (a_nil))) (e_mulT (e_tup (a_cons (e_int) (a_nil))) (e_sub (e_var 1) (e_int)))) (f_nil))))
      (ss_cons (s_set 8 sc_law_rows_right.nd (e_call h_law_together (hr.mono (by decide)) (a_cons (e_var 2) (a_cons (e_var 6) (a_nil)))))
      (ss_cons (s_if (t_cmp (c_ne hr) (e_blt (bt_repr hgd hr) bb_repr t.n_repr (a_cons (e_lst (a_cons (e_call h_over_own hr (a_cons (e_var 2) (a_nil))) (a_cons (e_call h_back_from_own hr (a_cons (e_var 8) (a_nil))) (a_nil)))) (a_nil))) (e_blt (bt_repr hgd hr) bb_repr t.n_repr (a_cons (e_lst (a_cons (e_var 8) (a_cons (e_var 2) (a_nil)))) (a_nil)))) (ss_one (s_ret (e_bl))) (ss_nil))
      (ss_cons (s_if (t_cmp (c_ne hr) (e_call h_back_from_own hr (a_cons (e_call h_over_own hr (a_cons (e_var 3) (a_nil))) (a_nil))) (e_var 3)) (ss_one (s_ret (e_bl))) (ss_nil))
      (ss_cons (s_if (t_pw (w_or (t_cmp (c_ne hr) (e_call h_together hr (a_cons (e_var 2) (a_cons (e_var 7) (a_nil)))) (e_var 2)) (w_or1 (t_cmp (c_ne hr) (e_call h_together hr (a_cons (e_var 7) (a_cons (e_var 3) (a_nil)))) (e_var 3))))) (ss_one (s_ret (e_bl))) (ss_nil))
      (ss_cons (s_set 9 sc_law_rows_right.nd (e_add (e_tup (a_cons (e_callM 0 h_law_any (hr.mono (by decide)) (e_var 0) (a_cons (e_lst (a_cons (e_int) (a_cons (e_neg (e_int)) (a_nil)))) (a_nil))) (a_nil))) (e_sl (e_var 2) (o_some (e_int)) (o_none))))
      (ss_cons (s_set 10 sc_law_rows_right.nd (e_call h_whole_undoing hr (a_cons (e_var 9) (a_nil))))
      (ss_cons (s_if (t_pw (w_or (t_not (t_val (e_isi .tuple t.n_isinstance t.n_tuple (e_var 10)))) (w_or (t_cmp (c_ne hr) (e_blt bt_len bb_len t.n_len (a_cons (e_var 10) (a_nil))) (e_var 1)) (w_or1 (t_cmp (c_ne hr) (e_call h_law_together (hr.mono (by decide)) (a_cons (e_var 9) (a_cons (e_var 10) (a_nil)))) (e_var 7)))))) (ss_one (s_ret (e_bl))) (ss_nil))
      (ss_cons (s_par2 11 12 rfl sc_law_rows_right.nd (f_cons (e_callM 0 h_law_product (hr.mono (by decide)) (e_var 0) (a_cons (e_var 1) (a_nil))) (f_cons (e_callM 0 h_law_product (hr.mono (by decide)) (e_var 0) (a_cons (e_var 1) (a_nil))) (f_nil))))
      (ss_one (s_ret (e_and (e_call h_law_is_product (hr.mono (by decide)) (a_cons (e_call h_together hr (a_cons (e_var 11) (a_cons (e_var 12) (a_nil)))) (a_nil))) (e_one (e_call h_law_is_product (hr.mono (by decide)) (a_cons (e_call h_whole_undoing hr (a_cons (e_var 11) (a_nil))) (a_nil)))))))))))))))))))⟩
theorem sc_law : FnScope ["script", "hand", "told", "due", "turn"] ["script"] (defScope s_law) := ⟨rfl, rfl, rfl, by decide +kernel, rfl, by decide +kernel, by decide +kernel⟩
theorem fn_law (t : Txt K mg) {f : Addr} {fd : FuncData} (F : FunD K "law" "law" (defArgs s_law) (defBody s_law) (defScope s_law) [] [] f fd) (h_law_hand : Has P w K mg base 1
    "_law_hand" ["script"] (spO K sp_law_hand)) (h_together : Has P w K mg base 7 "together" ["one", "other"] (spP K sp_together)) (h_over_own : Has P w K mg base 7 "over_own"
    ["values"] (spP K sp_over_own)) (h_back_from_own : Has P w K mg base 7 "back_from_own" ["sums"] (spP K sp_back_from_own)) (h_whole_undoing : Has P w K mg base 7 "whole_undoing"
    ["values"] (spP K sp_whole_undoing)) (h_law_rows_right : HasG P w K mg base 8 "_law_rows_right" ["hand", "many"] (spM K sp_law_rows_right)) (h_law_draw : Has P w K mg base 1
    "_law_draw" ["hand", "below"] (spM K sp_law_draw)) : FnG P w K mg base 9 f fd ["script"] (spP K (spLaw 63)) :=
  fnG_def F sc_law (by decide) (spLaw_len 63) ok_law fun f cdv A outer s H E hr hgd => ⟨_,
    show DSs _ _ _ _ w_law from ss_cons (s_set 1 sc_law.nd (e_callO h_law_hand (hr.mono (by decide)) (a_cons (e_var 0) (a_nil))))
      (ss_cons (s_set 2 sc_law.nd (e_lst (a_cons (e_call h_together (hr.mono (by decide)) (a_cons (e_tup (a_cons (e_int) (a_cons (e_int) (a_cons (e_int) (a_cons (e_int) (a_nil)))))) (a_cons (e_tup (a_cons (e_int) (a_cons (e_int) (a_cons (e_int) (a_cons (e_int) (a_nil)))))) (a_nil)))) (a_cons (e_call h_over_own (hr.mono (by decide)) (a_cons (e_tup (a_cons (e_int) (a_cons (e_int) (a_cons (e_int) (a_cons (e_int) (a_cons (e_int) (a_cons (e_int) (a_nil)))))))) (a_nil))) (a_nil)))))
      (ss_cons (s_set 2 sc_law.nd (e_add (e_var 2) (e_lst (a_cons (e_call h_back_from_own (hr.mono (by decide)) (a_cons (e_tup (a_cons (e_int) (a_cons (e_int) (a_cons (e_int) (a_cons (e_int) (a_cons (e_int) (a_cons (e_int) (a_nil)))))))) (a_nil))) (a_cons (e_call h_whole_undoing (hr.mono (by decide)) (a_cons (e_tup (a_cons (e_int) (a_cons (e_int) (a_cons (e_int) (a_cons (e_int) (a_nil)))))) (a_nil))) (a_cons (e_call h_whole_undoing (hr.mono (by decide)) (a_cons (e_tup (a_cons (e_neg (e_int)) (a_cons (e_int) (a_nil)))) (a_nil))) (a_nil)))))))
      (ss_cons (s_set 3 sc_law.nd (e_lst (a_cons (e_tup (a_cons (e_int) (a_cons (e_int) (a_cons (e_int) (a_cons (e_int) (a_nil)))))) (a_cons (e_tup (a_cons (e_int) (a_cons (e_int) (a_cons (e_int) (a_cons (e_int) (a_cons (e_int) (a_cons (e_int) (a_nil)))))))) (a_cons (e_tup (a_cons (e_int) (a_cons (e_int) (a_cons (e_int) (a_cons (e_int) (a_cons (e_int) (a_cons (e_int) (a_nil)))))))) (a_cons (e_tup (a_cons (e_int) (a_cons (e_neg (e_int)) (a_cons (e_neg (e_int)) (a_cons (e_neg (e_int)) (a_nil)))))) (a_cons (e_tup (a_cons (e_neg (e_int)) (a_cons (e_int) (a_nil)))) (a_nil))))))))
      (ss_cons (s_if (t_cmp (c_ne hr) (e_blt (bt_repr hgd hr) bb_repr t.n_repr (a_cons (e_var 2) (a_nil))) (e_blt (bt_repr hgd hr) bb_repr t.n_repr (a_cons (e_var 3) (a_nil)))) (ss_one (s_ret (e_bl))) (ss_nil))
      (ss_one (s_ret (e_blt bt_all bb_all t.n_all (a_cons (e_lc [("turn", 4)] rfl sc_law.nd (i_range1 t.n_range (a_cons (e_int) (a_nil))) (blkOk_by (N := ["script", "hand", "told", "due", "turn"]) (sc := defScope s_law) (by decide +kernel)) (fun _ _ _ _ _ => g_name 4 sc_law.nd) (fun _ _ _ _ _ => ts_nil) (fun _ _ _ _ _ => e_callMG 1 h_law_rows_right hr hgd (e_var 1) (a_cons (e_add (e_int) (e_callM 1 h_law_draw (hr.mono (by decide)) (e_var 1) (a_cons (e_int) (a_nil)))) (a_nil)))) (a_nil)))))))))⟩
end
end T
end
section
set_option maxRecDepth 100000
set_option maxHeartbeats 0
namespace T
open PySem PySem.Spec PyProof.Rows L2 Pd
def dd_is_integer : He.DefD := ⟨("is_integer", none), "is_integer", "is_integer", defArgs s_is_integer, defBody s_is_integer, defScope s_is_integer, [], []⟩
def dd_is_within : He.DefD := ⟨("is_within", none), "is_within", "is_within", defArgs s_is_within, defBody s_is_within, defScope s_is_within, [], []⟩
def dd_check_number : He.DefD := ⟨("check_number", none), "check_number", "check_number", defArgs s_check_number, defBody s_check_number, defScope s_check_number, [], []⟩
def dd_common : He.DefD := ⟨("common", none), "common", "common", defArgs s_common, defBody s_common, defScope s_common, [], []⟩
def dd_factors : He.DefD := ⟨("factors", none), "factors", "factors", defArgs s_factors, defBody s_factors, defScope s_factors, [], []⟩
def dd_grown : He.DefD := ⟨("grown", none), "grown", "grown", defArgs s_grown, defBody s_grown, defScope s_grown, [], []⟩
def dd_divisors : He.DefD := ⟨("divisors", none), "divisors", "divisors", defArgs s_divisors, defBody s_divisors, defScope s_divisors, [], []⟩
def dd_is_values : He.DefD := ⟨("is_values", none), "is_values", "is_values", defArgs s_is_values, defBody s_is_values, defScope s_is_values, [], []⟩
def dd_check_values : He.DefD := ⟨("check_values", none), "check_values", "check_values", defArgs s_check_values, defBody s_check_values, defScope s_check_values, [], []⟩
def dd_check_two : He.DefD := ⟨("check_two", none), "check_two", "check_two", defArgs s_check_two, defBody s_check_two, defScope s_check_two, [], []⟩
def dd_own_divisors : He.DefD := ⟨("own_divisors", none), "own_divisors", "own_divisors", defArgs s_own_divisors, defBody s_own_divisors, defScope s_own_divisors, [], []⟩
def dd_sign : He.DefD := ⟨("sign", none), "sign", "sign", defArgs s_sign, defBody s_sign, defScope s_sign, [], []⟩
def dd_together : He.DefD := ⟨("together", none), "together", "together", defArgs s_together, defBody s_together, defScope s_together, [], []⟩
def dd_over_own : He.DefD := ⟨("over_own", none), "over_own", "over_own", defArgs s_over_own, defBody s_over_own, defScope s_over_own, [], []⟩
def dd_back_from_own : He.DefD := ⟨("back_from_own", none), "back_from_own", "back_from_own", defArgs s_back_from_own, defBody s_back_from_own, defScope s_back_from_own, [], []⟩
def dd_whole_undoing : He.DefD := ⟨("whole_undoing", none), "whole_undoing", "whole_undoing", defArgs s_whole_undoing, defBody s_whole_undoing, defScope s_whole_undoing, [], []⟩
def dd_law_hand : He.DefD := ⟨("_law_hand", none), "_law_hand", "_law_hand", defArgs s_law_hand, defBody s_law_hand, defScope s_law_hand, [], []⟩
def dd_law_draw : He.DefD := ⟨("_law_draw", none), "_law_draw", "_law_draw", defArgs s_law_draw, defBody s_law_draw, defScope s_law_draw, [], []⟩
def dd_law_any : He.DefD := ⟨("_law_any", none), "_law_any", "_law_any", defArgs s_law_any, defBody s_law_any, defScope s_law_any, [], []⟩
def dd_law_common : He.DefD := ⟨("_law_common", none), "_law_common", "_law_common", defArgs s_law_common, defBody s_law_common, defScope s_law_common, [], []⟩
def dd_law_together : He.DefD := ⟨("_law_together", none), "_law_together", "_law_together", defArgs s_law_together, defBody s_law_together, defScope s_law_together, [], []⟩
def dd_law_row : He.DefD := ⟨("_law_row", none), "_law_row", "_law_row", defArgs s_law_row, defBody s_law_row, defScope s_law_row, [], []⟩
def dd_law_product : He.DefD := ⟨("_law_product", none), "_law_product", "_law_product", defArgs s_law_product, defBody s_law_product, defScope s_law_product, [], []⟩
def dd_law_is_product : He.DefD := ⟨("_law_is_product", none), "_law_is_product", "_law_is_product", defArgs s_law_is_product, defBody s_law_is_product, defScope s_law_is_product, [], []⟩
def dd_law_rows_right : He.DefD := ⟨("_law_rows_right", none), "_law_rows_right", "_law_rows_right", defArgs s_law_rows_right, defBody s_law_rows_right, defScope s_law_rows_right, [], []⟩
def dd_law : He.DefD := ⟨("law", none), "law", "law", defArgs s_law, defBody s_law, defScope s_law, [], []⟩
def fa0 : List He.Fa := [.glo "is_integer", .glo "is_within", .glo "check_number", .glo "common", .glo "factors", .glo "grown", .glo "divisors", .glo "is_values", .glo
    "check_values", .glo "check_two", .glo "own_divisors", .glo "sign", .glo "together", .glo "over_own", .glo "back_from_own", .glo "whole_undoing", .glo "_law_hand", .glo
    "_law_draw", .glo "_law_any", .glo "_law_common", .glo "_law_together", .glo "_law_row", .glo "_law_product", .glo "_law_is_product", .glo "_law_rows_right", .glo "law", .free
    "abs", .free "all", .free "bool", .free "int"]
def fa1 : List He.Fa := [.free "isinstance", .free "len", .free "range", .free "repr", .free "sorted", .free "sum", .free "tuple", .int "MOST" 1000000, .int "MOST_LONG" 200]
def fa : List He.Fa := fa0 ++ (fa1)
def fn0 : List He.DefD := [dd_is_integer, dd_is_within, dd_check_number, dd_common, dd_factors, dd_grown, dd_divisors, dd_is_values, dd_check_values, dd_check_two, dd_own_divisors,
    dd_sign, dd_together, dd_over_own, dd_back_from_own, dd_whole_undoing, dd_law_hand, dd_law_draw, dd_law_any, dd_law_common, dd_law_together, dd_law_row, dd_law_product,
    dd_law_is_product, dd_law_rows_right, dd_law]
def fn : List He.DefD := fn0
def nm0 : List PySem.Str := ["DivisorError", "NoNumber", "NoValues", "OtherSize", "MOST", "is_integer", "is_within", "check_number", "common", "factors", "divisors", "grown",
    "MOST_LONG", "is_values", "check_values", "check_two", "own_divisors", "sign", "together", "over_own", "back_from_own", "whole_undoing", "_law_hand", "_law_draw", "_law_any",
    "_law_common", "_law_together", "_law_row", "_law_product", "_law_is_product"]
def nm1 : List PySem.Str := ["_law_rows_right"]
def nm : List PySem.Str := nm0 ++ (nm1)
abbrev RR : PySem.W.OpenRow := PySem.W.OpenLaw.row PySem.Challenge.rw_divisorhall_k33_whole_rows_by_own_diviso
abbrev hk : PySem.W.Hook := He.hookD 4 fa fn
def ob (s : PySem.W.SharedT) : He.AlD := He.obsDG 4 fa fn (HandSHeadRun.getT s)
theorem ob_is (s : PySem.W.SharedT) : ob s = hk.obs s.abs := He.obsDG_eq (HandSHeadRun.getT_eq s)
theorem ran (w : World) : HandSHeadRun.RunEq RR (PySem.W.view RR.prog [36]) hk ob 6000 nm w := by
  intro os
  kernel_rfl
theorem txt_of {K : PySem.W.Frag} {h : Heap} {mg : Str → Option Value} (X : K.In h) (G : h.Ns mainGlobals mg) (c : He.SaysD fa fn K) : Txt K mg where
  d_is_integer := (c.def_ 0 (d := dd_is_integer) rfl).elim fun fd F => ⟨_, fd, He.glo_ok X G (c.fact 0 (f := .glo "is_integer") rfl), F⟩
  d_is_within := (c.def_ 1 (d := dd_is_within) rfl).elim fun fd F => ⟨_, fd, He.glo_ok X G (c.fact 1 (f := .glo "is_within") rfl), F⟩
  d_check_number := (c.def_ 2 (d := dd_check_number) rfl).elim fun fd F => ⟨_, fd, He.glo_ok X G (c.fact 2 (f := .glo "check_number") rfl), F⟩
  d_common := (c.def_ 3 (d := dd_common) rfl).elim fun fd F => ⟨_, fd, He.glo_ok X G (c.fact 3 (f := .glo "common") rfl), F⟩
  d_factors := (c.def_ 4 (d := dd_factors) rfl).elim fun fd F => ⟨_, fd, He.glo_ok X G (c.fact 4 (f := .glo "factors") rfl), F⟩
  d_grown := (c.def_ 5 (d := dd_grown) rfl).elim fun fd F => ⟨_, fd, He.glo_ok X G (c.fact 5 (f := .glo "grown") rfl), F⟩
  d_divisors := (c.def_ 6 (d := dd_divisors) rfl).elim fun fd F => ⟨_, fd, He.glo_ok X G (c.fact 6 (f := .glo "divisors") rfl), F⟩
  d_is_values := (c.def_ 7 (d := dd_is_values) rfl).elim fun fd F => ⟨_, fd, He.glo_ok X G (c.fact 7 (f := .glo "is_values") rfl), F⟩
  d_check_values := (c.def_ 8 (d := dd_check_values) rfl).elim fun fd F => ⟨_, fd, He.glo_ok X G (c.fact 8 (f := .glo "check_values") rfl), F⟩
  d_check_two := (c.def_ 9 (d := dd_check_two) rfl).elim fun fd F => ⟨_, fd, He.glo_ok X G (c.fact 9 (f := .glo "check_two") rfl), F⟩
  d_own_divisors := (c.def_ 10 (d := dd_own_divisors) rfl).elim fun fd F => ⟨_, fd, He.glo_ok X G (c.fact 10 (f := .glo "own_divisors") rfl), F⟩
  d_sign := (c.def_ 11 (d := dd_sign) rfl).elim fun fd F => ⟨_, fd, He.glo_ok X G (c.fact 11 (f := .glo "sign") rfl), F⟩
  d_together := (c.def_ 12 (d := dd_together) rfl).elim fun fd F => ⟨_, fd, He.glo_ok X G (c.fact 12 (f := .glo "together") rfl), F⟩
  d_over_own := (c.def_ 13 (d := dd_over_own) rfl).elim fun fd F => ⟨_, fd, He.glo_ok X G (c.fact 13 (f := .glo "over_own") rfl), F⟩
  d_back_from_own := (c.def_ 14 (d := dd_back_from_own) rfl).elim fun fd F => ⟨_, fd, He.glo_ok X G (c.fact 14 (f := .glo "back_from_own") rfl), F⟩
  d_whole_undoing := (c.def_ 15 (d := dd_whole_undoing) rfl).elim fun fd F => ⟨_, fd, He.glo_ok X G (c.fact 15 (f := .glo "whole_undoing") rfl), F⟩
  d_law_hand := (c.def_ 16 (d := dd_law_hand) rfl).elim fun fd F => ⟨_, fd, He.glo_ok X G (c.fact 16 (f := .glo "_law_hand") rfl), F⟩
  d_law_draw := (c.def_ 17 (d := dd_law_draw) rfl).elim fun fd F => ⟨_, fd, He.glo_ok X G (c.fact 17 (f := .glo "_law_draw") rfl), F⟩
  d_law_any := (c.def_ 18 (d := dd_law_any) rfl).elim fun fd F => ⟨_, fd, He.glo_ok X G (c.fact 18 (f := .glo "_law_any") rfl), F⟩
  d_law_common := (c.def_ 19 (d := dd_law_common) rfl).elim fun fd F => ⟨_, fd, He.glo_ok X G (c.fact 19 (f := .glo "_law_common") rfl), F⟩
  d_law_together := (c.def_ 20 (d := dd_law_together) rfl).elim fun fd F => ⟨_, fd, He.glo_ok X G (c.fact 20 (f := .glo "_law_together") rfl), F⟩
  d_law_row := (c.def_ 21 (d := dd_law_row) rfl).elim fun fd F => ⟨_, fd, He.glo_ok X G (c.fact 21 (f := .glo "_law_row") rfl), F⟩
  d_law_product := (c.def_ 22 (d := dd_law_product) rfl).elim fun fd F => ⟨_, fd, He.glo_ok X G (c.fact 22 (f := .glo "_law_product") rfl), F⟩
  d_law_is_product := (c.def_ 23 (d := dd_law_is_product) rfl).elim fun fd F => ⟨_, fd, He.glo_ok X G (c.fact 23 (f := .glo "_law_is_product") rfl), F⟩
  d_law_rows_right := (c.def_ 24 (d := dd_law_rows_right) rfl).elim fun fd F => ⟨_, fd, He.glo_ok X G (c.fact 24 (f := .glo "_law_rows_right") rfl), F⟩
  d_law := (c.def_ 25 (d := dd_law) rfl).elim fun fd F => ⟨_, fd, He.glo_ok X G (c.fact 25 (f := .glo "law") rfl), F⟩
  n_abs := He.free_ok X G (c.fact 26 (f := .free "abs") rfl)
  n_all := He.free_ok X G (c.fact 27 (f := .free "all") rfl)
  n_bool := He.free_ok X G (c.fact 28 (f := .free "bool") rfl)
  n_int := He.free_ok X G (c.fact 29 (f := .free "int") rfl)
  n_isinstance := He.free_ok X G (c.fact 30 (f := .free "isinstance") rfl)
  n_len := He.free_ok X G (c.fact 31 (f := .free "len") rfl)
  n_range := He.free_ok X G (c.fact 32 (f := .free "range") rfl)
  n_repr := He.free_ok X G (c.fact 33 (f := .free "repr") rfl)
  n_sorted := He.free_ok X G (c.fact 34 (f := .free "sorted") rfl)
  n_sum := He.free_ok X G (c.fact 35 (f := .free "sum") rfl)
  n_tuple := He.free_ok X G (c.fact 36 (f := .free "tuple") rfl)
  c_MOST := He.int_ok X G (c.fact 37 (f := .int "MOST" 1000000) rfl)
  c_MOST_LONG := He.int_ok X G (c.fact 38 (f := .int "MOST_LONG" 200) rfl)
theorem law_ok {P : Program} {w : World} {K : PySem.W.Frag} {mg : Str → Option Value} {base : Heap} (t : Txt K mg) {f : Addr} {fd : FuncData} (F : FunD K "law" "law" (defArgs s_law) (defBody s_law) (defScope s_law) [] [] f fd) : FnG P w K mg base 9 f fd ["script"] (spP K (spLaw 63)) := by
  have h_is_integer : Has P w K mg base 1 "is_integer" ["thing"] (spP K sp_is_integer) := has_is_integer t 
  have h_is_within : Has P w K mg base 2 "is_within" ["thing", "low", "high"] (spP K sp_is_within) := has_is_within t h_is_integer
  have h_check_number : Has P w K mg base 3 "check_number" ["thing", "low", "high"] (spP K sp_check_number) := has_check_number t h_is_within
  have h_common : Has P w K mg base 1 "common" ["one", "other"] (spP K sp_common) := has_common t 
  have h_factors : Has P w K mg base 4 "factors" ["number"] (spP K sp_factors) := has_factors t h_check_number
  have h_grown : Has P w K mg base 1 "grown" ["some", "prime", "many"] (spP K sp_grown) := has_grown t 
  have h_divisors : Has P w K mg base 5 "divisors" ["number"] (spP K sp_divisors) := has_divisors t h_factors h_grown
  have h_is_values : Has P w K mg base 2 "is_values" ["thing"] (spP K sp_is_values) := has_is_values t h_is_integer
  have h_check_values : Has P w K mg base 3 "check_values" ["values"] (spP K sp_check_values) := has_check_values t h_is_values
  have h_check_two : Has P w K mg base 4 "check_two" ["one", "other"] (spP K sp_check_two) := has_check_two t h_check_values
  have h_own_divisors : Has P w K mg base 6 "own_divisors" ["number"] (spP K sp_own_divisors) := has_own_divisors t h_divisors h_common
  have h_sign : Has P w K mg base 5 "sign" ["number"] (spP K sp_sign) := has_sign t h_factors
  have h_together : Has P w K mg base 7 "together" ["one", "other"] (spP K sp_together) := has_together t h_check_two h_own_divisors
  have h_over_own : Has P w K mg base 7 "over_own" ["values"] (spP K sp_over_own) := has_over_own t h_check_values h_own_divisors
  have h_back_from_own : Has P w K mg base 7 "back_from_own" ["sums"] (spP K sp_back_from_own) := has_back_from_own t h_check_values h_sign h_own_divisors
  have h_whole_undoing : Has P w K mg base 7 "whole_undoing" ["values"] (spP K sp_whole_undoing) := has_whole_undoing t h_check_values h_own_divisors
  have h_law_hand : Has P w K mg base 1 "_law_hand" ["script"] (spO K sp_law_hand) := has_law_hand t 
  have h_law_draw : Has P w K mg base 1 "_law_draw" ["hand", "below"] (spM K sp_law_draw) := has_law_draw t 
  have h_law_any : Has P w K mg base 2 "_law_any" ["hand", "some"] (spM K sp_law_any) := has_law_any t h_law_draw
  have h_law_common : Has P w K mg base 1 "_law_common" ["one", "other"] (spP K sp_law_common) := has_law_common t 
  have h_law_together : Has P w K mg base 2 "_law_together" ["one", "other"] (spP K sp_law_together) := has_law_together t h_law_common
  have h_law_row : Has P w K mg base 2 "_law_row" ["hand", "many"] (spM K sp_law_row) := has_law_row t h_law_draw
  have h_law_product : Has P w K mg base 2 "_law_product" ["hand", "many"] (spM K sp_law_product) := has_law_product t h_law_draw
  have h_law_is_product : Has P w K mg base 2 "_law_is_product" ["row"] (spP K sp_law_is_product) := has_law_is_product t h_law_common
  have h_law_rows_right : HasG P w K mg base 8 "_law_rows_right" ["hand", "many"] (spM K sp_law_rows_right) := has_law_rows_right t h_law_together h_whole_undoing h_law_row h_together h_back_from_own h_law_product h_law_is_product h_over_own h_law_any
  exact fn_law t F h_law_hand h_together h_over_own h_back_from_own h_whole_undoing h_law_rows_right h_law_draw
theorem facts {P : Program} {w : World} {K : PySem.W.Frag} {h : Heap} {mg : Str → Option Value} {f : Addr} (X : K.In h) (G : h.Ns mainGlobals mg) (hf : mg ("law" : Str) = some (.ref f)) (c : He.SaysD fa fn K) :
    ∃ fd : FuncData, (∀ (s : Shared) (v : Value), BindsTo s fd ⟨[v], []⟩ [("script", v)]) ∧ ∀ base : Heap, FnG P w K mg base 9 f fd ["script"] (spP K (spLaw 63)) := by
  have t := txt_of X G c
  obtain ⟨f', fd, e, F⟩ := t.d_law
  cases hf.symm.trans e
  exact ⟨fd, fun s v => FunD.bindsA (ps := ["script"]) F (fun _ _ _ _ _ _ us hl => match us, hl with | [_], _ => rfl) s [v] rfl, fun base => law_ok t F⟩
end T
end
set_option maxRecDepth 100000
open PySem PySem.W PySem.Calls
open PyProof.Rows hiding St
set_option maxHeartbeats 0 in
theorem PySem.Challenge.cw_divisorhall_k33_whole_rows_by_own_diviso_holds : PySem.Challenge.rw_divisorhall_k33_whole_rows_by_own_diviso.Holds := by
  w_on; o_law
  refine HandSHeadRun.head_any (r := OpenLaw.row PySem.Challenge.rw_divisorhall_k33_whole_rows_by_own_diviso) (q := view (OpenLaw.row PySem.Challenge.rw_divisorhall_k33_whole_rows_by_own_diviso).prog [36]) (H := T.hk) (ob := T.ob) (M := 6000) (loose := T.nm) (d := HandSHeadRun.topDef (OpenLaw.row PySem.Challenge.rw_divisorhall_k33_whole_rows_by_own_diviso).prog 36) (kwd := []) T.ob_is
    (by kernel_rfl) (fun s => by kernel_rfl) T.ran (by kernel_rfl) (by kernel_rfl) (by kernel_rfl) (by rfl) (by first | assumption | decide +kernel) (by decide +kernel) ⟨rfl, rfl, rfl, rfl, rfl, by decide +kernel⟩ ?hw ?hc
  case hw => w_witness2
  case hc =>
    refine Pd.walkG_ofE (l := PySem.Challenge.rw_divisorhall_k33_whole_rows_by_own_diviso) (n := 63) (k := 9) (x := "script") rfl (by decide) (by kernel_rfl) ⟨rfl, by decide, by decide⟩ ?F
    intro w mg fa h Y G hmg0
    obtain ⟨K, KX, c⟩ := Y
    have hmg : mg ("law" : PySem.Str) = some (.ref fa) := by
      have e : (HandSHeadRun.topDef (OpenLaw.row PySem.Challenge.rw_divisorhall_k33_whole_rows_by_own_diviso).prog 36).name = ("law" : PySem.Str) := by kernel_rfl
      rw [← e]
      exact hmg0
    obtain ⟨fd, hb, hF⟩ := T.facts (P := (PySem.Challenge.rw_divisorhall_k33_whole_rows_by_own_diviso).prog) (w := w) KX G hmg c
    exact ⟨K, fd, _, KX, hb, fun H a ns hl _ hS => Pd.spLaw_start hl hS, fun base _ _ => hF base⟩
