import PyProof.Rows.All
import Wide.All
import OpenK.AllK
import Wide.FinOn
import PyProof.Rows.IntBool
import PyProof.Rows.RuleB_bool
import PyProof.ReprRoads
import PyProof.CallFns
import KE.GoesEnum
import PyProof.Rows.StrJoinMade
import PyProof.StrLawsRepr
import HandS.ForMost
import HandS.Exc
import HandS.WordsExc
import HandS.Flow
import HandS.Wide
import HandS.TupAny
import HandS.TupLe
import HandS.IsInst
import HandS.Conv
import HandS.RaiseMore
import HandS.Iter
import HandS.Zip
import HandS.Comp
import HandS.Small
import HandS.Style
import HandS.Words
import HandS.ExcOwn
import HandS.Codes
import HandS.Ends
import HandS.TupMul
import HandS.WordsDict
import PySem.Challenge.RW_stampahead_k75_logs_told
set_option Elab.async false
set_option linter.all false
set_option maxRecDepth 100000
set_option maxHeartbeats 4000000
namespace Pv
open PySem PySem.Spec L2
open PyProof.Rows hiding St

/-! ### data, the store of what changes, worlds -/
abbrev D := PyData
/-- the r-th object of the store -/
@[reducible] def Rf (r : Nat) : D := .dict [(.int (r : Int), .none)]
inductive MO where
  /-- a list that may grow; a list that is read alone (the script) -/
  | lst (ds : List D) | ro (ds : List D)
  | dct (kvs : List (Key × D)) | dctT (kvs : List (List Key × D))
abbrev Sto := List MO
abbrev Sl := List (Option D)
/-- F: the part of the heap that never changes; rho: where the store's objects stand -/
structure Wd where
  F : Hp
  rho : List Addr

/-- a tuple of the module's own -/
@[reducible] def Gc (ds : List D) : D := .dict [(.none, .tuple ds)]
/-- a list that is read alone: the script, a list of the module's own -/
@[reducible] def Gs (ds : List D) : D := .dict [(.none, .list ds)]
mutual
def rep (K : PySem.W.Frag) (W : Wd) (v : V) : D → Prop
  | .none => v = .non
  | .bool b => v = .bl b
  | .int i => v = .int i
  | .str x => v = .str x
  | .list ds => ∃ a xs, v = .ref a ∧ W.F a = some (.lst xs) ∧ repL K W xs ds
  | .tuple ds => ∃ a xs, v = .ref a ∧ W.F a = some (.tup xs) ∧ repL K W xs ds
  | .dict [(.int i, .none)] => ∃ (r : Nat) (a : Addr), i = (r : Int) ∧ v = .ref a ∧ W.rho[r]? = some a
  | .dict [(.none, .tuple ds)] => ∃ a xs, v = .ref a ∧ SqT K (fun _ => none) a xs ∧ repL K W xs ds
  | .dict [(.none, .list ds)] => ∃ a xs, v = .ref a ∧ SqL K W.F a xs ∧ repL K W xs ds
  | .dict _ => False
def repL (K : PySem.W.Frag) (W : Wd) (vs : List V) : List D → Prop
  | [] => vs = []
  | d :: ds => ∃ v us, vs = v :: us ∧ rep K W v d ∧ repL K W us ds
end
/-- pairs: the keys are the same, the values are told -/
def repP {κ : Type} (K : PySem.W.Frag) (W : Wd) : List (κ × V) → List (κ × D) → Prop := Paired fun p q => p.1 = q.1 ∧ rep K W p.2 q.2
def repO (K : PySem.W.Frag) (W : Wd) (H : Hp) (a : Addr) : MO → Prop
  | .lst ds => ∃ xs, H a = some (.lst xs) ∧ repL K W xs ds
  | .ro ds => ∃ o xs, H a = some (.frz o (.lst xs)) ∧ repL K W xs ds
  | .dct kvs => ∃ ks, H a = some (.dK ks) ∧ repP K W ks kvs
  | .dctT kvs => ∃ ks, H a = some (.dT ks) ∧ repP K W ks kvs
structure HR (K : PySem.W.Frag) (W : Wd) (H : Hp) (st : Sto) : Prop where
  len : W.rho.length = st.length
  nd : W.rho.Nodup
  sub : ∀ b o, W.F b = some o → H b = some o
  obj : ∀ (r : Nat) (a : Addr) (m : MO), W.rho[r]? = some a → st[r]? = some m → W.F a = none ∧ repO K W H a m
structure Ext (W : Wd) (H : Hp) (W' : Wd) (H' : Hp) : Prop where
  fr : ∀ b o, W.F b = some o → W'.F b = some o
  rh : ∃ r, W'.rho = W.rho ++ r ∧ ∀ a ∈ r, H a = none
  out : ∀ b o, H b = some o → b ∉ W.rho → H' b = some o
  non : ∀ b, H' b = none → H b = none
  nf : ∀ b o, W'.F b = some o → W.F b = some o ∨ H b = none

section
variable {K : PySem.W.Frag} {W W' W'' : Wd} {H H' H'' : Hp} {st st' : Sto} {v : V} {vs us : List V} {d : D} {ds es : List D} {a : Addr}
theorem Ext.refl : Ext W H W H := ⟨fun _ _ h => h, ⟨[], by simp, fun _ h => by cases h⟩, fun _ _ h _ => h, fun _ h => h, fun _ _ h => .inl h⟩
theorem Ext.trans (e : Ext W H W' H') (f : Ext W' H' W'' H'') : Ext W H W'' H'' := by
  obtain ⟨r, hr, hn⟩ := e.rh
  obtain ⟨q, hq, hm⟩ := f.rh
  refine ⟨fun b o h => f.fr b o (e.fr b o h), ⟨r ++ q, by rw [hq, hr, List.append_assoc], fun a ha => ?_⟩, fun b o h hb => ?_, fun b h => e.non b (f.non b h), fun b o h => ?_⟩
  · rcases List.mem_append.mp ha with h | h
    · exact hn a h
    · exact e.non a (hm a h)
  · refine f.out b o (e.out b o h hb) ?_
    rw [hr]
    intro hx
    rcases List.mem_append.mp hx with h' | h'
    · exact hb h'
    · rw [hn b h'] at h; cases h
  · rcases f.nf b o h with h | h
    · exact e.nf b o h
    · exact .inr (e.non b h)
theorem sqT_mono {F F' : Hp} {xs : List V} (hf : ∀ b o, F b = some o → F' b = some o) (h : SqT K F a xs) : SqT K F' a xs := by
  rcases h with (h | ⟨o, h⟩) | h
  · exact .inl (.inl (hf _ _ h))
  · exact .inl (.inr ⟨o, hf _ _ h⟩)
  · exact .inr h
theorem sqL_mono {F F' : Hp} {xs : List V} (hf : ∀ b o, F b = some o → F' b = some o) (h : SqL K F a xs) : SqL K F' a xs := by
  rcases h with (h | ⟨o, h⟩) | h
  · exact .inl (.inl (hf _ _ h))
  · exact .inl (.inr ⟨o, hf _ _ h⟩)
  · exact .inr h
theorem rep_dict {kvs : List (D × D)} (h : rep K W v (.dict kvs)) : (∃ (r : Nat) (a : Addr), kvs = [(.int (r : Int), .none)] ∧ v = .ref a ∧ W.rho[r]? = some a) ∨
    (∃ ds a xs, kvs = [(.none, .tuple ds)] ∧ v = .ref a ∧ SqT K (fun _ => none) a xs ∧ repL K W xs ds) ∨
    ∃ ds a xs, kvs = [(.none, .list ds)] ∧ v = .ref a ∧ SqL K W.F a xs ∧ repL K W xs ds := by
  match kvs, h with
  | [(.int i, .none)], ⟨r, a, e1, e2, e3⟩ => subst e1; exact .inl ⟨r, a, rfl, e2, e3⟩
  | [(.none, .tuple ds)], ⟨a, xs, e1, e2, e3⟩ => exact .inr (.inl ⟨ds, a, xs, rfl, e1, e2, e3⟩)
  | [(.none, .list ds)], ⟨a, xs, e1, e2, e3⟩ => exact .inr (.inr ⟨ds, a, xs, rfl, e1, e2, e3⟩)
mutual
theorem rep_mono (hf : ∀ b o, W.F b = some o → W'.F b = some o) (hr : ∀ (r : Nat) (a : Addr), W.rho[r]? = some a → W'.rho[r]? = some a) : ∀ {v : V} (d : D), rep K W v d → rep K W' v d
  | _, .none, h => h
  | _, .bool _, h => h
  | _, .int _, h => h
  | _, .str _, h => h
  | _, .list ds, ⟨a, xs, e, h, l⟩ => ⟨a, xs, e, hf _ _ h, repL_mono hf hr ds l⟩
  | _, .tuple ds, ⟨a, xs, e, h, l⟩ => ⟨a, xs, e, hf _ _ h, repL_mono hf hr ds l⟩
  | _, .dict [(.int _, .none)], ⟨r, a, e1, e2, h⟩ => ⟨r, a, e1, e2, hr r a h⟩
  | _, .dict [(.none, .tuple ds)], ⟨a, xs, e, h, l⟩ => ⟨a, xs, e, h, repL_mono hf hr ds l⟩
  | _, .dict [(.none, .list ds)], ⟨a, xs, e, h, l⟩ => ⟨a, xs, e, sqL_mono hf h, repL_mono hf hr ds l⟩
theorem repL_mono (hf : ∀ b o, W.F b = some o → W'.F b = some o) (hr : ∀ (r : Nat) (a : Addr), W.rho[r]? = some a → W'.rho[r]? = some a) : ∀ {vs : List V} (ds : List D), repL K W vs ds → repL K W' vs ds
  | _, [], h => h
  | _, d :: ds, ⟨v, us, e, h, l⟩ => ⟨v, us, e, rep_mono hf hr d h, repL_mono hf hr ds l⟩
end
theorem Ext.at (e : Ext W H W' H') (r : Nat) (a : Addr) (h : W.rho[r]? = some a) : W'.rho[r]? = some a := by
  obtain ⟨q, hq, _⟩ := e.rh
  have hlt : r < W.rho.length := (List.getElem?_eq_some_iff.mp h).1
  rw [hq, List.getElem?_append_left hlt]; exact h
theorem Ext.rep (e : Ext W H W' H') (h : rep K W v d) : Pv.rep K W' v d := rep_mono e.fr e.at d h
theorem Ext.repL (e : Ext W H W' H') (h : repL K W vs ds) : Pv.repL K W' vs ds := repL_mono e.fr e.at ds h
theorem repP_mono {κ : Type} {ks : List (κ × V)} {kvs : List (κ × D)} (hf : ∀ b o, W.F b = some o → W'.F b = some o) (hr : ∀ (r : Nat) (a : Addr), W.rho[r]? = some a → W'.rho[r]? = some a) (h : repP K W ks kvs) : repP K W' ks kvs :=
  Paired.mapP h fun _ _ z => ⟨z.1, rep_mono hf hr _ z.2⟩
theorem repO_mono {m : MO} (hf : ∀ b o, W.F b = some o → W'.F b = some o) (hr : ∀ (r : Nat) (a : Addr), W.rho[r]? = some a → W'.rho[r]? = some a) (hH : ∀ o, H a = some o → H' a = some o) (h : repO K W H a m) : repO K W' H' a m := by
  cases m with
  | lst ds => obtain ⟨xs, h1, h2⟩ := h; exact ⟨xs, hH _ h1, repL_mono hf hr ds h2⟩
  | ro ds => obtain ⟨o, xs, h1, h2⟩ := h; exact ⟨o, xs, hH _ h1, repL_mono hf hr ds h2⟩
  | dct kvs => obtain ⟨xs, h1, h2⟩ := h; exact ⟨xs, hH _ h1, repP_mono hf hr h2⟩
  | dctT kvs => obtain ⟨xs, h1, h2⟩ := h; exact ⟨xs, hH _ h1, repP_mono hf hr h2⟩
theorem repO.some {m : MO} (h : repO K W H a m) : ∃ o, H a = some o := by
  cases m with
  | lst ds => obtain ⟨xs, h1, _⟩ := h; exact ⟨_, h1⟩
  | ro ds => obtain ⟨o, xs, h1, _⟩ := h; exact ⟨_, h1⟩
  | dct kvs => obtain ⟨xs, h1, _⟩ := h; exact ⟨_, h1⟩
  | dctT kvs => obtain ⟨xs, h1, _⟩ := h; exact ⟨_, h1⟩
theorem HR.at (h : HR K W H st) {r : Nat} (e : W.rho[r]? = some a) : ∃ m, st[r]? = some m ∧ W.F a = none ∧ repO K W H a m := by
  have hlt : r < st.length := by rw [← h.len]; exact (List.getElem?_eq_some_iff.mp e).1
  have hm : st[r]? = some st[r] := List.getElem?_eq_getElem hlt
  obtain ⟨p, q⟩ := h.obj r a _ e hm
  exact ⟨_, hm, p, q⟩
theorem HR.at' (h : HR K W H st) {r : Nat} {m : MO} (e : st[r]? = some m) : ∃ a, W.rho[r]? = some a ∧ W.F a = none ∧ repO K W H a m := by
  have hlt : r < W.rho.length := by rw [h.len]; exact (List.getElem?_eq_some_iff.mp e).1
  have hm : W.rho[r]? = some W.rho[r] := List.getElem?_eq_getElem hlt
  obtain ⟨p, q⟩ := h.obj r _ m hm e
  exact ⟨_, hm, p, q⟩
theorem HR.mem (h : HR K W H st) (ha : a ∈ W.rho) : ∃ o, H a = some o := by
  obtain ⟨r, hr⟩ := List.mem_iff_getElem?.mp ha
  obtain ⟨m, _, _, q⟩ := h.at hr
  exact q.some
theorem HR.free (h : HR K W H st) (hp : H a = none) : a ∉ W.rho := fun ha => by
  obtain ⟨o, e⟩ := h.mem ha
  rw [e] at hp; cases hp
theorem HR.freeF (h : HR K W H st) (hp : H a = none) : W.F a = none := by
  cases q : W.F a with
  | none => rfl
  | some o => rw [h.sub _ _ q] at hp; cases hp
/-- a new thing that never changes -/
theorem HR.new {o : HO} (h : HR K W H st) (hp : H a = none) : HR K ⟨upd W.F a o, W.rho⟩ (upd H a o) st ∧ Ext W H ⟨upd W.F a o, W.rho⟩ (upd H a o) := by
  have hf : ∀ b u, W.F b = some u → upd W.F a o b = some u := fun b u e => by
    have hb : b ≠ a := fun z => by subst z; rw [h.freeF hp] at e; cases e
    rw [upd_ne hb]; exact e
  have hn := h.free hp
  refine ⟨⟨h.len, h.nd, fun b u e => ?_, fun r b m e1 e2 => ?_⟩, ⟨hf, ⟨[], by simp, fun _ z => by cases z⟩, fun b u e _ => ?_, fun b e => ?_, fun b u e => ?_⟩⟩
  · have e' : upd W.F a o b = some u := e
    by_cases hb : b = a
    · subst hb; rw [upd_same] at e' ⊢; exact e'
    · rw [upd_ne hb] at e' ⊢; exact h.sub b u e'
  · have hb : b ≠ a := fun z => hn (by rw [← z]; exact List.mem_of_getElem? e1)
    obtain ⟨p, q⟩ := h.obj r b m e1 e2
    exact ⟨by show upd W.F a o b = none; rw [upd_ne hb]; exact p, repO_mono (W := W) hf (fun _ _ z => z) (fun u z => by rw [upd_ne hb]; exact z) q⟩
  · have hb : b ≠ a := fun z => by subst z; rw [hp] at e; cases e
    rw [upd_ne hb]; exact e
  · by_cases hb : b = a
    · subst hb; exact hp
    · rw [upd_ne hb] at e; exact e
  · have e' : upd W.F a o b = some u := e
    by_cases hb : b = a
    · subst hb; exact .inr hp
    · rw [upd_ne hb] at e'; exact .inl e'
/-- a new object of the store -/
theorem HR.newM {o : HO} {m : MO} (h : HR K W H st) (hp : H a = none) (ho : repO K ⟨W.F, W.rho ++ [a]⟩ (upd H a o) a m) :
    HR K ⟨W.F, W.rho ++ [a]⟩ (upd H a o) (st ++ [m]) ∧ Ext W H ⟨W.F, W.rho ++ [a]⟩ (upd H a o) := by
  have hn := h.free hp
  have hx : Ext W H ⟨W.F, W.rho ++ [a]⟩ (upd H a o) := by
    refine ⟨fun _ _ e => e, ⟨[a], rfl, fun b hb => ?_⟩, fun b u e _ => ?_, fun b e => ?_, fun _ _ e => .inl e⟩
    · have : b = a := by simpa using hb
      subst this; exact hp
    · have hb : b ≠ a := fun z => by subst z; rw [hp] at e; cases e
      rw [upd_ne hb]; exact e
    · by_cases hb : b = a
      · subst hb; exact hp
      · rw [upd_ne hb] at e; exact e
  refine ⟨⟨by simp [h.len], ?_, fun b u e => ?_, fun r b m' e1 e2 => ?_⟩, hx⟩
  · exact List.nodup_append.mpr ⟨h.nd, by simp, fun x hx' y hy => by
      have hy' : y = a := by simpa using hy
      rw [hy']
      exact fun z => hn (z ▸ hx')⟩
  · have hb : b ≠ a := fun z => by subst z; rw [h.freeF hp] at e; cases e
    rw [upd_ne hb]; exact h.sub b u e
  · by_cases hr : r < W.rho.length
    · rw [List.getElem?_append_left hr] at e1
      rw [List.getElem?_append_left (by rw [← h.len]; exact hr)] at e2
      have hb : b ≠ a := fun z => hn (by rw [← z]; exact List.mem_of_getElem? e1)
      obtain ⟨p, q⟩ := h.obj r b m' e1 e2
      exact ⟨p, repO_mono (W := W) hx.fr hx.at (fun u z => by rw [upd_ne hb]; exact z) q⟩
    · rw [List.getElem?_append_right (by omega)] at e1
      rw [List.getElem?_append_right (by rw [← h.len]; omega)] at e2
      rw [h.len] at e1
      cases hk : r - st.length with
      | zero =>
        rw [hk] at e1 e2
        simp at e1 e2
        subst e1; subst e2
        exact ⟨h.freeF hp, ho⟩
      | succ k => rw [hk] at e1; simp at e1
/-- an object of the store is changed -/
theorem HR.set {o : HO} {m : MO} {r : Nat} (h : HR K W H st) (hr : W.rho[r]? = some a) (ho : repO K W (upd H a o) a m) : HR K W (upd H a o) (st.set r m) ∧ Ext W H W (upd H a o) := by
  obtain ⟨_, _, hF, hO⟩ := h.at hr
  obtain ⟨u0, hu0⟩ := hO.some
  have ham : a ∈ W.rho := List.mem_of_getElem? hr
  refine ⟨⟨by rw [List.length_set]; exact h.len, h.nd, fun b u e => ?_, fun q b m' e1 e2 => ?_⟩, ⟨fun _ _ e => e, ⟨[], by simp, fun _ z => by cases z⟩, fun b u e hb => ?_, fun b e => ?_, fun _ _ e => .inl e⟩⟩
  · have hb : b ≠ a := fun z => by subst z; rw [hF] at e; cases e
    rw [upd_ne hb]; exact h.sub b u e
  · by_cases hq : q = r
    · subst hq
      rw [hr] at e1; cases e1
      rw [List.getElem?_set_self (by rw [← h.len]; exact (List.getElem?_eq_some_iff.mp hr).1)] at e2
      cases e2
      exact ⟨hF, ho⟩
    · rw [List.getElem?_set_ne (Ne.symm hq)] at e2
      have hb : b ≠ a := fun z => by
        subst z
        exact hq ((List.getElem?_inj (List.getElem?_eq_some_iff.mp e1).1 h.nd).mp (e1.trans hr.symm))
      obtain ⟨p, q'⟩ := h.obj q b m' e1 e2
      exact ⟨p, repO_mono (W := W) (fun _ _ z => z) (fun _ _ z => z) (fun u z => by rw [upd_ne hb]; exact z) q'⟩
  · have hb : b ≠ a := fun z => hb (z ▸ ham)
    rw [upd_ne hb]; exact e
  · by_cases hb : b = a
    · subst hb; rw [upd_same] at e; cases e
    · rw [upd_ne hb] at e; exact e

/-- a list that was made beside the store is kept: as data, or as an object of the store -/
theorem HR.keepF {xs : List V} (h : HR K W H st) (e : H a = some (.lst xs)) (hn : a ∉ W.rho) (hF : W.F a = none) : HR K ⟨upd W.F a (.lst xs), W.rho⟩ H st := by
  refine ⟨h.len, h.nd, fun b u q => ?_, fun r b m e1 e2 => ?_⟩
  · have q' : upd W.F a (.lst xs) b = some u := q
    by_cases hb : b = a
    · subst hb; rw [upd_same] at q'; cases q'; exact e
    · rw [upd_ne hb] at q'; exact h.sub b u q'
  · have hb : b ≠ a := fun z => hn (by rw [← z]; exact List.mem_of_getElem? e1)
    obtain ⟨p, q⟩ := h.obj r b m e1 e2
    refine ⟨by show upd W.F a (.lst xs) b = none; rw [upd_ne hb]; exact p, repO_mono (W := W) (fun c o z => ?_) (fun _ _ z => z) (fun u z => z) q⟩
    have hc : c ≠ a := fun w => by subst w; rw [hF] at z; cases z
    show upd W.F a (.lst xs) c = some o
    rw [upd_ne hc]; exact z
theorem HR.keepM {m : MO} (h : HR K W H st) (hn : a ∉ W.rho) (hF : W.F a = none) (ho : repO K ⟨W.F, W.rho ++ [a]⟩ H a m) : HR K ⟨W.F, W.rho ++ [a]⟩ H (st ++ [m]) := by
  refine ⟨by simp [h.len], List.nodup_append.mpr ⟨h.nd, by simp, fun x hx' y hy => by
      have hy' : y = a := by simpa using hy
      rw [hy']
      exact fun z => hn (z ▸ hx')⟩, h.sub, fun r b m' e1 e2 => ?_⟩
  by_cases hr : r < W.rho.length
  · rw [List.getElem?_append_left hr] at e1
    rw [List.getElem?_append_left (by rw [← h.len]; exact hr)] at e2
    obtain ⟨p, q⟩ := h.obj r b m' e1 e2
    exact ⟨p, repO_mono (W := W) (fun _ _ z => z) (fun r b z => by
      have hlt : r < W.rho.length := (List.getElem?_eq_some_iff.mp z).1
      show (W.rho ++ [a])[r]? = some b
      rw [List.getElem?_append_left hlt]; exact z) (fun u z => z) q⟩
  · rw [List.getElem?_append_right (by omega)] at e1
    rw [List.getElem?_append_right (by rw [← h.len]; omega)] at e2
    rw [h.len] at e1
    cases hk : r - st.length with
    | zero =>
      rw [hk] at e1 e2
      simp at e1 e2
      subst e1; subst e2
      exact ⟨hF, ho⟩
    | succ k => rw [hk] at e1; simp at e1

/-! ### slots -/
structure SR (K : PySem.W.Frag) (W : Wd) (sh : St) (sl : Sl) : Prop where
  len : sh.length = sl.length
  at_ : ∀ (i : Nat) (d : D), sl[i]? = some (some d) → ∃ v, sh[i]? = some (some v) ∧ rep K W v d
theorem SR.ext {sh : St} {sl : Sl} (e : Ext W H W' H') (s : SR K W sh sl) : SR K W' sh sl := ⟨s.len, fun i d h => let ⟨v, a, b⟩ := s.at_ i d h; ⟨v, a, e.rep b⟩⟩
theorem SR.set {sh : St} {sl : Sl} (s : SR K W sh sl) (i : Nat) (h : rep K W v d) : SR K W (sh.set i (some v)) (sl.set i (some d)) := by
  refine ⟨by simp [s.len], fun j e hj => ?_⟩
  by_cases hij : j = i
  · subst hij
    by_cases hlt : j < sl.length
    · rw [List.getElem?_set_self hlt] at hj
      cases hj
      exact ⟨v, List.getElem?_set_self (by rw [s.len]; exact hlt), h⟩
    · rw [List.getElem?_eq_none (by simp; omega)] at hj; cases hj
  · rw [List.getElem?_set_ne (Ne.symm hij)] at hj ⊢
    exact s.at_ j e hj
/-- slots are forgotten -/
theorem SR.weak {sh : St} {sl sl' : Sl} (s : SR K W sh sl) (hl : sl'.length = sl.length) (h : ∀ (i : Nat) (d : D), sl'[i]? = some (some d) → sl[i]? = some (some d)) : SR K W sh sl' :=
  ⟨s.len.trans hl.symm, fun i d e => s.at_ i d (h i d e)⟩

/-! ### what a reckoning ends with -/
/-- an exception: its class's name, its fields -/
abbrev XV := Str × List (Str × D)
inductive R (α : Type) where
  | ok (a : α) (st : Sto)
  | exc (x : XV) (st : Sto)
  | bad
abbrev M := Sl → Sto → R D
def R.bind {α β : Type} (x : R α) (f : α → Sto → R β) : R β :=
  match x with
  | .ok a st => f a st
  | .exc e st => .exc e st
  | .bad => .bad
@[simp] theorem R.bind_ok {α β : Type} (a : α) (st : Sto) (f : α → Sto → R β) : (R.ok a st).bind f = f a st := rfl
@[simp] theorem R.bind_exc {α β : Type} (x : XV) (st : Sto) (f : α → Sto → R β) : (R.exc x st).bind f = .exc x st := rfl
@[simp] theorem R.bind_bad {α β : Type} (f : α → Sto → R β) : (R.bad : R α).bind f = .bad := rfl
def lift {α : Type} (o : Option α) (st : Sto) : R α :=
  match o with
  | some a => .ok a st
  | none => .bad
@[simp] theorem lift_some {α : Type} (a : α) (st : Sto) : lift (some a) st = .ok a st := rfl
@[simp] theorem lift_none {α : Type} (st : Sto) : lift (none : Option α) st = .bad := rfl
end

/-- the facts of the written part that an exception's telling leans on -/
structure Nv where
  K : PySem.W.Frag
  mg : Str → Option Value
/-- how an exception is told: its class, its own dict -/
def repX (N : Nv) (W : Wd) (H : Hp) (cls : Value) (dd : Option Addr) (x : XV) : Prop :=
  ∃ C, N.mg x.1 = some (.ref C) ∧ cls = .ref C ∧ ∃ d fs, dd = some d ∧ H d = some (.xd fs) ∧ repP N.K W fs x.2
/-- what is wanted, given what the reckoning ends with -/
def Post (N : Nv) (W : Wd) (H : Hp) (Q : VK) (E : XK) : R D → Prop
  | .ok d st => ∀ W' v H', Ext W H W' H' → HR N.K W' H' st → rep N.K W' v d → Q v H'
  | .exc x st => ∀ W' cls dd H', Ext W H W' H' → HR N.K W' H' st → repX N W' H' cls dd x → E cls dd H'
  | .bad => False
abbrev nv (X : Cx) : Nv := ⟨X.K, X.mg⟩
/-- the reading of a reckoning -/
def rd (N : Nv) (Wx : WX) (m : M) : TE := fun sh H Q => ∃ W sl st, HR N.K W H st ∧ SR N.K W sh sl ∧ Post N W H Q (fun cls dd H' => Wx cls dd sh H') (m sl st)
def GE (X : Cx) (Wx : WX) (e : Expr) (m : M) : Prop := PE X e (rd (nv X) Wx m)

section
variable {X : Cx} {Wx : WX} {N : Nv} {W W' : Wd} {H H' : Hp} {st : Sto} {sh : St} {sl : Sl}
theorem _root_.L2.PE.imp {e : Expr} {t t' : TE} (h : PE X e t) (i : ∀ σ H Q, t' σ H Q → t σ H Q) : PE X e t' := ⟨fun pins s σ H Q I q => h.run pins s σ H Q I (i σ H Q q)⟩
theorem _root_.L2.PE.or {e : Expr} {t t' : TE} (h : PE X e t) (h' : PE X e t') : PE X e (fun σ H Q => t σ H Q ∨ t' σ H Q) :=
  ⟨fun pins s σ H Q I q => q.elim (h.run pins s σ H Q I) (h'.run pins s σ H Q I)⟩
theorem _root_.L2.PT.imp {e : Expr} {t t' : TT} (h : PT X e t) (i : ∀ σ H Q, t' σ H Q → t σ H Q) : PT X e t' := ⟨fun pins s σ H Q I q => h.run pins s σ H Q I (i σ H Q q)⟩
theorem _root_.L2.PS.imp {e : Stmt} {t t' : TS} (h : PS X e t) (i : ∀ D σ H, t' D σ H → t D σ H) : PS X e t' := ⟨fun pins s σ H D I q => h.run pins s σ H D I (i D σ H q)⟩
theorem _root_.L2.PSs.imp {e : List Stmt} {t t' : TS} (h : PSs X e t) (i : ∀ D σ H, t' D σ H → t D σ H) : PSs X e t' := ⟨fun pins s σ H D I q => h.run pins s σ H D I (i D σ H q)⟩
theorem _root_.L2.PA.imp {e : List Expr} {t t' : TA} (h : PA X e t) (i : ∀ σ H Q, t' σ H Q → t σ H Q) : PA X e t' := ⟨fun pos pins s σ H Q I q => h.run pos pins s σ H Q I (i σ H Q q)⟩
theorem Post.ext {Q : VK} {E : XK} {r : R D} (e : Ext W H W' H') (h : Post N W H Q E r) : Post N W' H' Q E r := by
  cases r with
  | ok d st => exact fun W2 v H2 e2 hr rp => h W2 v H2 (e.trans e2) hr rp
  | exc x st => exact fun W2 c dd H2 e2 hr rp => h W2 c dd H2 (e.trans e2) hr rp
  | bad => exact h
theorem Post.mono {Q Q' : VK} {E E' : XK} {r : R D} (h : Post N W H Q E r) (hq : ∀ v H', Q v H' → Q' v H') (he : ∀ c d H', E c d H' → E' c d H') : Post N W H Q' E' r := by
  cases r with
  | ok d st => exact fun W2 v H2 e2 hr rp => hq _ _ (h W2 v H2 e2 hr rp)
  | exc x st => exact fun W2 c dd H2 e2 hr rp => he _ _ _ (h W2 c dd H2 e2 hr rp)
  | bad => exact h
/-- a part is reckoned, then the rest -/
theorem rd_bind {m : M} {f : D → Sto → R D} {Q Q2 : VK} (hr : HR N.K W H st) (hs : SR N.K W sh sl)
    (h : Post N W H Q (fun cls dd H' => Wx cls dd sh H') ((m sl st).bind f))
    (k : ∀ d st1 W1 v H1, m sl st = .ok d st1 → Ext W H W1 H1 → HR N.K W1 H1 st1 → SR N.K W1 sh sl → rep N.K W1 v d → Post N W1 H1 Q (fun cls dd H' => Wx cls dd sh H') (f d st1) → Q2 v H1) : rd N Wx m sh H Q2 := by
  refine ⟨W, sl, st, hr, hs, ?_⟩
  cases e : m sl st with
  | ok d st1 => rw [e] at h; exact fun W1 v H1 e1 h1 r1 => k d st1 W1 v H1 e e1 h1 (hs.ext e1) r1 (Post.ext e1 h)
  | exc x st1 => rw [e] at h; exact h
  | bad => rw [e] at h; exact h
end
end Pv
set_option Elab.async false
set_option linter.all false
set_option maxRecDepth 100000
set_option maxHeartbeats 4000000
namespace Pv
open PySem PySem.Spec L2
open PyProof.Rows hiding St

/-! ### views -/
def deref (st : Sto) (d : D) : D :=
  match d with
  | .dict [(.int r, .none)] => (match st[r.toNat]? with | some (.lst ds) => .list ds | _ => d)
  | .dict [(.none, .tuple ds)] => .tuple ds
  | _ => d
@[simp] theorem deref_gc (st : Sto) (ds : List D) : deref st (Gc ds) = .tuple ds := rfl
@[simp] theorem deref_gs (st : Sto) (ds : List D) : deref st (Gs ds) = Gs ds := rfl
@[simp] theorem deref_none (st : Sto) : deref st .none = .none := rfl
@[simp] theorem deref_bool (st : Sto) (b : Bool) : deref st (.bool b) = .bool b := rfl
@[simp] theorem deref_int (st : Sto) (i : Int) : deref st (.int i) = .int i := rfl
@[simp] theorem deref_str (st : Sto) (x : Str) : deref st (.str x) = .str x := rfl
@[simp] theorem deref_list (st : Sto) (ds : List D) : deref st (.list ds) = .list ds := rfl
@[simp] theorem deref_tuple (st : Sto) (ds : List D) : deref st (.tuple ds) = .tuple ds := rfl
theorem deref_ref (st : Sto) (r : Nat) : deref st (Rf r) = (match st[r]? with | some (.lst ds) => .list ds | _ => Rf r) := by
  show (match st[(r : Int).toNat]? with | some (.lst ds) => PyData.list ds | _ => Rf r) = _
  rw [Int.toNat_natCast]

section
variable {K : PySem.W.Frag} {W W' : Wd} {H H' : Hp} {st st' : Sto} {v : V} {vs us : List V} {d : D} {ds es : List D} {a : Addr}
theorem repL_length : ∀ {vs : List V} {ds : List D}, repL K W vs ds → vs.length = ds.length
  | _, [], h => by cases h; rfl
  | _, d :: ds, ⟨v, us, e, _, l⟩ => by rw [e, List.length_cons, List.length_cons, repL_length l]
theorem repL_get : ∀ {vs : List V} {ds : List D} (i : Nat) {d : D}, repL K W vs ds → ds[i]? = some d → ∃ v, vs[i]? = some v ∧ rep K W v d
  | _, [], i, _, _, e => by simp at e
  | _, d :: ds, 0, _, ⟨v, us, e, r, l⟩, h => by simp at h; subst h; subst e; exact ⟨v, rfl, r⟩
  | _, d :: ds, i + 1, _, ⟨v, us, e, r, l⟩, h => by subst e; simpa using repL_get i l (by simpa using h)
theorem repL_get' : ∀ {vs : List V} {ds : List D} (i : Nat) {v : V}, repL K W vs ds → vs[i]? = some v → ∃ d, ds[i]? = some d ∧ rep K W v d
  | _, [], i, _, h, e => by cases h; simp at e
  | _, d :: ds, 0, _, ⟨v, us, e, r, l⟩, h => by subst e; simp at h; subst h; exact ⟨d, rfl, r⟩
  | _, d :: ds, i + 1, _, ⟨v, us, e, r, l⟩, h => by subst e; simpa using repL_get' i l (by simpa using h)
theorem repL_append : ∀ {vs us : List V} {ds es : List D}, repL K W vs ds → repL K W us es → repL K W (vs ++ us) (ds ++ es)
  | _, _, [], _, h, k => by cases h; exact k
  | _, _, d :: ds, _, ⟨v, ws, e, r, l⟩, k => by subst e; exact ⟨v, ws ++ _, rfl, r, repL_append l k⟩
theorem repL_take : ∀ {vs : List V} {ds : List D} (n : Nat), repL K W vs ds → repL K W (vs.take n) (ds.take n)
  | _, _, 0, _ => by simp [repL]
  | _, [], n + 1, h => by cases h; simp [repL]
  | _, d :: ds, n + 1, ⟨v, ws, e, r, l⟩ => by subst e; exact ⟨v, _, rfl, r, repL_take n l⟩
theorem repL_drop : ∀ {vs : List V} {ds : List D} (n : Nat), repL K W vs ds → repL K W (vs.drop n) (ds.drop n)
  | _, _, 0, h => by simpa using h
  | _, [], n + 1, h => by cases h; simp [repL]
  | _, d :: ds, n + 1, ⟨v, ws, e, r, l⟩ => by subst e; simpa using repL_drop n l
theorem repL_one (h : rep K W v d) : repL K W [v] [d] := ⟨v, [], rfl, h, rfl⟩
theorem repL_set : ∀ {vs : List V} {ds : List D} (i : Nat), repL K W vs ds → rep K W v d → repL K W (vs.set i v) (ds.set i d)
  | _, [], i, h, _ => by cases h; simp [repL]
  | _, e :: ds, 0, ⟨w, ws, q, r, l⟩, k => by subst q; exact ⟨v, ws, rfl, k, l⟩
  | _, e :: ds, i + 1, ⟨w, ws, q, r, l⟩, k => by subst q; exact ⟨w, _, rfl, r, repL_set i l k⟩
theorem repL_reverse {vs : List V} {ds : List D} (h : repL K W vs ds) : repL K W vs.reverse ds.reverse := by
  induction ds generalizing vs with
  | nil => cases h; simp [repL]
  | cons d ds ih =>
    obtain ⟨v, ws, e, r, l⟩ := h
    subst e
    rw [List.reverse_cons, List.reverse_cons]
    exact repL_append (ih l) (repL_one r)
/-- scalars are what they say -/
theorem rep_int {i : Int} (h : rep K W v (.int i)) : v = .int i := h
theorem rep_of_deref_scalar (hr : HR K W H st) (h : rep K W v d) : (∀ i, deref st d = .int i → v = .int i) ∧ (∀ b, deref st d = .bool b → v = .bl b) ∧ (∀ x, deref st d = .str x → v = .str x) ∧ (deref st d = .none → v = .non) := by
  cases d with
  | none => exact ⟨fun _ e => by simp at e, fun _ e => by simp at e, fun _ e => by simp at e, fun _ => h⟩
  | bool b => exact ⟨fun _ e => by simp at e, fun _ e => by simp at e; subst e; exact h, fun _ e => by simp at e, fun e => by simp at e⟩
  | int i => exact ⟨fun _ e => by simp at e; subst e; exact h, fun _ e => by simp at e, fun _ e => by simp at e, fun e => by simp at e⟩
  | str x => exact ⟨fun _ e => by simp at e, fun _ e => by simp at e, fun _ e => by simp at e; subst e; exact h, fun e => by simp at e⟩
  | list ds => exact ⟨fun _ e => by simp at e, fun _ e => by simp at e, fun _ e => by simp at e, fun e => by simp at e⟩
  | tuple ds => exact ⟨fun _ e => by simp at e, fun _ e => by simp at e, fun _ e => by simp at e, fun e => by simp at e⟩
  | dict kvs =>
    rcases rep_dict h with ⟨r, a, e, _, _⟩ | ⟨ds, a, xs, e, _, _⟩ | ⟨ds, a, xs, e, _, _⟩
    · subst e
      have q := deref_ref st r
      refine ⟨fun _ e => ?_, fun _ e => ?_, fun _ e => ?_, fun e => ?_⟩ <;> (rw [q] at e; split at e <;> simp at e)
    · subst e
      exact ⟨fun _ e => by simp at e, fun _ e => by simp at e, fun _ e => by simp at e, fun e => by simp at e⟩
    · subst e
      exact ⟨fun _ e => by simp at e, fun _ e => by simp at e, fun _ e => by simp at e, fun e => by simp at e⟩
theorem rep_dint (hr : HR K W H st) (h : rep K W v d) {i : Int} (e : deref st d = .int i) : v = .int i := (rep_of_deref_scalar hr h).1 i e
theorem rep_dbool (hr : HR K W H st) (h : rep K W v d) {i : Bool} (e : deref st d = .bool i) : v = .bl i := (rep_of_deref_scalar hr h).2.1 i e
theorem rep_dstr (hr : HR K W H st) (h : rep K W v d) {i : Str} (e : deref st d = .str i) : v = .str i := (rep_of_deref_scalar hr h).2.2.1 i e
theorem rep_dnone (hr : HR K W H st) (h : rep K W v d) (e : deref st d = .none) : v = .non := (rep_of_deref_scalar hr h).2.2.2 e
theorem rep_dlist (hr : HR K W H st) (h : rep K W v d) (e : deref st d = .list ds) : ∃ a xs, v = .ref a ∧ H a = some (.lst xs) ∧ repL K W xs ds := by
  cases d with
  | list es => simp at e; subst e; obtain ⟨a, xs, q, f, l⟩ := h; exact ⟨a, xs, q, hr.sub _ _ f, l⟩
  | dict kvs =>
    rcases rep_dict h with ⟨r, a, e1, e2, e3⟩ | ⟨ds', a, xs, e1, _, _⟩ | ⟨ds', a, xs, e1, _, _⟩
    rotate_left
    · subst e1; simp at e
    · subst e1; simp at e
    subst e1
    rw [deref_ref] at e
    obtain ⟨m, hm, _, ho⟩ := hr.at e3
    rw [hm] at e
    cases m with
    | lst es =>
      simp at e; subst e
      obtain ⟨xs, f, l⟩ := ho
      exact ⟨a, xs, e2, f, l⟩
    | ro es => simp at e
    | dct es => simp at e
    | dctT es => simp at e
  | none => simp at e
  | bool b => simp at e
  | int b => simp at e
  | str b => simp at e
  | tuple b => simp at e
theorem rep_dgs (hr : HR K W H st) (h : rep K W v d) (e : deref st d = Gs ds) : ∃ a xs, v = .ref a ∧ SqL K H a xs ∧ repL K W xs ds := by
  cases d with
  | dict kvs =>
    rcases rep_dict h with ⟨r, a, e1, e2, e3⟩ | ⟨ds', a, xs, e1, e2, f, l⟩ | ⟨ds', a, xs, e1, e2, f, l⟩
    · subst e1
      rw [deref_ref] at e
      split at e <;> simp at e
    · subst e1; simp at e
    · subst e1
      simp at e
      subst e
      exact ⟨a, xs, e2, sqL_mono hr.sub f, l⟩
  | _ => simp at e
theorem rep_dtuple (hr : HR K W H st) (h : rep K W v d) (e : deref st d = .tuple ds) : ∃ a xs, v = .ref a ∧ SqT K H a xs ∧ repL K W xs ds := by
  cases d with
  | tuple es => simp at e; subst e; obtain ⟨a, xs, q, f, l⟩ := h; exact ⟨a, xs, q, .inl (.inl (hr.sub _ _ f)), l⟩
  | dict kvs =>
    rcases rep_dict h with ⟨r, a, e1, e2, e3⟩ | ⟨ds', a, xs, e1, e2, f, l⟩ | ⟨ds', a, xs, e1, _, _⟩
    · subst e1
      rw [deref_ref] at e
      split at e <;> simp at e
    · subst e1
      simp at e
      subst e
      exact ⟨a, xs, e2, sqT_mono (fun _ _ z => by cases z) f, l⟩
    · subst e1; simp at e
  | none => simp at e
  | bool b => simp at e
  | int b => simp at e
  | str b => simp at e
  | list b => simp at e
end

/-! ### operations by values -/
abbrev F2 := D → D → Sto → R D
abbrev F1 := D → Sto → R D
def mOp2 (f : F2) (a b : M) : M := fun sl st => (a sl st).bind fun x st => (b sl st).bind fun y st => f x y st
def mOp1 (f : F1) (a : M) : M := fun sl st => (a sl st).bind fun x st => f x st
def Ok2 (N : Nv) (r : R2) (f : F2) : Prop := ∀ W H st x y dx dy Q, HR N.K W H st → rep N.K W x dx → rep N.K W y dy → Post N W H Q (fun _ _ _ => False) (f dx dy st) → r x y H Q
def Ok1 (N : Nv) (r : V → Hp → VK → Prop) (f : F1) : Prop := ∀ W H st x dx Q, HR N.K W H st → rep N.K W x dx → Post N W H Q (fun _ _ _ => False) (f dx st) → r x H Q
def noExc (r : R D) : R D := match r with | .exc _ _ => .bad | r => r
section
variable {X : Cx} {Wx : WX} {ea eb e : Expr} {ma mb mc : M} {r : R2} {f : F2} {pos : Pos}
/-- from a reading of two parts, one after another -/
theorem ge_op2 (hx : ∀ x y st ex s2, f x y st ≠ .exc ex s2) (ok : Ok2 (nv X) r f) (h : PE X e (tOp r (rd (nv X) Wx ma) (rd (nv X) Wx mb))) : GE X Wx e (mOp2 f ma mb) := by
  refine h.imp fun sh H Q ⟨W, sl, st, hr, hs, p⟩ => ?_
  refine rd_bind hr hs p fun d1 st1 W1 v1 H1 e1 x1 h1 s1 r1 p1 => ?_
  refine rd_bind h1 s1 p1 fun d2 st2 W2 v2 H2 e2 x2 h2 s2 r2 p2 => ?_
  refine ok W2 H2 st2 v1 v2 d1 d2 Q h2 (x2.rep r1) r2 ?_
  cases q : f d1 d2 st2 with
  | ok d st3 => rw [q] at p2; exact p2
  | bad => rw [q] at p2; exact p2
  | exc ex s3 => exact absurd q (hx _ _ _ _ _)
theorem ge_op1 {r : V → Hp → VK → Prop} {f : F1} (hx : ∀ x st ex s2, f x st ≠ .exc ex s2) (ok : Ok1 (nv X) r f) (h : PE X e (fun σ H Q => rd (nv X) Wx ma σ H fun x H1 => r x H1 Q)) : GE X Wx e (mOp1 f ma) := by
  refine h.imp fun sh H Q ⟨W, sl, st, hr, hs, p⟩ => ?_
  refine rd_bind hr hs p fun d1 st1 W1 v1 H1 e1 x1 h1 s1 r1 p1 => ?_
  refine ok W1 H1 st1 v1 d1 Q h1 r1 ?_
  cases q : f d1 st1 with
  | ok d st3 => rw [q] at p1; exact p1
  | bad => rw [q] at p1; exact p1
  | exc ex s3 => exact absurd q (hx _ _ _ _)
theorem Ok2.or {N : Nv} {r r' : R2} (h : ∀ W H st x y dx dy Q, HR N.K W H st → rep N.K W x dx → rep N.K W y dy → Post N W H Q (fun _ _ _ => False) (f dx dy st) → r x y H Q ∨ r' x y H Q) : Ok2 N (fun x y H Q => r x y H Q ∨ r' x y H Q) f := h
/-- a scalar result, the store as it is -/
theorem Post.val {N : Nv} {W : Wd} {H : Hp} {st : Sto} {Q : VK} {E : XK} {d : D} {v : V} (hr : HR N.K W H st) (p : Post N W H Q E (.ok d st)) (h : rep N.K W v d) : Q v H := p W v H .refl hr h
/-- a new tuple, a new list -/
theorem Post.tup {N : Nv} {W : Wd} {H : Hp} {st : Sto} {Q : VK} {E : XK} {xs : List V} {ds : List D} (hr : HR N.K W H st) (p : Post N W H Q E (.ok (.tuple ds) st)) (h : repL N.K W xs ds) : ∀ a, H a = none → Q (.ref a) (upd H a (.tup xs)) := fun a ha => by
  obtain ⟨h1, h2⟩ := hr.new (o := .tup xs) ha
  exact p _ _ _ h2 h1 ⟨a, xs, rfl, upd_same, h2.repL h⟩
theorem Post.lst {N : Nv} {W : Wd} {H : Hp} {st : Sto} {Q : VK} {E : XK} {xs : List V} {ds : List D} (hr : HR N.K W H st) (p : Post N W H Q E (.ok (.list ds) st)) (h : repL N.K W xs ds) : ∀ a, H a = none → Q (.ref a) (upd H a (.lst xs)) := fun a ha => by
  obtain ⟨h1, h2⟩ := hr.new (o := .lst xs) ha
  exact p _ _ _ h2 h1 ⟨a, xs, rfl, upd_same, h2.repL h⟩
end

/-! ### names and constants -/
def mVar (i : Nat) : M := fun sl st => match sl[i]? with | some (some d) => .ok d st | _ => .bad
def mC (d : D) : M := fun _ st => .ok d st
/-- what the written part says of a constant of the module -/
def GlobIs (N : Nv) (u : V) (d : D) : Prop := ∀ W, rep N.K W u d
section
variable {X : Cx} {Wx : WX} {pos : Pos}
theorem ge_var (i : Nat) {x : Str} (hN : X.N[i]? = some x := by rfl) (hv : Vis X.env.scope x := by first | exact Or.inl rfl | exact Or.inr (Or.inl rfl) | exact Or.inr (Or.inr rfl)) (hd : (x == ("__debug__" : Str)) = false := by decide +kernel)
    (hcd : (x == ("__classdict__" : Str)) = false := by decide +kernel) : GE X Wx (.Name x pos) (mVar i) := by
  refine (pe_var hN hv hd hcd).imp fun sh H Q ⟨W, sl, st, hr, hs, p⟩ => ?_
  unfold mVar at p
  split at p
  · rename_i d e
    obtain ⟨v, e1, r1⟩ := hs.at_ i d e
    exact ⟨v, e1, p.val hr r1⟩
  · exact p.elim
theorem ge_c {e : Expr} {v : V} {d : D} (h : PE X e (tC v)) (r : ∀ W, rep X.K W v d) : GE X Wx e (mC d) := h.imp fun _ _ _ ⟨W, _, _, hr, _, p⟩ => p.val hr (r W)
theorem ge_int {i : Int} {j} : GE X Wx (.Constant (.int i) j pos) (mC (.int i)) := ge_c pe_int fun _ => rfl
theorem ge_bool {b : Bool} {j} : GE X Wx (.Constant (.bool b) j pos) (mC (.bool b)) := ge_c pe_bl fun _ => rfl
theorem ge_none {j} : GE X Wx (.Constant .none j pos) (mC .none) := ge_c pe_non fun _ => rfl
theorem ge_str {x : Str} {j} : GE X Wx (.Constant (.str x) j pos) (mC (.str x)) := ge_c pe_str fun _ => rfl
theorem ge_glob {x : Str} {u : Value} {v : V} {d : D} (hg : Gl X x) (hm : X.mg x = some u) (r : RelV v u) (g : GlobIs (nv X) v d) (hd : (x == ("__debug__" : Str)) = false := by decide +kernel) : GE X Wx (.Name x pos) (mC d) := ge_c (pe_glob hg hm r hd) g
end

/-! ### arithmetic -/
def dAdd : D → D → Option D
  | .int i, .int j => some (.int (i + j))
  | .int i, .bool k => some (.int (i + b2i k))
  | .bool k, .int j => some (.int (b2i k + j))
  | .bool k, .bool l => some (.int (b2i k + b2i l))
  | .str a, .str b => if a.length + b.length ≤ sizeLine then some (.str (a ++ b)) else none
  | .list a, .list b => if a.length + b.length ≤ sizeLine then some (.list (a ++ b)) else none
  | _, _ => none
def dAddT (a b : List D) : Option D := if a.length + b.length ≤ sizeLine then some (.tuple (a ++ b)) else none
def onD2 (g : D → D → Option D) : F2 := fun x y st => lift (g (deref st x) (deref st y)) st
def onD1 (g : D → Option D) : F1 := fun x st => lift (g (deref st x)) st
theorem onD2_nx {g : D → D → Option D} (x y : D) (st : Sto) (ex : XV) (s2 : Sto) : onD2 g x y st ≠ .exc ex s2 := by
  unfold onD2 lift; split <;> simp
theorem onD1_nx {g : D → Option D} (x : D) (st : Sto) (ex : XV) (s2 : Sto) : onD1 g x st ≠ .exc ex s2 := by
  unfold onD1 lift; split <;> simp
/-- what onD2 asks, by the operation's own cases -/
theorem onD2_post {N : Nv} {W : Wd} {H : Hp} {Q : VK} {E : XK} {g : D → D → Option D} {x y : D} {st : Sto} (p : Post N W H Q E (onD2 g x y st)) : ∃ d, g (deref st x) (deref st y) = some d ∧ Post N W H Q E (.ok d st) := by
  unfold onD2 lift at p
  split at p
  · rename_i d e; exact ⟨d, e, p⟩
  · exact p.elim
theorem onD1_post {N : Nv} {W : Wd} {H : Hp} {Q : VK} {E : XK} {g : D → Option D} {x : D} {st : Sto} (p : Post N W H Q E (onD1 g x st)) : ∃ d, g (deref st x) = some d ∧ Post N W H Q E (.ok d st) := by
  unfold onD1 lift at p
  split at p
  · rename_i d e; exact ⟨d, e, p⟩
  · exact p.elim
def fAdd : F2 := fun x y st =>
  match x, y with
  | .tuple a, .tuple b => lift (dAddT a b) st
  | _, _ => onD2 dAdd x y st
theorem fAdd_nx (x y : D) (st : Sto) (ex : XV) (s2 : Sto) : fAdd x y st ≠ .exc ex s2 := by
  unfold fAdd
  split
  · unfold lift; split <;> simp
  · exact onD2_nx _ _ _ _ _
def mAdd : M → M → M := mOp2 fAdd
section
variable {X : Cx} {Wx : WX} {ea eb e : Expr} {ma mb mc : M} {pos : Pos}
theorem op_add_bi : OpR X (binaryOp .Add) (fun x y H Q => ∃ k j, x = .bl k ∧ y = .int j ∧ Q (.int (b2i k + j)) H) := by
  intro pins s sh H x y v u Q I rx ry ⟨k, j, ex, ey, q⟩
  subst ex ey
  cases rx
  obtain ⟨t, rfl⟩ := ry
  exact PySem.IntBool.add_bool_int ⟨.int (b2i k + j), H, I.tok _, ⟨_, rfl⟩, q⟩
theorem op_add_bb : OpR X (binaryOp .Add) (fun x y H Q => ∃ k l, x = .bl k ∧ y = .bl l ∧ Q (.int (b2i k + b2i l)) H) := by
  intro pins s sh H x y v u Q I rx ry ⟨k, l, ex, ey, q⟩
  subst ex ey
  cases rx
  cases ry
  exact add_bool ⟨.int (b2i k + b2i l), H, I.tok _, ⟨_, rfl⟩, q⟩
theorem ge_add (ha : GE X Wx ea ma) (hb : GE X Wx eb mb) : GE X Wx (.BinOp ea .Add eb pos) (mAdd ma mb) := by
  refine ge_op2 fAdd_nx ?_ (pe_op ((((op_add.or op_add_str).or op_cat).or op_catA).or ((op_add_ib.or op_add_bi).or op_add_bb)) ha hb)
  intro W H st x y dx dy Q hr rx ry p0
  unfold fAdd at p0
  split at p0
  · rename_i a b
    unfold dAddT lift at p0
    split at p0
    · rename_i d e
      split at e
      · rename_i hl
        cases e
        obtain ⟨a1, xs, e1, h1, l1⟩ := rx
        obtain ⟨a2, ys, e2, h2, l2⟩ := ry
        subst e1; subst e2
        refine .inl (.inr ⟨a1, a2, xs, ys, rfl, rfl, .inl (.inl (hr.sub _ _ h1)), .inl (.inl (hr.sub _ _ h2)), by rw [repL_length l1, repL_length l2]; exact hl, fun z => ?_, fun _ z => ?_, fun _ _ => p0.tup hr (repL_append l1 l2)⟩)
        · have : a = [] := by cases a with | nil => rfl | cons q qs => obtain ⟨_, _, w, _, _⟩ := l1; rw [z] at w; cases w
          subst this
          rw [List.nil_append] at p0
          exact p0.val hr ⟨a2, ys, rfl, h2, l2⟩
        · have : b = [] := by cases b with | nil => rfl | cons q qs => obtain ⟨_, _, w, _, _⟩ := l2; rw [z] at w; cases w
          subst this
          rw [List.append_nil] at p0
          exact p0.val hr ⟨a1, xs, rfl, h1, l1⟩
      · cases e
    · exact p0.elim
  · obtain ⟨d, e, p⟩ := onD2_post p0
    clear p0
    cases hx : deref st dx with
    | int i =>
      cases hy : deref st dy with
      | int j => rw [hx, hy] at e; cases e; rw [rep_dint hr rx hx, rep_dint hr ry hy]; exact .inl (.inl (.inl (.inl ⟨i, j, rfl, rfl, p.val hr rfl⟩)))
      | bool k => rw [hx, hy] at e; cases e; rw [rep_dint hr rx hx, rep_dbool hr ry hy]; exact .inr (.inl (.inl ⟨i, k, rfl, rfl, p.val hr rfl⟩))
      | _ => rw [hx, hy] at e; cases e
    | bool k =>
      cases hy : deref st dy with
      | int j => rw [hx, hy] at e; cases e; rw [rep_dbool hr rx hx, rep_dint hr ry hy]; exact .inr (.inl (.inr ⟨k, j, rfl, rfl, p.val hr rfl⟩))
      | bool l => rw [hx, hy] at e; cases e; rw [rep_dbool hr rx hx, rep_dbool hr ry hy]; exact .inr (.inr ⟨k, l, rfl, rfl, p.val hr rfl⟩)
      | _ => rw [hx, hy] at e; cases e
    | str a =>
      cases hy : deref st dy with
      | str b =>
        rw [hx, hy] at e
        simp only [dAdd] at e
        split at e
        · rename_i hl
          cases e; rw [rep_dstr hr rx hx, rep_dstr hr ry hy]; exact .inl (.inl (.inl (.inr ⟨a, b, rfl, rfl, hl, p.val hr rfl⟩)))
        · cases e
      | _ => rw [hx, hy] at e; cases e
    | list a =>
      cases hy : deref st dy with
      | list b =>
        rw [hx, hy] at e
        simp only [dAdd] at e
        split at e
        · rename_i hl
          cases e
          obtain ⟨a1, xs, e1, h1, l1⟩ := rep_dlist hr rx hx
          obtain ⟨a2, ys, e2, h2, l2⟩ := rep_dlist hr ry hy
          exact .inl (.inl (.inr ⟨a1, a2, xs, ys, e1, e2, h1, h2, by rw [repL_length l1, repL_length l2]; exact hl, p.lst hr (repL_append l1 l2)⟩))
        · cases e
      | _ => rw [hx, hy] at e; cases e
    | _ => rw [hx] at e; cases e
/-- an operation of two ints -/
def dInt2 (c : Int → Int → Bool) (g : Int → Int → D) : D → D → Option D
  | .int i, .int j => if c i j then some (g i j) else none
  | _, _ => none
theorem dInt2_inv {c : Int → Int → Bool} {g : Int → Int → D} {x y d : D} (h : dInt2 c g x y = some d) : ∃ i j, x = .int i ∧ y = .int j ∧ c i j = true ∧ d = g i j := by
  unfold dInt2 at h
  split at h
  · rename_i i j
    split at h
    · rename_i hc; exact ⟨i, j, rfl, rfl, hc, (Option.some.inj h).symm⟩
    · cases h
  · cases h
theorem ok_int2 {N : Nv} {C : Int → Int → Prop} {gv : Int → Int → V} {c : Int → Int → Bool} {g : Int → Int → D} (hc : ∀ i j, c i j = true → C i j) (hg : ∀ i j W, rep N.K W (gv i j) (g i j)) : Ok2 N (rI C gv) (onD2 (dInt2 c g)) := by
  intro W H st x y dx dy Q hr rx ry p
  obtain ⟨d, e, p⟩ := onD2_post p
  obtain ⟨i, j, e1, e2, e3, e4⟩ := dInt2_inv e
  subst e4
  exact ⟨i, j, rep_dint hr rx e1, rep_dint hr ry e2, hc i j e3, p.val hr (hg i j W)⟩
theorem ok_int20 {N : Nv} {gv : Int → Int → V} {g : Int → Int → D} (hg : ∀ i j W, rep N.K W (gv i j) (g i j)) : Ok2 N (rI0 gv) (onD2 (dInt2 (fun _ _ => true) g)) := by
  intro W H st x y dx dy Q hr rx ry p
  obtain ⟨d, e, p⟩ := onD2_post p
  obtain ⟨i, j, e1, e2, e3, e4⟩ := dInt2_inv e
  subst e4
  exact ⟨i, j, rep_dint hr rx e1, rep_dint hr ry e2, p.val hr (hg i j W)⟩
def mSub : M → M → M := mOp2 (onD2 (dInt2 (fun _ _ => true) fun i j => .int (i - j)))
theorem ge_sub (ha : GE X Wx ea ma) (hb : GE X Wx eb mb) : GE X Wx (.BinOp ea .Sub eb pos) (mSub ma mb) :=
  ge_op2 onD2_nx (ok_int20 fun _ _ _ => rfl) (pe_op op_sub ha hb)
def mMod : M → M → M := mOp2 (onD2 (dInt2 (fun _ j => decide (0 < j)) fun i j => .int (i % j)))
theorem ge_mod (ha : GE X Wx ea ma) (hb : GE X Wx eb mb) : GE X Wx (.BinOp ea .Mod eb pos) (mMod ma mb) :=
  ge_op2 onD2_nx (ok_int2 (fun _ _ h => of_decide_eq_true h) fun _ _ _ => rfl) (pe_op op_mod ha hb)
def mFdiv : M → M → M := mOp2 (onD2 (dInt2 (fun _ j => decide (0 < j ∧ j < 1073741824)) fun i j => .int (i / j)))
theorem ge_fdiv (ha : GE X Wx ea ma) (hb : GE X Wx eb mb) : GE X Wx (.BinOp ea .FloorDiv eb pos) (mFdiv ma mb) :=
  ge_op2 onD2_nx (ok_int2 (fun _ _ h => of_decide_eq_true h) fun _ _ _ => rfl) (pe_op op_fdiv ha hb)
def mPow : M → M → M := mOp2 (onD2 (dInt2 (fun i j => decide (0 ≤ j ∧ j ≤ 1000000 ∧ i.natAbs < 2 ^ 64)) fun i j => .int (i ^ j.toNat)))
theorem ge_pow (ha : GE X Wx ea ma) (hb : GE X Wx eb mb) : GE X Wx (.BinOp ea .Pow eb pos) (mPow ma mb) :=
  ge_op2 onD2_nx (ok_int2 (fun _ _ h => of_decide_eq_true h) fun _ _ _ => rfl) (pe_op op_pow ha hb)
/-- i * j (one factor below 2 ^ 64), a tuple or a list or a text several times -/
def dMul : D → D → Option D
  | .int i, .int j => if (-(2 ^ 64) < i ∧ i < 2 ^ 64) ∨ (-(2 ^ 64) < j ∧ j < 2 ^ 64) then some (.int (i * j)) else none
  | _, _ => none
def mMul : M → M → M := mOp2 (onD2 dMul)
theorem ge_mul (ha : GE X Wx ea ma) (hb : GE X Wx eb mb) : GE X Wx (.BinOp ea .Mult eb pos) (mMul ma mb) := by
  refine ge_op2 onD2_nx ?_ (pe_op op_mul ha hb)
  intro W H st x y dx dy Q hr rx ry p
  obtain ⟨d, e, p⟩ := onD2_post p
  unfold dMul at e
  split at e
  · rename_i i j e1 e2
    split at e
    · rename_i hc
      cases e
      exact ⟨i, j, rep_dint hr rx e1, rep_dint hr ry e2, hc, p.val hr rfl⟩
    · cases e
  · cases e
def dNeg : D → Option D
  | .int i => some (.int (-i))
  | _ => none
def mNeg : M → M := mOp1 (onD1 dNeg)
theorem ge_neg (ha : GE X Wx ea ma) : GE X Wx (.UnaryOp .USub ea pos) (mNeg ma) := by
  refine ge_op1 onD1_nx ?_ (pe_un un_neg ha)
  intro W H st x dx Q hr rx p
  obtain ⟨d, e, p⟩ := onD1_post p
  unfold dNeg at e
  split at e
  · rename_i i e1; cases e; exact ⟨i, rep_dint hr rx e1, p.val hr rfl⟩
  · cases e
end
end Pv
set_option Elab.async false
set_option linter.all false
set_option maxRecDepth 100000
set_option maxHeartbeats 4000000
namespace Pv
open PySem PySem.Spec L2
open PyProof.Rows hiding St

/-! ### plain data: what is read of it -/
section
variable {K : PySem.W.Frag} {W : Wd} {H : Hp} {st : Sto} {v : V} {vs : List V}
mutual
theorem rep_dp (hs : ∀ b o, W.F b = some o → H b = some o) : ∀ {v : V} (d : D), d.canLay0 = true → rep K W v d → Dp K H v d
  | _, .none, _, h => by cases h; exact .non
  | _, .bool b, _, h => by cases h; exact .bl b
  | _, .int i, _, h => by cases h; exact .int i
  | _, .str x, _, h => by cases h; exact .str x
  | _, .list ds, hc, ⟨a, xs, e, f, l⟩ => by subst e; exact .lst (.inl (.inl (hs _ _ f))) (repL_dp hs ds (by simpa [PyData.canLay0] using hc) l)
  | _, .tuple ds, hc, ⟨a, xs, e, f, l⟩ => by subst e; exact .tup (.inl (.inl (hs _ _ f))) (repL_dp hs ds (by simpa [PyData.canLay0] using hc) l)
  | _, .dict _, hc, _ => by simp [PyData.canLay0] at hc
theorem repL_dp (hs : ∀ b o, W.F b = some o → H b = some o) : ∀ {vs : List V} (ds : List D), PyData.canLayAll0 ds = true → repL K W vs ds → DpAll K H vs ds
  | _, [], _, h => by cases h; exact .nil
  | _, d :: ds, hc, ⟨v, us, e, r, l⟩ => by
    simp only [PyData.canLayAll0, Bool.and_eq_true] at hc
    subst e; exact .cons (rep_dp hs d hc.1 r) (repL_dp hs ds hc.2 l)
end
theorem rep_dpR (hr : HR K W H st) {d e : D} (h : rep K W v d) (q : deref st d = e) (hc : e.canLay0 = true) : Dp K H v e := by
  cases d with
  | dict kvs =>
    cases e with
    | list ds =>
      obtain ⟨a, xs, e1, e2, l⟩ := rep_dlist hr h q
      subst e1
      exact .lst (.inl (.inl e2)) (repL_dp hr.sub ds (by simpa [PyData.canLay0] using hc) l)
    | tuple ds =>
      obtain ⟨a, xs, e1, e2, l⟩ := rep_dtuple hr h q
      subst e1
      exact .tup e2 (repL_dp hr.sub ds (by simpa [PyData.canLay0] using hc) l)
    | none => rw [rep_dnone hr h q]; exact .non
    | bool b => rw [rep_dbool hr h q]; exact .bl b
    | int b => rw [rep_dint hr h q]; exact .int b
    | str b => rw [rep_dstr hr h q]; exact .str b
    | dict _ => simp [PyData.canLay0] at hc
  | none => subst q; exact rep_dp hr.sub _ hc h
  | bool b => subst q; exact rep_dp hr.sub _ hc h
  | int b => subst q; exact rep_dp hr.sub _ hc h
  | str b => subst q; exact rep_dp hr.sub _ hc h
  | list b => subst q; exact rep_dp hr.sub _ hc h
  | tuple b => subst q; exact rep_dp hr.sub _ hc h
end

/-! ### order of data -/
mutual
def cmpD : D → D → Ordering
  | .int i, .int j => if i < j then .lt else if i = j then .eq else .gt
  | .str x, .str y => if x.cps.toList < y.cps.toList then .lt else if x = y then .eq else .gt
  | .tuple xs, .tuple ys => cmpDs xs ys
  | _, _ => .eq
def cmpDs : List D → List D → Ordering
  | [], [] => .eq
  | [], _ :: _ => .lt
  | _ :: _, [] => .gt
  | x :: xs, y :: ys => match cmpD x y with | .eq => cmpDs xs ys | o => o
end
mutual
/-- data that can be set in order: ints, texts, tuples of such, place by place of one kind -/
def ordD : D → D → Bool
  | .int _, .int _ => true
  | .str _, .str _ => true
  | .tuple xs, .tuple ys => ordDs xs ys
  | _, _ => false
def ordDs : List D → List D → Bool
  | [], _ => true
  | _, [] => true
  | x :: xs, y :: ys => ordD x y && ordDs xs ys
end
def cmpR (op : CmpOp) (o : Ordering) : Bool :=
  match op with
  | .Lt => o == .lt
  | .LtE => o != .gt
  | .Gt => o == .gt
  | .GtE => o != .lt
  | _ => false
def isOrd : CmpOp → Bool
  | .Lt | .LtE | .Gt | .GtE => true
  | _ => false
theorem str_lt_irrefl (x : Str) : ¬ x.cps.toList < x.cps.toList := List.lt_irrefl _
theorem str_lt_asymm {x y : Str} (h : x.cps.toList < y.cps.toList) : ¬ y.cps.toList < x.cps.toList := List.lt_asymm h
theorem str_total {x y : Str} (h : ¬ x.cps.toList < y.cps.toList) (n : x ≠ y) : y.cps.toList < x.cps.toList := by
  rcases Std.lt_trichotomy x.cps.toList y.cps.toList with q | q | q
  · exact absurd q h
  · exact absurd (by cases x; cases y; simp only at q; congr 1; exact Array.toList_inj.mp q) n
  · exact q
mutual
theorem cmpD_eqv : ∀ (x y : D), ordD x y = true → (cmpD x y = .eq ↔ PyData.eqv x y = true)
  | .int i, y, h => by
    cases y with
    | int j =>
      simp only [cmpD, PyData.eqv]
      by_cases h1 : i < j
      · simp [h1]; omega
      · by_cases h2 : i = j
        · simp [h2]
        · simp [h1, h2]
    | _ => simp [ordD] at h
  | .str x, y, h => by
    cases y with
    | str y =>
      simp only [cmpD, PyData.eqv]
      by_cases h1 : x.cps.toList < y.cps.toList
      · simp only [h1, if_true]
        constructor
        · intro q; cases q
        · intro q
          have : x = y := by simpa using q
          subst this
          exact absurd h1 (str_lt_irrefl _)
      · by_cases h2 : x = y
        · subst h2; simp [h1]
        · simp [h1, h2]
    | _ => simp [ordD] at h
  | .tuple xs, y, h => by
    cases y with
    | tuple ys =>
      simp only [ordD] at h
      simp only [cmpD, PyData.eqv]
      exact cmpDs_eqv xs ys h
    | _ => simp [ordD] at h
  | .none, _, h => by simp [ordD] at h
  | .bool _, _, h => by simp [ordD] at h
  | .list _, _, h => by simp [ordD] at h
  | .dict _, _, h => by simp [ordD] at h
theorem cmpDs_eqv : ∀ (xs ys : List D), ordDs xs ys = true → (cmpDs xs ys = .eq ↔ PyData.eqvAll xs ys = true)
  | [], [], _ => by simp [cmpDs, PyData.eqvAll]
  | [], _ :: _, _ => by simp [cmpDs, PyData.eqvAll]
  | _ :: _, [], _ => by simp [cmpDs, PyData.eqvAll]
  | x :: xs, y :: ys, h => by
    simp only [ordDs, Bool.and_eq_true] at h
    have h1 := cmpD_eqv x y h.1
    have h2 := cmpDs_eqv xs ys h.2
    simp only [cmpDs, PyData.eqvAll, Bool.and_eq_true]
    cases e : cmpD x y with
    | eq => rw [e] at h1; simp only [true_iff] at h1; simp [h1, h2]
    | lt =>
      rw [e] at h1
      have h1' : ¬ PyData.eqv x y = true := fun q => by have := h1.mpr q; cases this
      constructor
      · intro q; cases q
      · intro q; exact absurd q.1 h1'
    | gt =>
      rw [e] at h1
      have h1' : ¬ PyData.eqv x y = true := fun q => by have := h1.mpr q; cases this
      constructor
      · intro q; cases q
      · intro q; exact absurd q.1 h1'
end
/-- the tuple's loop is the order of lists -/
theorem lexAt_cmp (op : CmpOp) (hop : isOrd op = true) : ∀ (xs ys : List D) (e r : Nat → Bool) (i : Nat), ordDs xs ys = true →
    (∀ j x y, xs[j]? = some x → ys[j]? = some y → e (i + j) = PyData.eqv x y ∧ r (i + j) = cmpR op (cmpD x y)) →
    Ob.lexAt e r (cmpR op (compare xs.length ys.length)) i (min xs.length ys.length) = cmpR op (cmpDs xs ys)
  | [], [], e, r, i, _, _ => by
    simp [Ob.lexAt, cmpDs]
  | [], y :: ys, e, r, i, _, _ => by
    have : compare (0 : Nat) (ys.length + 1) = .lt := Nat.compare_eq_lt.mpr (Nat.succ_pos _)
    simp [Ob.lexAt, cmpDs, this]
  | x :: xs, [], e, r, i, _, _ => by
    have : compare (xs.length + 1) (0 : Nat) = .gt := Nat.compare_eq_gt.mpr (Nat.succ_pos _)
    simp [Ob.lexAt, cmpDs, this]
  | x :: xs, y :: ys, e, r, i, h, q => by
    simp only [ordDs, Bool.and_eq_true] at h
    have h0 := q 0 x y rfl rfl
    have hc := cmpD_eqv x y h.1
    have ih := lexAt_cmp op hop xs ys e r (i + 1) h.2 fun j a b h1 h2 => by
      have := q (j + 1) a b (by simpa using h1) (by simpa using h2)
      rw [show i + 1 + j = i + (j + 1) by omega]; exact this
    have hm : min (x :: xs).length (y :: ys).length = min xs.length ys.length + 1 := by simp only [List.length_cons]; omega
    have hcp : compare (x :: xs).length (y :: ys).length = compare xs.length ys.length := by
      simp only [List.length_cons]
      rcases Nat.lt_trichotomy xs.length ys.length with g | g | g
      · rw [Nat.compare_eq_lt.mpr g, Nat.compare_eq_lt.mpr (by omega)]
      · rw [Nat.compare_eq_eq.mpr g, Nat.compare_eq_eq.mpr (by omega)]
      · rw [Nat.compare_eq_gt.mpr g, Nat.compare_eq_gt.mpr (by omega)]
    rw [hm, hcp, Ob.lexAt_succ]
    simp only [Nat.add_zero] at h0
    rw [h0.1, h0.2, ih]
    cases e1 : cmpD x y with
    | eq => rw [if_pos (hc.mp e1)]; simp [cmpDs, e1]
    | lt => rw [if_neg (fun z => by have := hc.mpr z; rw [e1] at this; cases this)]; simp [cmpDs, e1]
    | gt => rw [if_neg (fun z => by have := hc.mpr z; rw [e1] at this; cases this)]; simp [cmpDs, e1]
theorem readsAll_at : ∀ {h : Heap} {vs : List Value} {ds : List PyData} {as : List Addr} (i : Nat) {d : PyData}, ReadsAll h vs ds as → ds[i]? = some d → ∃ v bs, vs[i]? = some v ∧ Reads h v d bs
  | _, _, _, _, i, _, .nil, e => by simp at e
  | _, _, _, _, 0, _, .cons r _, e => by simp at e; subst e; exact ⟨_, _, rfl, r⟩
  | _, _, _, _, i + 1, _, .cons _ t, e => by simpa using readsAll_at i t (by simpa using e)

theorem rc_int (op : CmpOp) (hop : isOrd op = true) (i j : Int) (A : Around) (s : Shared) (t u : Tok) : Ob.RcOp op A s (.int i t) (.int j u) (cmpR op (cmpD (.int i) (.int j))) := by
  have e : cmpD (.int i) (.int j) = if i < j then .lt else if i = j then .eq else .gt := by simp only [cmpD]
  rw [e]
  cases op with
  | Lt =>
    have e : cmpR .Lt (if i < j then .lt else if i = j then .eq else .gt) = decide (i < j) := by
      by_cases h1 : i < j
      · simp [h1, cmpR]
      · by_cases h2 : i = j <;> simp [h1, h2, cmpR]
    rw [e]; exact Ob.RcOp.lt_int i j t u
  | LtE =>
    have e : cmpR .LtE (if i < j then .lt else if i = j then .eq else .gt) = decide (i ≤ j) := by
      by_cases h1 : i < j
      · have : i ≤ j := by omega
        simp [h1, cmpR, this]
      · by_cases h2 : i = j
        · simp [h2, cmpR]
        · have : ¬ i ≤ j := by omega
          simp [h1, h2, cmpR, this]
    rw [e]; exact Ob.RcOp.le_int i j t u
  | Gt =>
    have e : cmpR .Gt (if i < j then .lt else if i = j then .eq else .gt) = decide (j < i) := by
      by_cases h1 : i < j
      · have : ¬ j < i := by omega
        simp [h1, cmpR, this]
      · by_cases h2 : i = j
        · simp [h2, cmpR]
        · have : j < i := by omega
          simp [h1, h2, cmpR, this]
    rw [e]; exact Ob.RcOp.gt_int i j t u
  | GtE =>
    have e : cmpR .GtE (if i < j then .lt else if i = j then .eq else .gt) = decide (j ≤ i) := by
      by_cases h1 : i < j
      · have : ¬ j ≤ i := by omega
        simp [h1, cmpR, this]
      · by_cases h2 : i = j
        · simp [h2, cmpR]
        · have : j ≤ i := by omega
          simp [h1, h2, cmpR, this]
    rw [e]; exact Ob.RcOp.ge_int i j t u
  | _ => simp [isOrd] at hop
theorem rc_str (op : CmpOp) (hop : isOrd op = true) (x y : Str) (A : Around) (s : Shared) (t u : Tok) : Ob.RcOp op A s (.str x t) (.str y u) (cmpR op (cmpD (.str x) (.str y))) := by
  have e : cmpD (.str x) (.str y) = if x.cps.toList < y.cps.toList then .lt else if x = y then .eq else .gt := by simp only [cmpD]
  rw [e]
  cases op with
  | Lt =>
    have e : cmpR .Lt (if x.cps.toList < y.cps.toList then .lt else if x = y then .eq else .gt) = decide (x.cps.toList < y.cps.toList) := by
      by_cases h1 : x.cps.toList < y.cps.toList
      · simp [h1, cmpR]
      · by_cases h2 : x = y
        · subst h2; simp [h1, cmpR]
        · simp [h1, h2, cmpR]
    rw [e]; exact fun prog w E Q q => PyProof.Rows.lt_str q
  | LtE =>
    have e : cmpR .LtE (if x.cps.toList < y.cps.toList then .lt else if x = y then .eq else .gt) = !decide (y.cps.toList < x.cps.toList) := by
      by_cases h1 : x.cps.toList < y.cps.toList
      · simp [h1, cmpR, str_lt_asymm h1]
      · by_cases h2 : x = y
        · subst h2; simp [h1, cmpR]
        · simp [h1, h2, cmpR, str_total h1 h2]
    rw [e]; exact fun prog w E Q q => PySem.P.le_str q
  | Gt =>
    have e : cmpR .Gt (if x.cps.toList < y.cps.toList then .lt else if x = y then .eq else .gt) = decide (y.cps.toList < x.cps.toList) := by
      by_cases h1 : x.cps.toList < y.cps.toList
      · simp [h1, cmpR, str_lt_asymm h1]
      · by_cases h2 : x = y
        · subst h2; simp [h1, cmpR]
        · simp [h1, h2, cmpR, str_total h1 h2]
    rw [e]; exact fun prog w E Q q => PySem.P.gt_str q
  | GtE =>
    have e : cmpR .GtE (if x.cps.toList < y.cps.toList then .lt else if x = y then .eq else .gt) = !decide (x.cps.toList < y.cps.toList) := by
      by_cases h1 : x.cps.toList < y.cps.toList
      · simp [h1, cmpR]
      · by_cases h2 : x = y
        · subst h2; simp [h1, cmpR]
        · simp [h1, h2, cmpR]
    rw [e]; exact fun prog w E Q q => PySem.P.ge_str q
  | _ => simp [isOrd] at hop

theorem cmp_len (op : CmpOp) (n m : Nat) : (op = .Lt → cmpR op (compare n m) = decide (n < m)) ∧ (op = .LtE → cmpR op (compare n m) = decide (n ≤ m)) ∧ (op = .Gt → cmpR op (compare n m) = decide (n > m)) ∧ (op = .GtE → cmpR op (compare n m) = decide (n ≥ m)) := by
  rcases Nat.lt_trichotomy n m with g | g | g
  · have a1 : n ≤ m := by omega
    have a2 : ¬ n > m := by omega
    have a3 : ¬ n ≥ m := by omega
    rw [Nat.compare_eq_lt.mpr g]
    refine ⟨fun z => ?_, fun z => ?_, fun z => ?_, fun z => ?_⟩ <;> (subst z; simp [cmpR, g, a1, a2, a3])
  · subst g
    rw [Nat.compare_eq_eq.mpr rfl]
    refine ⟨fun z => ?_, fun z => ?_, fun z => ?_, fun z => ?_⟩ <;> (subst z; simp [cmpR])
  · have a1 : ¬ n ≤ m := by omega
    have a2 : ¬ n < m := by omega
    have a3 : n ≥ m := by omega
    rw [Nat.compare_eq_gt.mpr g]
    refine ⟨fun z => ?_, fun z => ?_, fun z => ?_, fun z => ?_⟩ <;> (subst z; simp [cmpR, g, a1, a2, a3])
theorem rc_tup (op : CmpOp) (hop : isOrd op = true) (xs ys : List D) (A : Around) (s : Shared) (a b : Addr) (vs ws : Array Value) (h : ordDs xs ys = true) (hu : A.units < cLine) (h1 : s.heap.IsTuple a vs) (h2 : s.heap.IsTuple b ws)
    (hl1 : vs.size = xs.length) (hl2 : ws.size = ys.length)
    (items : ∀ j (h1 : j < vs.size) (h2 : j < ws.size), SeqAt.EqAt A.in1 s vs[j] ws[j] (PyData.eqv (xs.getD j .none) (ys.getD j .none)) ∧ Ob.RcOp op A.in1 s vs[j] ws[j] (cmpR op (cmpD (xs.getD j .none) (ys.getD j .none)))) :
    Ob.RcOp op A s (.ref a) (.ref b) (cmpR op (cmpDs xs ys)) := by
  obtain ⟨e, he⟩ : ∃ e : Nat → Bool, ∀ j, e j = PyData.eqv (xs.getD j .none) (ys.getD j .none) := ⟨_, fun _ => rfl⟩
  obtain ⟨r, hr⟩ : ∃ r : Nat → Bool, ∀ j, r j = cmpR op (cmpD (xs.getD j .none) (ys.getD j .none)) := ⟨_, fun _ => rfl⟩
  have eqs : ∀ j (h1 : j < vs.size) (h2 : j < ws.size), SeqAt.EqAt A.in1 s vs[j] ws[j] (e j) := fun j h1 h2 => by rw [he]; exact (items j h1 h2).1
  have rcs : ∀ j (h1 : j < vs.size) (h2 : j < ws.size), e j = false → Ob.RcOp op A.in1 s vs[j] ws[j] (r j) := fun j h1 h2 _ => by rw [hr]; exact (items j h1 h2).2
  have fin := lexAt_cmp op hop xs ys e r 0 h fun j x y e1 e2 => by
    rw [Nat.zero_add, he, hr]
    simp only [List.getD_eq_getElem?_getD, e1, e2, Option.getD_some]
    exact ⟨trivial, trivial⟩
  obtain ⟨c1, c2, c3, c4⟩ := cmp_len op xs.length ys.length
  rw [← fin]
  cases op with
  | Lt => rw [c1 rfl, ← hl1, ← hl2]; exact Ob.RcOp.tuples_lt h1 h2 hu eqs rcs
  | LtE => rw [c2 rfl, ← hl1, ← hl2]; exact Ob.RcOp.tuples_le h1 h2 hu eqs rcs
  | Gt => rw [c3 rfl, ← hl1, ← hl2]; exact Ob.RcOp.tuples_gt h1 h2 hu eqs rcs
  | GtE => rw [c4 rfl, ← hl1, ← hl2]; exact Ob.RcOp.tuples_ge h1 h2 hu eqs rcs
  | _ => simp [isOrd] at hop

theorem depth_at : ∀ {ds : List D} {j : Nat} {d : D}, ds[j]? = some d → d.depth ≤ PyData.depthAll ds
  | [], j, _, e => by simp at e
  | x :: xs, 0, _, e => by simp at e; subst e; simp only [PyData.depthAll]; omega
  | x :: xs, j + 1, _, e => by
    have := depth_at (ds := xs) (j := j) (by simpa using e)
    simp only [PyData.depthAll]; omega
theorem lay_at : ∀ {ds : List D} {j : Nat} {d : D}, PyData.canLayAll0 ds = true → ds[j]? = some d → d.canLay0 = true
  | [], j, _, _, e => by simp at e
  | x :: xs, 0, _, h, e => by simp only [PyData.canLayAll0, Bool.and_eq_true] at h; simp at e; subst e; exact h.1
  | x :: xs, j + 1, _, h, e => by simp only [PyData.canLayAll0, Bool.and_eq_true] at h; exact lay_at h.2 (by simpa using e)
theorem ord_at : ∀ {ds es : List D} {j : Nat} {d e : D}, ordDs ds es = true → ds[j]? = some d → es[j]? = some e → ordD d e = true
  | [], _, j, _, _, _, h, _ => by simp at h
  | _ :: _, [], j, _, _, _, _, h => by simp at h
  | x :: xs, y :: ys, 0, _, _, h, h1, h2 => by simp only [ordDs, Bool.and_eq_true] at h; simp at h1 h2; subst h1; subst h2; exact h.1
  | x :: xs, y :: ys, j + 1, _, _, h, h1, h2 => by simp only [ordDs, Bool.and_eq_true] at h; exact ord_at h.2 (by simpa using h1) (by simpa using h2)
theorem rc_reads (op : CmpOp) (hop : isOrd op = true) : ∀ (n : Nat) (x y : D) (A : Around) (s : Shared) (a b : Value) (as bs : List Addr), x.depth ≤ n → ordD x y = true → x.canLay0 = true → y.canLay0 = true → A.units + min x.depth y.depth < cLine →
    Reads s.heap a x as → Reads s.heap b y bs → Ob.RcOp op A s a b (cmpR op (cmpD x y)) := by
  intro n
  induction n with
  | zero =>
    intro x y A s a b as bs hn h cx cy hu ra rb
    cases ra with
    | int i t =>
      cases rb with
      | int j u => exact rc_int op hop i j A s t u
      | _ => simp [ordD] at h
    | str i t =>
      cases rb with
      | str j u => exact rc_str op hop i j A s t u
      | _ => simp [ordD] at h
    | tuple h1 h2 h3 h4 => simp [PyData.depth] at hn
    | _ => simp [ordD] at h
  | succ n ih =>
    intro x y A s a b as bs hn h cx cy hu ra rb
    cases ra with
    | int i t =>
      cases rb with
      | int j u => exact rc_int op hop i j A s t u
      | _ => simp [ordD] at h
    | str i t =>
      cases rb with
      | str j u => exact rc_str op hop i j A s t u
      | _ => simp [ordD] at h
    | @tuple a o vs n1 xs as h1 h2 h3 h4 =>
      cases rb with
      | @tuple b o2 ws n2 ys bs g1 g2 g3 g4 =>
        simp only [ordD] at h
        simp only [PyData.canLay0] at cx cy
        simp only [PyData.depth] at hu hn
        have hl1 : vs.size = xs.length := by have := SeqAt.ReadsAll.length xs vs.toList _ h4; simpa using this
        have hl2 : ws.size = ys.length := by have := SeqAt.ReadsAll.length ys ws.toList _ g4; simpa using this
        simp only [cmpD]
        refine rc_tup op hop xs ys A s a b vs ws h (by omega) ⟨o, h1, h2, n1, h3⟩ ⟨o2, g1, g2, n2, g3⟩ hl1 hl2 fun j j1 j2 => ?_
        have e1 : xs[j]? = some xs[j] := List.getElem?_eq_getElem (by omega)
        have e2 : ys[j]? = some ys[j] := List.getElem?_eq_getElem (by omega)
        obtain ⟨v, vb, ev, rv⟩ := readsAll_at j h4 e1
        obtain ⟨u, ub, eu, ru⟩ := readsAll_at j g4 e2
        have ev' : vs[j] = v := by simpa [j1] using ev
        have eu' : ws[j] = u := by simpa [j2] using eu
        have d1 := depth_at e1
        have d2 := depth_at e2
        have q1 : xs.getD j .none = xs[j] := by simp [List.getD_eq_getElem?_getD, e1]
        have q2 : ys.getD j .none = ys[j] := by simp [List.getD_eq_getElem?_getD, e2]
        rw [ev', eu', q1, q2]
        have room : A.in1.units + min xs[j].depth ys[j].depth < cLine := by show A.units + 1 + _ < cLine; omega
        exact ⟨SeqAt.eqAt_reads _ _ A.in1 s _ _ _ _ rv ru (lay_at cx e1) (lay_at cy e2) room, ih _ _ A.in1 s _ _ _ _ (by omega) (ord_at h e1 e2) (lay_at cx e1) (lay_at cy e2) room rv ru⟩
      | _ => simp [ordD] at h
    | _ => simp [ordD] at h
end Pv
set_option Elab.async false
set_option linter.all false
set_option maxRecDepth 100000
set_option maxHeartbeats 4000000
namespace Pv
open PySem PySem.Spec L2
open PyProof.Rows hiding St

/-! ### comparisons by values -/
def layOk (x y : D) : Bool := x.canLay0 && y.canLay0 && decide (min x.depth y.depth ≤ 64)
def dEqB : D → D → Option Bool
  | .str a, .str b => some (a == b)
  | x, y => if layOk x y then some (PyData.eqv x y) else none
def dOrd (op : CmpOp) : D → D → Option Bool
  | .str a, .str b => some (cmpR op (cmpD (.str a) (.str b)))
  | x, y => if layOk x y && ordD x y then some (cmpR op (cmpD x y)) else none
def strIn (a b : Str) : Bool := !(Builtin.Str.occurrences b a 0 b.length 1).isEmpty
def dIn (x y : D) : Option Bool :=
  match y with
  | .list ys => if PyData.canLayAll0 ys && x.canLay0 && decide (min (PyData.depthAll ys) x.depth ≤ 64) then some (ys.any fun z => PyData.eqv z x) else none
  | .tuple ys => if PyData.canLayAll0 ys && x.canLay0 && decide (min (PyData.depthAll ys) x.depth ≤ 64) then some (ys.any fun z => PyData.eqv z x) else none
  | .str b => match x with | .str a => some (strIn a b) | _ => none
  | _ => none
def obD (o : Option Bool) : Option D := o.map .bool
def dCmp (op : CmpOp) (x y : D) : Option D :=
  match op with
  | .Eq => obD (dEqB x y)
  | .NotEq => obD ((dEqB x y).map (!·))
  | .Lt | .LtE | .Gt | .GtE => obD (dOrd op x y)
  | .In => obD (dIn x y)
  | .NotIn => obD ((dIn x y).map (!·))
  | _ => none
/-- two values compared, by their data -/
def rCmpG (K : PySem.W.Frag) (op : CmpOp) : R2 := fun x y H Q => ∃ dx dy b, (Dp K H x dx ∨ ∃ a, dx = .str a ∧ x = .str a) ∧ (Dp K H y dy ∨ ∃ a, dy = .str a ∧ y = .str a) ∧ dCmp op dx dy = some (.bool b) ∧ Q (.bl b) H
theorem layOk_inv {x y : D} (h : layOk x y = true) : x.canLay0 = true ∧ y.canLay0 = true ∧ min x.depth y.depth ≤ 64 := by
  unfold layOk at h
  rw [Bool.and_eq_true, Bool.and_eq_true] at h
  exact ⟨h.1.1, h.1.2, of_decide_eq_true h.2⟩
theorem dEqB_inv {x y : D} {b : Bool} (h : dEqB x y = some b) : (∃ a c, x = .str a ∧ y = .str c ∧ b = (a == c)) ∨ (layOk x y = true ∧ b = PyData.eqv x y) := by
  unfold dEqB at h
  split at h
  · exact .inl ⟨_, _, rfl, rfl, (Option.some.inj h).symm⟩
  · split at h
    · rename_i hl; exact .inr ⟨hl, (Option.some.inj h).symm⟩
    · cases h
theorem dOrd_inv {op : CmpOp} {x y : D} {b : Bool} (h : dOrd op x y = some b) : (∃ a c, x = .str a ∧ y = .str c ∧ b = cmpR op (cmpD x y)) ∨ (layOk x y = true ∧ ordD x y = true ∧ b = cmpR op (cmpD x y)) := by
  unfold dOrd at h
  split at h
  · exact .inl ⟨_, _, rfl, rfl, (Option.some.inj h).symm⟩
  · split at h
    · rename_i hl; rw [Bool.and_eq_true] at hl; exact .inr ⟨hl.1, hl.2, (Option.some.inj h).symm⟩
    · cases h
theorem obD_inv {o : Option Bool} {b : Bool} (h : obD o = some (.bool b)) : o = some b := by
  unfold obD at h
  cases o with
  | none => cases h
  | some c => simp at h; rw [h]
theorem obN_inv {o : Option Bool} {b : Bool} (h : obD (o.map (!·)) = some (.bool b)) : o = some (!b) := by
  have := obD_inv h
  cases o with
  | none => cases this
  | some c => simp at this; subst this; simp
section
variable {X : Cx}
theorem dp_reads' {pins : List (Addr × Obj)} {σ : L2.St} {H : Hp} {s : Shared} (I : Inv X pins σ H s) {d : D} {v : V} {u : Value} (h : Dp X.K H v d ∨ ∃ a, d = .str a ∧ v = .str a) (r : RelV v u) : ∃ as, Reads s.heap u d as := by
  rcases h with h | ⟨a, rfl, rfl⟩
  · exact Dp.reads I d v u h r
  · obtain ⟨t, rfl⟩ := r; exact ⟨_, .str a t⟩
theorem dp_str {H : Hp} {v : V} {a : Str} (h : Dp X.K H v (.str a) ∨ ∃ c, (PyData.str a) = .str c ∧ v = .str c) : v = .str a := by
  rcases h with h | ⟨c, e, rfl⟩
  · cases h; rfl
  · cases e; rfl
theorem op_cmpG (op : CmpOp) (hu : X.A.units + 66 < cLine) : OpR X (compareOp op) (rCmpG X.K op) := by
  intro pins s σ H x y v u Q I rx ry h
  obtain ⟨dx, dy, b, hx, hy, e, q⟩ := h
  obtain ⟨as, r1⟩ := dp_reads' I hx rx
  obtain ⟨bs, r2⟩ := dp_reads' I hy ry
  have fin : EP X pins σ Q (.bool b) s := ⟨.bl b, H, I, rfl, q⟩
  have hst : ∀ {a c : Str}, dx = .str a → dy = .str c → x = .str a ∧ y = .str c ∧ (∃ t, v = .str a t) ∧ (∃ t, u = .str c t) := fun {a c} e1 e2 => by
    subst e1; subst e2
    have h1 := dp_str hx
    have h2 := dp_str hy
    subst h1; subst h2
    exact ⟨rfl, rfl, rx, ry⟩
  have ordc : isOrd op = true → dOrd op dx dy = some b → wpAny (model X.prog X.w) X.A (richCompare op v u) (EP X pins σ Q) X.xe s := fun hop e => by
    rcases dOrd_inv e with ⟨a, c, e1, e2, e3⟩ | ⟨hl, ho, e3⟩
    · obtain ⟨h1, h2, ⟨t, h3⟩, ⟨t', h4⟩⟩ := hst e1 e2
      subst h3; subst h4
      refine rc_str op hop a c X.A s t t' X.prog X.w X.xe _ ?_
      rw [e1, e2] at e3
      rw [← e3]; exact fin
    · obtain ⟨c1, c2, c3⟩ := layOk_inv hl
      refine rc_reads op hop _ dx dy X.A s v u as bs (Nat.le_refl _) ho c1 c2 (by omega) r1 r2 X.prog X.w X.xe _ ?_
      rw [← e3]; exact fin
  have inc : ∀ {b'}, dIn dx dy = some b' → (∀ (Q' : Value → Shared → Prop), Q' (.bool b') s → wpAny (model X.prog X.w) X.A (compareOp .In v u) Q' X.xe s) ∧ (∀ (Q' : Value → Shared → Prop), Q' (.bool (!b')) s → wpAny (model X.prog X.w) X.A (compareOp .NotIn v u) Q' X.xe s) := fun {b'} e => by
    unfold dIn at e
    split at e
    · rename_i ys
      split at e
      · rename_i hc
        rw [Bool.and_eq_true, Bool.and_eq_true] at hc
        have h64 := of_decide_eq_true hc.2
        cases e
        exact ⟨fun Q' q => SeqAt.in_list_reads r2 r1 hc.1.1 hc.1.2 (by omega) q, fun Q' q => SeqAt.notIn_list_reads r2 r1 hc.1.1 hc.1.2 (by omega) q⟩
      · cases e
    · rename_i ys
      split at e
      · rename_i hc
        rw [Bool.and_eq_true, Bool.and_eq_true] at hc
        have h64 := of_decide_eq_true hc.2
        cases e
        exact ⟨fun Q' q => SeqAt.in_tuple_reads r2 r1 hc.1.1 hc.1.2 (by omega) q, fun Q' q => SeqAt.notIn_tuple_reads r2 r1 hc.1.1 hc.1.2 (by omega) q⟩
      · cases e
    · rename_i c
      split at e
      · rename_i a
        obtain ⟨h1, h2, ⟨t, h3⟩, ⟨t', h4⟩⟩ := hst rfl rfl
        subst h3; subst h4
        cases e
        exact ⟨fun Q' q => PyProof.Rows.in_str q, fun Q' q => PyProof.Rows.notIn_str q⟩
      · cases e
    · cases e
  cases op with
  | Eq =>
    rcases dEqB_inv (obD_inv e) with ⟨a, c, e1, e2, e3⟩ | ⟨hl, e3⟩
    · obtain ⟨h1, h2, ⟨t, h3⟩, ⟨t', h4⟩⟩ := hst e1 e2
      subst h3; subst h4
      refine PyProof.Rows.eq_str ?_
      rw [← e3]; exact fin
    · obtain ⟨c1, c2, c3⟩ := layOk_inv hl
      refine SeqAt.compareEq_reads r1 r2 c1 c2 (by omega) ?_
      rw [← e3]; exact fin
  | NotEq =>
    rcases dEqB_inv (obN_inv e) with ⟨a, c, e1, e2, e3⟩ | ⟨hl, e3⟩
    · obtain ⟨h1, h2, ⟨t, h3⟩, ⟨t', h4⟩⟩ := hst e1 e2
      subst h3; subst h4
      refine PyProof.Rows.ne_str ?_
      have : (a != c) = b := by rw [bne, ← e3]; simp
      rw [this]; exact fin
    · obtain ⟨c1, c2, c3⟩ := layOk_inv hl
      refine SeqAt.compareNe_reads r1 r2 c1 c2 (by omega) ?_
      rw [← e3, Bool.not_not]; exact fin
  | Lt => exact ordc rfl (obD_inv e)
  | LtE => exact ordc rfl (obD_inv e)
  | Gt => exact ordc rfl (obD_inv e)
  | GtE => exact ordc rfl (obD_inv e)
  | In => exact (inc (obD_inv e)).1 _ fin
  | NotIn => exact (inc (obN_inv e)).2 _ (by rw [Bool.not_not]; exact fin)
  | Is => simp [dCmp] at e
  | IsNot => simp [dCmp] at e
end
end Pv
set_option Elab.async false
set_option linter.all false
set_option maxRecDepth 100000
set_option maxHeartbeats 4000000
namespace Pv
open PySem PySem.Spec L2
open PyProof.Rows hiding St

/-- what the rules ask of the place where one stands -/
structure Gd (X : Cx) : Prop where
  calm : X.calm = true
  nd : X.N.Nodup
  un : X.A.units + 200 < cLine
  gu : X.A.guards = some []

/-! ### comparisons -/
section
variable {X : Cx} {Wx : WX} {ea eb ec e : Expr} {ma mb mc : M} {pos : Pos}
theorem dCmp_bool {op : CmpOp} {x y d : D} (h : dCmp op x y = some d) : ∃ b, d = .bool b := by
  have mp : ∀ {o : Option Bool}, obD o = some d → ∃ b, d = .bool b := fun {o} h => by
    cases o with
    | none => cases h
    | some b => cases h; exact ⟨b, rfl⟩
  cases op with
  | Is => cases h
  | IsNot => cases h
  | Eq => exact mp h
  | NotEq => exact mp h
  | Lt => exact mp h
  | LtE => exact mp h
  | Gt => exact mp h
  | GtE => exact mp h
  | In => exact mp h
  | NotIn => exact mp h
theorem dEqB_dict {a y : D} {kvs : List (D × D)} {b : Bool} (h : dEqB (.dict kvs) y = some b) : False := by
  rcases dEqB_inv h with ⟨_, _, e, _, _⟩ | ⟨hl, _⟩
  · cases e
  · have := (layOk_inv hl).1; simp [PyData.canLay0] at this
/-- what is compared is plain -/
theorem dCmp_lay {op : CmpOp} {x y d : D} (h : dCmp op x y = some d) : (x.canLay0 = true ∨ ∃ a, x = .str a) ∧ (y.canLay0 = true ∨ ∃ a, y = .str a) := by
  have eqc : ∀ {o}, dEqB x y = some o → (x.canLay0 = true ∨ ∃ a, x = .str a) ∧ (y.canLay0 = true ∨ ∃ a, y = .str a) := fun h => by
    rcases dEqB_inv h with ⟨a, c, e1, e2, _⟩ | ⟨hl, _⟩
    · exact ⟨.inr ⟨a, e1⟩, .inr ⟨c, e2⟩⟩
    · exact ⟨.inl (layOk_inv hl).1, .inl (layOk_inv hl).2.1⟩
  have orc : ∀ {op o}, dOrd op x y = some o → (x.canLay0 = true ∨ ∃ a, x = .str a) ∧ (y.canLay0 = true ∨ ∃ a, y = .str a) := fun h => by
    rcases dOrd_inv h with ⟨a, c, e1, e2, _⟩ | ⟨hl, _, _⟩
    · exact ⟨.inr ⟨a, e1⟩, .inr ⟨c, e2⟩⟩
    · exact ⟨.inl (layOk_inv hl).1, .inl (layOk_inv hl).2.1⟩
  have inc : ∀ {o}, dIn x y = some o → (x.canLay0 = true ∨ ∃ a, x = .str a) ∧ (y.canLay0 = true ∨ ∃ a, y = .str a) := fun h => by
    unfold dIn at h
    split at h
    · split at h
      · rename_i hc; rw [Bool.and_eq_true, Bool.and_eq_true] at hc; exact ⟨.inl hc.1.2, .inl (by simpa [PyData.canLay0] using hc.1.1)⟩
      · cases h
    · split at h
      · rename_i hc; rw [Bool.and_eq_true, Bool.and_eq_true] at hc; exact ⟨.inl hc.1.2, .inl (by simpa [PyData.canLay0] using hc.1.1)⟩
      · cases h
    · split at h
      · exact ⟨.inr ⟨_, rfl⟩, .inr ⟨_, rfl⟩⟩
      · cases h
    · cases h
  have mp : ∀ {o : Option Bool} {d}, obD o = some d → ∃ b, o = some b := fun {o d} h => by cases o with | none => cases h | some b => exact ⟨b, rfl⟩
  have mp2 : ∀ {o : Option Bool} {d}, obD (o.map (!·)) = some d → ∃ b, o = some b := fun {o d} h => by cases o with | none => cases h | some b => exact ⟨b, rfl⟩
  cases op with
  | Eq => obtain ⟨b, h⟩ := mp h; exact eqc h
  | NotEq => obtain ⟨b, h⟩ := mp2 h; exact eqc h
  | Lt => obtain ⟨b, h⟩ := mp h; exact orc h
  | LtE => obtain ⟨b, h⟩ := mp h; exact orc h
  | Gt => obtain ⟨b, h⟩ := mp h; exact orc h
  | GtE => obtain ⟨b, h⟩ := mp h; exact orc h
  | In => obtain ⟨b, h⟩ := mp h; exact inc h
  | NotIn => obtain ⟨b, h⟩ := mp2 h; exact inc h
  | Is => cases h
  | IsNot => cases h
theorem ok_cmp {N : Nv} (op : CmpOp) : Ok2 N (rCmpG N.K op) (onD2 (dCmp op)) := by
  intro W H st x y dx dy Q hr rx ry p
  obtain ⟨d, e, p⟩ := onD2_post p
  obtain ⟨b, rfl⟩ := dCmp_bool e
  obtain ⟨l1, l2⟩ := dCmp_lay e
  refine ⟨deref st dx, deref st dy, b, ?_, ?_, e, p.val hr rfl⟩
  · rcases l1 with l | ⟨a, l⟩
    · exact .inl (rep_dpR hr rx rfl l)
    · exact .inr ⟨a, l, rep_dstr hr rx l⟩
  · rcases l2 with l | ⟨a, l⟩
    · exact .inl (rep_dpR hr ry rfl l)
    · exact .inr ⟨a, l, rep_dstr hr ry l⟩
def mCmp (op : CmpOp) : M → M → M := mOp2 (onD2 (dCmp op))
theorem ge_cmp {op : CmpOp} (g : Gd X) (ha : GE X Wx ea ma) (hb : GE X Wx eb mb) (hm : behindInMarks op eb = false := by first | exact nomark _ | rfl) : GE X Wx (.Compare ea [op] [eb] pos) (mCmp op ma mb) :=
  ge_op2 onD2_nx (ok_cmp op) (pe_cmpR (op_cmpG op (by have := g.un; omega)) ha hb hm)
def isNone : D → Bool
  | .none => true
  | _ => false
def dIsN : D → Option D := fun x => some (.bool (isNone x))
def dNotN : D → Option D := fun x => some (.bool (!isNone x))
theorem isN_rep {K : PySem.W.Frag} {W : Wd} {v : V} {d : D} (h : rep K W v d) : decide (v = V.non) = isNone d := by
  cases d with
  | none => cases h; rfl
  | bool b => cases h; rfl
  | int i => cases h; rfl
  | str x => cases h; rfl
  | list ds => obtain ⟨a, xs, e, _⟩ := h; subst e; rfl
  | tuple ds => obtain ⟨a, xs, e, _⟩ := h; subst e; rfl
  | dict ds => rcases rep_dict h with ⟨_, a, _, e, _⟩ | ⟨_, a, xs, _, e, _⟩ | ⟨_, a, xs, _, e, _⟩ <;> (subst e; rfl)
def f1 (g : D → Option D) : F1 := fun x st => lift (g x) st
def mIsN : M → M := mOp1 (f1 dIsN)
def mNotN : M → M := mOp1 (f1 dNotN)
theorem f1_nx {g : D → Option D} (x : D) (st : Sto) (ex : XV) (s2 : Sto) : f1 g x st ≠ .exc ex s2 := by
  unfold f1 lift; split <;> simp
theorem f1_post {N : Nv} {W : Wd} {H : Hp} {Q : VK} {E : XK} {g : D → Option D} {x : D} {st : Sto} (p : Post N W H Q E (f1 g x st)) : ∃ d, g x = some d ∧ Post N W H Q E (.ok d st) := by
  unfold f1 lift at p
  split at p
  · rename_i d e; exact ⟨d, e, p⟩
  · exact p.elim
theorem ge_isN {j p2} (ha : GE X Wx ea ma) : GE X Wx (.Compare ea [.Is] [.Constant .none j p2] pos) (mIsN ma) := by
  refine ge_op1 (r := fun x H Q => Q (.bl (decide (x = .non))) H) f1_nx ?_ (pe_cmp (pc_isN ha))
  intro W H st x dx Q hr rx p
  obtain ⟨d, e, p⟩ := f1_post p
  cases e
  exact p.val hr (by rw [isN_rep rx]; rfl)
theorem ge_notN {j p2} (ha : GE X Wx ea ma) : GE X Wx (.Compare ea [.IsNot] [.Constant .none j p2] pos) (mNotN ma) := by
  refine ge_op1 (r := fun x H Q => Q (.bl (!decide (x = .non))) H) f1_nx ?_ (pe_cmp (pc_notN ha))
  intro W H st x dx Q hr rx p
  obtain ⟨d, e, p⟩ := f1_post p
  cases e
  exact p.val hr (by rw [isN_rep rx]; rfl)
/-- a op b op' c -/
def mChain (op op' : CmpOp) (a b c : M) : M := fun sl st => (a sl st).bind fun x st => (b sl st).bind fun y st => match onD2 (dCmp op) x y st with
  | .ok (.bool true) st => (c sl st).bind fun z st => onD2 (dCmp op') y z st
  | .ok (.bool false) st => .ok (.bool false) st
  | _ => .bad
theorem chain_read {op op' : CmpOp} {W : Wd} {H : Hp} {st : Sto} {sl : Sl} {sh : L2.St} {Q : VK} (hr : HR X.K W H st) (hs : SR X.K W sh sl) (p : Post (nv X) W H Q (fun cls dd H' => Wx cls dd sh H') (mChain op op' ma mb mc sl st)) :
    tChain (rCmpG X.K op) (rCmpG X.K op') (rd (nv X) Wx ma) (rd (nv X) Wx mb) (rd (nv X) Wx mc) sh H Q := by
  refine rd_bind hr hs p fun d1 st1 W1 v1 H1 e1 x1 h1 s1 r1 p1 => ?_
  refine rd_bind h1 s1 p1 fun d2 st2 W2 v2 H2 e2 x2 h2 s2 r2 p2 => ?_
  cases e3 : onD2 (dCmp op) d1 d2 st2 with
  | bad => rw [e3] at p2; exact p2.elim
  | exc a b => exact absurd e3 (onD2_nx _ _ _ _ _)
  | ok d st3 =>
    have hst : st3 = st2 := by
      unfold onD2 lift at e3
      split at e3
      · cases e3; rfl
      · cases e3
    subst hst
    rw [e3] at p2
    refine ok_cmp (N := nv X) op W2 H2 st3 v1 v2 d1 d2 _ h2 (x2.rep r1) r2 ?_
    rw [e3]
    intro W3 v3 H3 x3 h3 r3
    cases d with
    | bool k =>
      cases r3
      refine ⟨k, rfl, ?_⟩
      cases k with
      | false => simp only [Bool.false_eq_true, if_false]; exact (Post.ext x3 p2).val h3 rfl
      | true =>
        simp only [if_true]
        refine rd_bind h3 (s2.ext x3) (Post.ext x3 p2) fun d4 st4 W4 v4 H4 e4 x4 h4 s4 r4 p4 => ?_
        refine ok_cmp (N := nv X) op' W4 H4 st4 v2 v4 d2 d4 Q h4 (x4.rep (x3.rep r2)) r4 ?_
        cases q : onD2 (dCmp op') d2 d4 st4 with
        | ok d st3 => rw [q] at p4; exact p4
        | bad => rw [q] at p4; exact p4
        | exc ex s3 => exact absurd q (onD2_nx _ _ _ _ _)
    | _ => exact p2.elim
theorem ge_chain {op op' : CmpOp} (g : Gd X) (ha : GE X Wx ea ma) (hb : GE X Wx eb mb) (hc : GE X Wx ec mc) (hm : lastMarks [op, op'] [eb, ec] = false := by with_unfolding_all rfl) :
    GE X Wx (.Compare ea [op, op'] [eb, ec] pos) (mChain op op' ma mb mc) :=
  (pe_chain (op_cmpG op (by have := g.un; omega)) (op_cmpG op' (by have := g.un; omega)) ha hb hc hm).imp fun sh H Q ⟨W, sl, st, hr, hs, p⟩ => chain_read hr hs p
end

/-! ### tests -/
abbrev MT := Sl → Sto → R Bool
def PostT (N : Nv) (W : Wd) (H : Hp) (Q : Bool → Hp → Prop) (E : XK) : R Bool → Prop
  | .ok b st => ∀ W' H', Ext W H W' H' → HR N.K W' H' st → Q b H'
  | .exc x st => ∀ W' cls dd H', Ext W H W' H' → HR N.K W' H' st → repX N W' H' cls dd x → E cls dd H'
  | .bad => False
def rdT (N : Nv) (Wx : WX) (m : MT) : TT := fun sh H Q => ∃ W sl st, HR N.K W H st ∧ SR N.K W sh sl ∧ PostT N W H Q (fun cls dd H' => Wx cls dd sh H') (m sl st)
def GT (X : Cx) (Wx : WX) (e : Expr) (m : MT) : Prop := PT X e (rdT (nv X) Wx m)
def GW (X : Cx) (Wx : WX) (e : Expr) (m : MT) : Prop := PW X e (rdT (nv X) Wx m)
theorem _root_.L2.PW.imp {X : Cx} {e : Expr} {t t' : TT} (h : PW X e t) (i : ∀ σ H Q, t' σ H Q → t σ H Q) : PW X e t' := ⟨fun w pins s σ H Q I q => h.run w pins s σ H Q I (i σ H Q q)⟩
section
variable {X : Cx} {Wx : WX} {N : Nv} {W W' : Wd} {H H' : Hp} {st : Sto} {sl : Sl} {sh : L2.St}
theorem PostT.ext {Q : Bool → Hp → Prop} {E : XK} {r : R Bool} (e : Ext W H W' H') (h : PostT N W H Q E r) : PostT N W' H' Q E r := by
  cases r with
  | ok d st => exact fun W2 H2 e2 hr => h W2 H2 (e.trans e2) hr
  | exc x st => exact fun W2 c dd H2 e2 hr rp => h W2 c dd H2 (e.trans e2) hr rp
  | bad => exact h
theorem PostT.now {Q : Bool → Hp → Prop} {E : XK} {b : Bool} (hr : HR N.K W H st) (p : PostT N W H Q E (.ok b st)) : Q b H := p W H .refl hr
theorem rdT_bind {m : MT} {f : Bool → Sto → R Bool} {Q Q2 : Bool → Hp → Prop} (hr : HR N.K W H st) (hs : SR N.K W sh sl)
    (h : PostT N W H Q (fun cls dd H' => Wx cls dd sh H') ((m sl st).bind f))
    (k : ∀ b st1 W1 H1, m sl st = .ok b st1 → Ext W H W1 H1 → HR N.K W1 H1 st1 → SR N.K W1 sh sl → PostT N W1 H1 Q (fun cls dd H' => Wx cls dd sh H') (f b st1) → Q2 b H1) : rdT N Wx m sh H Q2 := by
  refine ⟨W, sl, st, hr, hs, ?_⟩
  cases e : m sl st with
  | ok d st1 => rw [e] at h; exact fun W1 H1 e1 h1 => k d st1 W1 H1 e e1 h1 (hs.ext e1) (PostT.ext e1 h)
  | exc x st1 => rw [e] at h; exact h
  | bad => rw [e] at h; exact h
/-- a value is reckoned first, then a test goes on -/
theorem rd_bindT {m : M} {f : D → Sto → R Bool} {Q : Bool → Hp → Prop} {Q2 : VK} (hr : HR N.K W H st) (hs : SR N.K W sh sl)
    (h : PostT N W H Q (fun cls dd H' => Wx cls dd sh H') ((m sl st).bind f))
    (k : ∀ d st1 W1 v H1, m sl st = .ok d st1 → Ext W H W1 H1 → HR N.K W1 H1 st1 → SR N.K W1 sh sl → rep N.K W1 v d → PostT N W1 H1 Q (fun cls dd H' => Wx cls dd sh H') (f d st1) → Q2 v H1) : rd N Wx m sh H Q2 := by
  refine ⟨W, sl, st, hr, hs, ?_⟩
  cases e : m sl st with
  | ok d st1 => rw [e] at h; exact fun W1 v H1 e1 h1 r1 => k d st1 W1 v H1 e e1 h1 (hs.ext e1) r1 (PostT.ext e1 h)
  | exc x st1 => rw [e] at h; exact h
  | bad => rw [e] at h; exact h
/-- a test first, then a value -/
theorem rdT_bindD {m : MT} {f : Bool → Sto → R D} {Q : VK} {Q2 : Bool → Hp → Prop} (hr : HR N.K W H st) (hs : SR N.K W sh sl)
    (h : Post N W H Q (fun cls dd H' => Wx cls dd sh H') ((m sl st).bind f))
    (k : ∀ b st1 W1 H1, m sl st = .ok b st1 → Ext W H W1 H1 → HR N.K W1 H1 st1 → SR N.K W1 sh sl → Post N W1 H1 Q (fun cls dd H' => Wx cls dd sh H') (f b st1) → Q2 b H1) : rdT N Wx m sh H Q2 := by
  refine ⟨W, sl, st, hr, hs, ?_⟩
  cases e : m sl st with
  | ok d st1 => rw [e] at h; exact fun W1 H1 e1 h1 => k d st1 W1 H1 e e1 h1 (hs.ext e1) (Post.ext e1 h)
  | exc x st1 => rw [e] at h; exact h
  | bad => rw [e] at h; exact h
end
/-- the truth of a value -/
def truD (st : Sto) (d : D) : Option Bool :=
  match deref st d with
  | .none => some false
  | .bool b => some b
  | .int i => some (i != 0)
  | .str y => if y.length ≤ sizeLine then some ((y.length : Int) != 0) else none
  | .list ds => some (!ds.isEmpty)
  | .tuple ds => some (!ds.isEmpty)
  | .dict [(.int r, .none)] => (match st[r.toNat]? with | some (.dct kvs) => some (!kvs.isEmpty) | _ => none)
  | _ => none
section
variable {X : Cx} {Wx : WX} {ea eb ec e : Expr} {ma mb mc : M} {ta tb tc : MT} {pos : Pos} {K : PySem.W.Frag} {W : Wd} {H : Hp} {st : Sto} {v : V} {d : D}
theorem isEmpty_repL {vs : List V} {ds : List D} (h : repL K W vs ds) : (!ds.isEmpty) = !vs.isEmpty := by
  cases ds with
  | nil => cases h; rfl
  | cons d ds => obtain ⟨v, us, e, _, _⟩ := h; subst e; rfl
theorem isEmpty_repP {κ : Type} {ks : List (κ × V)} {kvs : List (κ × D)} (h : repP K W ks kvs) : (!kvs.isEmpty) = !ks.isEmpty := by
  cases h <;> rfl
theorem tru_rep {k : Bool} (hr : HR K W H st) (h : rep K W v d) (e : truD st d = some k) : TruV K v H k := by
  unfold truD at e
  cases q : deref st d with
  | none => rw [q] at e; cases e; rw [rep_dnone hr h q]; rfl
  | bool b => rw [q] at e; cases e; rw [rep_dbool hr h q]; rfl
  | int i => rw [q] at e; cases e; rw [rep_dint hr h q]; rfl
  | str y =>
    rw [q] at e
    simp only at e
    split at e
    · rename_i hl; cases e; rw [rep_dstr hr h q]; exact ⟨hl, rfl⟩
    · cases e
  | list ds => rw [q] at e; cases e; obtain ⟨a, xs, e1, e2, l⟩ := rep_dlist hr h q; subst e1; exact .inl ⟨xs, .inl (.inl e2), isEmpty_repL l⟩
  | tuple ds => rw [q] at e; cases e; obtain ⟨a, xs, e1, e2, l⟩ := rep_dtuple hr h q; subst e1; exact .inr (.inl ⟨xs, e2, isEmpty_repL l⟩)
  | dict kvs =>
    cases d with
    | dict kvs' =>
      rcases rep_dict h with ⟨r, a, e1, e2, e3⟩ | ⟨ds', a, xs, e1, _, _⟩ | ⟨ds', a, xs, e1, _, _⟩
      rotate_left
      · subst e1; simp at q
      · subst e1; rw [deref_gs] at e; cases e
      subst e1
      obtain ⟨m, hm, _, ho⟩ := hr.at e3
      rw [deref_ref, hm] at q
      cases m with
      | lst ds => simp at q
      | ro ds => simp at q; subst q; rw [deref_ref, hm] at e; simp [hm] at e
      | dct ds =>
        rw [deref_ref, hm] at e
        have e' : (!ds.isEmpty) = k := by simpa [hm] using e
        subst e'
        obtain ⟨ks, f1, f2⟩ := ho
        subst e2
        exact .inr (.inr ⟨ks, f1, isEmpty_repP f2⟩)
      | dctT ds => simp at q; subst q; rw [deref_ref, hm] at e; simp [hm] at e
    | none => simp at q
    | bool _ => simp at q
    | int _ => simp at q
    | str _ => simp at q
    | list _ => simp at q
    | tuple _ => simp at q
def mTru (m : M) : MT := fun sl st => (m sl st).bind fun d st => lift (truD st d) st
def mTb (m : M) : MT := fun sl st => (m sl st).bind fun d st => match d with | .bool b => .ok b st | _ => .bad
/-- any value, by its truth -/
theorem gt_val (ha : GE X Wx ea ma) (he : ∀ whole, isTrue ea X.env whole = (do let v ← whole; standAt ea.pos; holding [v] (truthy v)) := by intro _; rfl) : GT X Wx ea (mTru ma) := by
  refine (pt_truth ha he).imp fun sh H Q ⟨W, sl, st, hr, hs, p⟩ => ?_
  refine rd_bindT hr hs p fun d1 st1 W1 v1 H1 e1 x1 h1 s1 r1 p1 => ?_
  cases e : truD st1 d1 with
  | none => rw [e] at p1; exact p1.elim
  | some k => rw [e] at p1; exact ⟨k, tru_rep h1 r1 e, PostT.now h1 p1⟩
theorem gt_cmp {op : CmpOp} (g : Gd X) (ha : GE X Wx ea ma) (hb : GE X Wx eb mb) (hm : behindInMarks op eb = false := by first | exact nomark _ | rfl) : GT X Wx (.Compare ea [op] [eb] pos) (mTb (mCmp op ma mb)) := by
  refine (pt_cmpR (op_cmpG op (by have := g.un; omega)) ha hb hm).imp fun sh H Q ⟨W, sl, st, hr, hs, p⟩ => ?_
  have p' : PostT (nv X) W H Q (fun cls dd H' => Wx cls dd sh H') ((ma sl st).bind fun x st => (mb sl st).bind fun y st => (onD2 (dCmp op) x y st).bind fun d st => match d with | .bool b => .ok b st | _ => .bad) := by
    have e : (mTb (mCmp op ma mb)) sl st = ((ma sl st).bind fun x st => (mb sl st).bind fun y st => (onD2 (dCmp op) x y st).bind fun d st => match d with | .bool b => .ok b st | _ => .bad) := by
      unfold mTb mCmp mOp2
      cases ma sl st with
      | ok a b =>
        show ((mb sl b).bind _).bind _ = (mb sl b).bind _
        cases mb sl b <;> rfl
      | exc _ _ => rfl
      | bad => rfl
    rw [← e]; exact p
  refine rd_bindT hr hs p' fun d1 st1 W1 v1 H1 e1 x1 h1 s1 r1 p1 => ?_
  refine rd_bindT h1 s1 p1 fun d2 st2 W2 v2 H2 e2 x2 h2 s2 r2 p2 => ?_
  refine ok_cmp (N := nv X) op W2 H2 st2 v1 v2 d1 d2 _ h2 (x2.rep r1) r2 ?_
  cases q : onD2 (dCmp op) d1 d2 st2 with
  | bad => rw [q] at p2; exact p2.elim
  | exc _ _ => exact absurd q (onD2_nx _ _ _ _ _)
  | ok d st3 =>
    rw [q] at p2
    intro W3 v3 H3 x3 h3 r3
    cases d with
    | bool b => cases r3; exact ⟨b, rfl, PostT.now h3 (PostT.ext x3 p2)⟩
    | _ => exact p2.elim
theorem gt_isN {j p2} (ha : GE X Wx ea ma) : GT X Wx (.Compare ea [.Is] [.Constant .none j p2] pos) (mTb (mIsN ma)) := by
  refine (pt_cmp (pc_isN ha)).imp fun sh H Q ⟨W, sl, st, hr, hs, p⟩ => ?_
  have e : (mTb (mIsN ma)) sl st = ((ma sl st).bind fun x st => .ok (isNone x) st) := by
    unfold mTb mIsN mOp1
    cases ma sl st <;> rfl
  rw [e] at p
  refine rd_bindT hr hs p fun d1 st1 W1 v1 H1 e1 x1 h1 s1 r1 p1 => ⟨_, rfl, ?_⟩
  rw [isN_rep r1]; exact PostT.now h1 p1
theorem gt_notN {j p2} (ha : GE X Wx ea ma) : GT X Wx (.Compare ea [.IsNot] [.Constant .none j p2] pos) (mTb (mNotN ma)) := by
  refine (pt_cmp (pc_notN ha)).imp fun sh H Q ⟨W, sl, st, hr, hs, p⟩ => ?_
  have e : (mTb (mNotN ma)) sl st = ((ma sl st).bind fun x st => .ok (!isNone x) st) := by
    unfold mTb mNotN mOp1
    cases ma sl st <;> rfl
  rw [e] at p
  refine rd_bindT hr hs p fun d1 st1 W1 v1 H1 e1 x1 h1 s1 r1 p1 => ⟨_, rfl, ?_⟩
  rw [isN_rep r1]; exact PostT.now h1 p1
theorem tb_bind {m : M} {sl : Sl} {st : Sto} {f : D → Sto → R D} {g : D → Sto → R Bool} (h : ∀ d st, ((f d st).bind fun d st => match d with | .bool b => R.ok b st | _ => .bad) = g d st) : mTb (fun sl st => (m sl st).bind f) sl st = (m sl st).bind g := by
  unfold mTb
  show ((m sl st).bind f).bind _ = (m sl st).bind g
  cases m sl st with
  | ok a b => exact h a b
  | exc _ _ => rfl
  | bad => rfl
theorem chainT_read {op op' : CmpOp} {W : Wd} {H : Hp} {st : Sto} {sl : Sl} {sh : L2.St} {Q : Bool → Hp → Prop} (hr : HR X.K W H st) (hs : SR X.K W sh sl) (p : PostT (nv X) W H Q (fun cls dd H' => Wx cls dd sh H') (mTb (mChain op op' ma mb mc) sl st)) :
    tTest (tChain (rCmpG X.K op) (rCmpG X.K op') (rd (nv X) Wx ma) (rd (nv X) Wx mb) (rd (nv X) Wx mc)) sh H Q := by
  refine chain_read (op := op) (op' := op') (ma := ma) (mb := mb) (mc := mc) hr hs ?_
  unfold mTb at p
  cases q : mChain op op' ma mb mc sl st with
  | bad => rw [q] at p; exact p
  | exc x st => rw [q] at p; exact p
  | ok d st1 =>
    rw [q] at p
    cases d with
    | bool b => intro W1 v H1 x1 h1 r1; cases r1; exact ⟨b, rfl, p W1 H1 x1 h1⟩
    | _ => exact p.elim
theorem gt_chain {op op' : CmpOp} (g : Gd X) (ha : GE X Wx ea ma) (hb : GE X Wx eb mb) (hc : GE X Wx ec mc) (hm : lastMarks [op, op'] [eb, ec] = false := by with_unfolding_all rfl) :
    GT X Wx (.Compare ea [op, op'] [eb, ec] pos) (mTb (mChain op op' ma mb mc)) :=
  (pt_chain (op_cmpG op (by have := g.un; omega)) (op_cmpG op' (by have := g.un; omega)) ha hb hc hm).imp fun sh H Q ⟨W, sl, st, hr, hs, p⟩ => chainT_read hr hs p
def mNotT (t : MT) : MT := fun sl st => (t sl st).bind fun b st => .ok (!b) st
theorem gt_not (ha : GT X Wx ea ta) : GT X Wx (.UnaryOp .Not ea pos) (mNotT ta) := by
  refine (pt_not ha).imp fun sh H Q ⟨W, sl, st, hr, hs, p⟩ => ?_
  exact rdT_bind hr hs p fun b st1 W1 H1 e1 x1 h1 s1 p1 => PostT.now h1 p1
def mAndT (t u : MT) : MT := fun sl st => (t sl st).bind fun b st => if b = true then u sl st else .ok false st
def mOrT (t u : MT) : MT := fun sl st => (t sl st).bind fun b st => if b = true then .ok true st else u sl st
theorem gw_and {rest : List Expr} (ha : GT X Wx ea ta) (hb : GW X Wx (.BoolOp .And (eb :: rest) pos) tb) : GW X Wx (.BoolOp .And (ea :: eb :: rest) pos) (mAndT ta tb) := by
  refine (pw_and ha hb).imp fun sh H Q ⟨W, sl, st, hr, hs, p⟩ => ?_
  refine rdT_bind hr hs p fun b st1 W1 H1 e1 x1 h1 s1 p1 => ?_
  cases b with
  | true => rw [if_pos rfl] at p1 ⊢; exact ⟨W1, sl, st1, h1, s1, p1⟩
  | false => rw [if_neg Bool.false_ne_true] at p1 ⊢; exact PostT.now h1 p1
theorem gw_or {rest : List Expr} (ha : GT X Wx ea ta) (hb : GW X Wx (.BoolOp .Or (eb :: rest) pos) tb) : GW X Wx (.BoolOp .Or (ea :: eb :: rest) pos) (mOrT ta tb) := by
  refine (pw_or ha hb).imp fun sh H Q ⟨W, sl, st, hr, hs, p⟩ => ?_
  refine rdT_bind hr hs p fun b st1 W1 H1 e1 x1 h1 s1 p1 => ?_
  cases b with
  | true => rw [if_pos rfl] at p1 ⊢; exact PostT.now h1 p1
  | false => rw [if_neg Bool.false_ne_true] at p1 ⊢; exact ⟨W1, sl, st1, h1, s1, p1⟩
theorem gw_and1 (ha : GT X Wx ea ta) : GW X Wx (.BoolOp .And [ea] pos) ta := pw_and1 ha
theorem gw_or1 (ha : GT X Wx ea ta) : GW X Wx (.BoolOp .Or [ea] pos) ta := pw_or1 ha
theorem gt_bool (h : GW X Wx e ta) : GT X Wx e ta := PW.pt h

/-! ### and, or, not, if as values -/
def mAnd (a b : M) : M := fun sl st => (a sl st).bind fun x st => match truD st x with | some true => b sl st | some false => .ok x st | none => .bad
def mOr (a b : M) : M := fun sl st => (a sl st).bind fun x st => match truD st x with | some true => .ok x st | some false => b sl st | none => .bad
theorem ge_and {rest : List Expr} (ha : GE X Wx ea ma) (hb : GE X Wx (.BoolOp .And (eb :: rest) pos) mb) : GE X Wx (.BoolOp .And (ea :: eb :: rest) pos) (mAnd ma mb) := by
  refine (pe_andT ha hb).imp fun sh H Q ⟨W, sl, st, hr, hs, p⟩ => ?_
  refine rd_bind hr hs p fun d1 st1 W1 v1 H1 e1 x1 h1 s1 r1 p1 => ?_
  cases e : truD st1 d1 with
  | none => rw [e] at p1; exact p1.elim
  | some k =>
    rw [e] at p1
    refine ⟨k, tru_rep h1 r1 e, ?_⟩
    cases k with
    | true => rw [if_pos rfl]; exact ⟨W1, sl, st1, h1, s1, p1⟩
    | false => rw [if_neg Bool.false_ne_true]; exact p1.val h1 r1
theorem ge_or {rest : List Expr} (ha : GE X Wx ea ma) (hb : GE X Wx (.BoolOp .Or (eb :: rest) pos) mb) : GE X Wx (.BoolOp .Or (ea :: eb :: rest) pos) (mOr ma mb) := by
  refine (pe_orT ha hb).imp fun sh H Q ⟨W, sl, st, hr, hs, p⟩ => ?_
  refine rd_bind hr hs p fun d1 st1 W1 v1 H1 e1 x1 h1 s1 r1 p1 => ?_
  cases e : truD st1 d1 with
  | none => rw [e] at p1; exact p1.elim
  | some k =>
    rw [e] at p1
    refine ⟨k, tru_rep h1 r1 e, ?_⟩
    cases k with
    | true => rw [if_pos rfl]; exact p1.val h1 r1
    | false => rw [if_neg Bool.false_ne_true]; exact ⟨W1, sl, st1, h1, s1, p1⟩
theorem ge_one {op} (ha : GE X Wx ea ma) : GE X Wx (.BoolOp op [ea] pos) ma := pe_one ha
def mNot (a : M) : M := fun sl st => (a sl st).bind fun x st => match truD st x with | some k => .ok (.bool (!k)) st | none => .bad
theorem ge_not (ha : GE X Wx ea ma) : GE X Wx (.UnaryOp .Not ea pos) (mNot ma) := by
  refine (pe_notT ha).imp fun sh H Q ⟨W, sl, st, hr, hs, p⟩ => ?_
  refine rd_bind hr hs p fun d1 st1 W1 v1 H1 e1 x1 h1 s1 r1 p1 => ?_
  cases e : truD st1 d1 with
  | none => rw [e] at p1; exact p1.elim
  | some k => rw [e] at p1; exact ⟨k, tru_rep h1 r1 e, p1.val h1 rfl⟩
def mIf (t : MT) (a b : M) : M := fun sl st => (t sl st).bind fun k st => if k = true then a sl st else b sl st
theorem ge_if (hc : GT X Wx ec tc) (ha : GE X Wx ea ma) (hb : GE X Wx eb mb) : GE X Wx (.IfExp ec ea eb pos) (mIf tc ma mb) := by
  refine (pe_ifExp hc ha hb).imp fun sh H Q ⟨W, sl, st, hr, hs, p⟩ => ?_
  refine rdT_bindD hr hs p fun b st1 W1 H1 e1 x1 h1 s1 p1 => ?_
  cases b with
  | true => rw [if_pos rfl] at p1 ⊢; exact ⟨W1, sl, st1, h1, s1, p1⟩
  | false => rw [if_neg Bool.false_ne_true] at p1 ⊢; exact ⟨W1, sl, st1, h1, s1, p1⟩
end
end Pv
set_option Elab.async false
set_option linter.all false
set_option maxRecDepth 100000
set_option maxHeartbeats 4000000
namespace Pv
open PySem PySem.Spec L2
open PyProof.Rows hiding St

/-! ### several parts from the left -/
abbrev Ms := Sl → Sto → R (List D)
def msNil : Ms := fun _ st => .ok [] st
def msCons (a : M) (r : Ms) : Ms := fun sl st => (a sl st).bind fun x st => (r sl st).bind fun xs st => .ok (x :: xs) st
def PostL (N : Nv) (W : Wd) (H : Hp) (Q : List V → Hp → Prop) (E : XK) : R (List D) → Prop
  | .ok ds st => ∀ W' vs H', Ext W H W' H' → HR N.K W' H' st → repL N.K W' vs ds → Q vs H'
  | .exc x st => ∀ W' cls dd H', Ext W H W' H' → HR N.K W' H' st → repX N W' H' cls dd x → E cls dd H'
  | .bad => False
def rdL (N : Nv) (Wx : WX) (m : Ms) : TA := fun sh H Q => ∃ W sl st, HR N.K W H st ∧ SR N.K W sh sl ∧ PostL N W H Q (fun cls dd H' => Wx cls dd sh H') (m sl st)
def GA (X : Cx) (Wx : WX) (es : List Expr) (ms : Ms) : Prop := PA X es (rdL (nv X) Wx ms)
section
variable {X : Cx} {Wx : WX} {N : Nv} {W W' : Wd} {H H' : Hp} {st : Sto} {sl : Sl} {sh : L2.St}
theorem PostL.ext {Q : List V → Hp → Prop} {E : XK} {r : R (List D)} (e : Ext W H W' H') (h : PostL N W H Q E r) : PostL N W' H' Q E r := by
  cases r with
  | ok d st => exact fun W2 v H2 e2 hr rp => h W2 v H2 (e.trans e2) hr rp
  | exc x st => exact fun W2 c dd H2 e2 hr rp => h W2 c dd H2 (e.trans e2) hr rp
  | bad => exact h
theorem rd_bindL {m : M} {f : D → Sto → R (List D)} {Q : List V → Hp → Prop} {Q2 : VK} (hr : HR N.K W H st) (hs : SR N.K W sh sl)
    (h : PostL N W H Q (fun cls dd H' => Wx cls dd sh H') ((m sl st).bind f))
    (k : ∀ d st1 W1 v H1, m sl st = .ok d st1 → Ext W H W1 H1 → HR N.K W1 H1 st1 → SR N.K W1 sh sl → rep N.K W1 v d → PostL N W1 H1 Q (fun cls dd H' => Wx cls dd sh H') (f d st1) → Q2 v H1) : rd N Wx m sh H Q2 := by
  refine ⟨W, sl, st, hr, hs, ?_⟩
  cases e : m sl st with
  | ok d st1 => rw [e] at h; exact fun W1 v H1 e1 h1 r1 => k d st1 W1 v H1 e e1 h1 (hs.ext e1) r1 (PostL.ext e1 h)
  | exc x st1 => rw [e] at h; exact h
  | bad => rw [e] at h; exact h
theorem rdL_bindL {m : Ms} {f : List D → Sto → R (List D)} {Q Q2 : List V → Hp → Prop} (hr : HR N.K W H st) (hs : SR N.K W sh sl)
    (h : PostL N W H Q (fun cls dd H' => Wx cls dd sh H') ((m sl st).bind f))
    (k : ∀ ds st1 W1 vs H1, m sl st = .ok ds st1 → Ext W H W1 H1 → HR N.K W1 H1 st1 → SR N.K W1 sh sl → repL N.K W1 vs ds → PostL N W1 H1 Q (fun cls dd H' => Wx cls dd sh H') (f ds st1) → Q2 vs H1) : rdL N Wx m sh H Q2 := by
  refine ⟨W, sl, st, hr, hs, ?_⟩
  cases e : m sl st with
  | ok d st1 => rw [e] at h; exact fun W1 v H1 e1 h1 r1 => k d st1 W1 v H1 e e1 h1 (hs.ext e1) r1 (PostL.ext e1 h)
  | exc x st1 => rw [e] at h; exact h
  | bad => rw [e] at h; exact h
theorem rdL_bind {m : Ms} {f : List D → Sto → R D} {Q : VK} {Q2 : List V → Hp → Prop} (hr : HR N.K W H st) (hs : SR N.K W sh sl)
    (h : Post N W H Q (fun cls dd H' => Wx cls dd sh H') ((m sl st).bind f))
    (k : ∀ ds st1 W1 vs H1, m sl st = .ok ds st1 → Ext W H W1 H1 → HR N.K W1 H1 st1 → SR N.K W1 sh sl → repL N.K W1 vs ds → Post N W1 H1 Q (fun cls dd H' => Wx cls dd sh H') (f ds st1) → Q2 vs H1) : rdL N Wx m sh H Q2 := by
  refine ⟨W, sl, st, hr, hs, ?_⟩
  cases e : m sl st with
  | ok d st1 => rw [e] at h; exact fun W1 v H1 e1 h1 r1 => k d st1 W1 v H1 e e1 h1 (hs.ext e1) r1 (Post.ext e1 h)
  | exc x st1 => rw [e] at h; exact h
  | bad => rw [e] at h; exact h
theorem PostL.now {Q : List V → Hp → Prop} {E : XK} {ds : List D} {vs : List V} (hr : HR N.K W H st) (p : PostL N W H Q E (.ok ds st)) (h : repL N.K W vs ds) : Q vs H := p W vs H .refl hr h
theorem ga_nil : GA X Wx [] msNil := pa_nil.imp fun sh H Q ⟨W, sl, st, hr, hs, p⟩ => PostL.now (vs := []) hr p rfl
theorem ga_cons {e : Expr} {es : List Expr} {m : M} {ms : Ms} (ha : GE X Wx e m) (hr : GA X Wx es ms) (hs : starEach (e :: es) X.env = (false, eval e X.env) :: starEach es X.env := by rfl) : GA X Wx (e :: es) (msCons m ms) := by
  refine (pa_cons ha hr hs).imp fun sh H Q ⟨W, sl, st, hr, hs, p⟩ => ?_
  refine rd_bindL hr hs p fun d1 st1 W1 v1 H1 e1 x1 h1 s1 r1 p1 => ?_
  refine rdL_bindL h1 s1 p1 fun ds st2 W2 vs H2 e2 x2 h2 s2 r2 p2 => ?_
  exact PostL.now h2 p2 ⟨v1, vs, rfl, x2.rep r1, r2⟩
end

/-! ### displays -/
def mkTup (ds : List D) (st : Sto) : R D := if ds.length ≤ sizeLine then .ok (.tuple ds) st else .bad
def mkLst (ds : List D) (st : Sto) : R D := if ds.length ≤ sizeLine then .ok (.list ds) st else .bad
/-- a list that will grow: an object of the store -/
def mkLstM (ds : List D) (st : Sto) : R D := if ds.length ≤ sizeLine then .ok (Rf st.length) (st ++ [.lst ds]) else .bad
def mTup (ms : Ms) : M := fun sl st => (ms sl st).bind mkTup
def mLst (ms : Ms) : M := fun sl st => (ms sl st).bind mkLst
def mLstM (ms : Ms) : M := fun sl st => (ms sl st).bind mkLstM
section
variable {X : Cx} {Wx : WX} {es : List Expr} {ms : Ms} {pos : Pos} {N : Nv} {W W' : Wd} {H H' : Hp} {st : Sto}
theorem post_tup {Q : VK} {E : XK} {ds : List D} {vs : List V} (hr : HR N.K W H st) (h : repL N.K W vs ds) (p : Post N W H Q E (mkTup ds st)) : vs.length ≤ sizeLine ∧ ∀ a, H a = none → Q (.ref a) (upd H a (.tup vs)) := by
  unfold mkTup at p
  split at p
  · rename_i hl; exact ⟨by rw [repL_length h]; exact hl, p.tup hr h⟩
  · exact p.elim
theorem post_lst {Q : VK} {E : XK} {ds : List D} {vs : List V} (hr : HR N.K W H st) (h : repL N.K W vs ds) (p : Post N W H Q E (mkLst ds st)) : vs.length ≤ sizeLine ∧ ∀ a, H a = none → Q (.ref a) (upd H a (.lst vs)) := by
  unfold mkLst at p
  split at p
  · rename_i hl; exact ⟨by rw [repL_length h]; exact hl, p.lst hr h⟩
  · exact p.elim
theorem Post.lstM {Q : VK} {E : XK} {ds : List D} {vs : List V} (hr : HR N.K W H st) (h : repL N.K W vs ds) (p : Post N W H Q E (.ok (Rf st.length) (st ++ [.lst ds]))) : ∀ a, H a = none → Q (.ref a) (upd H a (.lst vs)) := fun a ha => by
  have ho : repO N.K ⟨W.F, W.rho ++ [a]⟩ (upd H a (.lst vs)) a (.lst ds) := ⟨vs, upd_same, repL_mono (W := W) (W' := ⟨W.F, W.rho ++ [a]⟩) (fun _ _ z => z) (fun r b z => by
    have hlt : r < W.rho.length := (List.getElem?_eq_some_iff.mp z).1
    show (W.rho ++ [a])[r]? = some b
    rw [List.getElem?_append_left hlt]; exact z) ds h⟩
  obtain ⟨h1, h2⟩ := hr.newM ha ho
  refine p _ _ _ h2 h1 ⟨st.length, a, rfl, rfl, ?_⟩
  show (W.rho ++ [a])[st.length]? = some a
  rw [← hr.len]; simp
theorem post_lstM {Q : VK} {E : XK} {ds : List D} {vs : List V} (hr : HR N.K W H st) (h : repL N.K W vs ds) (p : Post N W H Q E (mkLstM ds st)) : vs.length ≤ sizeLine ∧ ∀ a, H a = none → Q (.ref a) (upd H a (.lst vs)) := by
  unfold mkLstM at p
  split at p
  · rename_i hl; exact ⟨by rw [repL_length h]; exact hl, p.lstM hr h⟩
  · exact p.elim
theorem ge_tup {c} (h : GA X Wx es ms) : GE X Wx (.Tuple es c pos) (mTup ms) := by
  refine (pe_tup h).imp fun sh H Q ⟨W, sl, st, hr, hs, p⟩ => ?_
  exact rdL_bind hr hs p fun ds st1 W1 vs H1 e1 x1 h1 s1 r1 p1 => post_tup h1 r1 p1
theorem ge_lst (h : GA X Wx es ms) : GE X Wx (.List es pos) (mLst ms) := by
  refine (pe_lst h).imp fun sh H Q ⟨W, sl, st, hr, hs, p⟩ => ?_
  exact rdL_bind hr hs p fun ds st1 W1 vs H1 e1 x1 h1 s1 r1 p1 => post_lst h1 r1 p1
theorem ge_lstM (h : GA X Wx es ms) : GE X Wx (.List es pos) (mLstM ms) := by
  refine (pe_lst h).imp fun sh H Q ⟨W, sl, st, hr, hs, p⟩ => ?_
  exact rdL_bind hr hs p fun ds st1 W1 vs H1 e1 x1 h1 s1 r1 p1 => post_lstM h1 r1 p1
end

/-! ### dicts: keys, looks -/
def keyOf : D → Option Key
  | .int i => some (.inl i)
  | .str x => some (.inr x)
  | _ => none
def keysOf : List D → Option (List Key)
  | [] => some []
  | d :: ds => match keyOf d, keysOf ds with | some k, some ks => some (k :: ks) | _, _ => none
def lookD {κ : Type} [DecidableEq κ] (kvs : List (κ × D)) (k : κ) : Option D := (kvs.find? fun kv => decide (kv.1 = k)).map (·.2)
def putD {κ : Type} [DecidableEq κ] (kvs : List (κ × D)) (k : κ) (d : D) : List (κ × D) :=
  if (kvs.any fun kv => decide (kv.1 = k)) = true then kvs.map (fun kv => if kv.1 = k then (kv.1, d) else kv) else kvs ++ [(k, d)]
/-- what the dict holds at a key: none where it is no dict or no key -/
def dlook (st : Sto) (x y : D) : Option (Option D) :=
  match x with
  | .dict [(.int r, .none)] => (match st[r.toNat]? with
    | some (.dct kvs) => (keyOf y).map (lookD kvs)
    | some (.dctT kvs) => (match y with | .tuple ds => (keysOf ds).map (lookD kvs) | _ => none)
    | _ => none)
  | _ => none
section
variable {K : PySem.W.Frag} {W : Wd} {H : Hp} {st : Sto} {v u : V} {d y : D}
theorem keyOf_rep {k : Key} (h : rep K W v d) (e : keyOf d = some k) : v = kV k := by
  cases d with
  | int i => cases h; cases e; rfl
  | str x => cases h; cases e; rfl
  | _ => cases e
theorem keysOf_rep : ∀ {ds : List D} {vs : List V} {ks : List Key}, repL K W vs ds → keysOf ds = some ks → vs = ks.map kV
  | [], _, _, h, e => by cases h; cases e; rfl
  | d :: ds, _, ks, ⟨v, us, e1, r, l⟩, e => by
    simp only [keysOf] at e
    split at e
    · rename_i k ks' e2 e3
      cases e
      subst e1
      rw [keyOf_rep r e2, keysOf_rep l e3]; rfl
    · cases e
theorem look_rep {κ : Type} [DecidableEq κ] {ks : List (κ × V)} {kvs : List (κ × D)} (h : repP K W ks kvs) (k : κ) :
    (∀ d, lookD kvs k = some d → ∃ v, valV ks k = some v ∧ rep K W v d) ∧ (lookD kvs k = none → valV ks k = none) := by
  induction h with
  | nil => exact ⟨fun d e => (by cases e), fun _ => rfl⟩
  | @cons p q ps qs hq t ih =>
    by_cases hk : q.1 = k
    · have e1 : lookD (q :: qs) k = some q.2 := by simp [lookD, List.find?_cons, hk]
      have e2 : valV (p :: ps) k = some p.2 := valV_pos (by rw [hq.1]; exact hk)
      exact ⟨fun d e => by rw [e1] at e; cases e; exact ⟨_, e2, hq.2⟩, fun e => by rw [e1] at e; cases e⟩
    · have e1 : lookD (q :: qs) k = lookD qs k := by simp [lookD, List.find?_cons, hk]
      have e2 : valV (p :: ps) k = valV ps k := valV_neg (by rw [hq.1]; exact hk)
      rw [e1, e2]; exact ih
theorem any_rep {κ : Type} [DecidableEq κ] {ks : List (κ × V)} {kvs : List (κ × D)} (h : repP K W ks kvs) (k : κ) : (kvs.any fun kv => decide (kv.1 = k)) = ks.any fun kv => decide (kv.1 = k) := by
  induction h with
  | nil => rfl
  | @cons p q ps qs hq t ih => rw [List.any_cons, List.any_cons, ih, hq.1]
theorem put_rep {κ : Type} [DecidableEq κ] {ks : List (κ × V)} {kvs : List (κ × D)} (h : repP K W ks kvs) (k : κ) (r : rep K W v d) : repP K W (putK ks k v) (putD kvs k d) := by
  have ha := any_rep h k
  unfold putK putD
  rw [ha]
  split
  · rename_i hany
    clear ha hany
    induction h with
    | nil => exact .nil
    | @cons p q ps qs hq t ih =>
      simp only [List.map_cons]
      refine .cons ?_ ih
      by_cases hk : q.1 = k
      · rw [if_pos (by rw [hq.1]; exact hk), if_pos hk]; exact ⟨hq.1, r⟩
      · rw [if_neg (by rw [hq.1]; exact hk), if_neg hk]; exact hq
  · have snoc : ∀ {ks : List (κ × V)} {kvs : List (κ × D)}, repP K W ks kvs → repP K W (ks ++ [(k, v)]) (kvs ++ [(k, d)]) := by
      intro ks kvs h
      induction h with
      | nil => exact .cons ⟨rfl, r⟩ .nil
      | cons hq t ih => exact .cons hq ih
    exact snoc h
theorem repP_length {κ : Type} {ks : List (κ × V)} {kvs : List (κ × D)} (h : repP K W ks kvs) : ks.length = kvs.length := by
  induction h with
  | nil => rfl
  | cons _ _ ih => simp [ih]

/-- where a dict of the store stands, and what it holds -/
theorem dlook_rep (hr : HR K W H st) (h : rep K W v d) (hy : rep K W u y) {o : Option D} (e : dlook st d y = some o) : ∃ a ov, v = .ref a ∧ DGet H a u ov ∧ (∀ r, o = some r → ∃ w, ov = some w ∧ rep K W w r) ∧ (o = none → ov = none) := by
  unfold dlook at e
  split at e
  · rename_i i
    rcases rep_dict h with ⟨r, a, e1, e2, e3⟩ | ⟨ds', a, xs, e1, _, _⟩ | ⟨ds', a, xs, e1, _, _⟩
    rotate_left
    · cases e1
    · cases e1
    have ei : i = (r : Int) := by injection e1 with q1 _; injection q1 with q2 _; injection q2
    subst ei
    rw [Int.toNat_natCast] at e
    obtain ⟨m, hm, _, ho⟩ := hr.at e3
    rw [hm] at e
    subst e2
    cases m with
    | dct kvs =>
      obtain ⟨ks, h1, h2⟩ := ho
      simp only at e
      obtain ⟨k, hk, eo⟩ := Option.map_eq_some_iff.mp e
      have := keyOf_rep hy hk
      subst this
      obtain ⟨l1, l2⟩ := look_rep h2 k
      refine ⟨a, valV ks k, rfl, .inl ⟨ks, k, .inl h1, rfl, rfl⟩, fun r hr' => ?_, fun hn => l2 (by rw [eo, hn])⟩
      obtain ⟨w, q1, q2⟩ := l1 r (by rw [eo, hr'])
      exact ⟨w, q1, q2⟩
    | dctT kvs =>
      obtain ⟨ks, h1, h2⟩ := ho
      simp only at e
      split at e
      · rename_i ds
        obtain ⟨k, hk, eo⟩ := Option.map_eq_some_iff.mp e
        obtain ⟨b, xs, q1, q2, q3⟩ := hy
        subst q1
        have := keysOf_rep q3 hk
        subst this
        obtain ⟨l1, l2⟩ := look_rep h2 k
        refine ⟨a, valV ks k, rfl, .inr ⟨ks, k, b, .inl h1, rfl, hr.sub _ _ q2, rfl⟩, fun r hr' => ?_, fun hn => l2 (by rw [eo, hn])⟩
        obtain ⟨w, q1, q2⟩ := l1 r (by rw [eo, hr'])
        exact ⟨w, q1, q2⟩
      · cases e
    | lst ds => cases e
    | ro ds => cases e
  · cases e
end

/-! ### subscripts -/
def atD (ds : List D) (i : Int) : Option D := atI ds i
def dIx (x y : D) : Option D :=
  match x, y with
  | .list ds, .int i => atI ds i
  | .tuple ds, .int i => atI ds i
  | .dict [(.none, .list ds)], .int i => atI ds i
  | .str z, .int i => if z.length ≤ sizeLine then (atI z.cps.toList i).map fun c => .str ⟨#[c]⟩ else none
  | _, _ => none
/-- a list, a tuple, a text at an int; a dict at a key that is there -/
def fIx : F2 := fun x y st => match dlook st x y with
  | some (some d) => .ok d st
  | some none => .bad
  | none => onD2 dIx x y st
theorem fIx_nx (x y : D) (st : Sto) (ex : XV) (s2 : Sto) : fIx x y st ≠ .exc ex s2 := by
  unfold fIx
  split
  · simp
  · simp
  · exact onD2_nx _ _ _ _ _
def mIx : M → M → M := mOp2 fIx
section
variable {X : Cx} {Wx : WX} {ea eb e : Expr} {ma mb mc : M} {pos : Pos} {K : PySem.W.Frag} {W : Wd} {H : Hp} {st : Sto}
theorem atI_rep {vs : List V} {ds : List D} (h : repL K W vs ds) {i : Int} {d : D} (e : atI ds i = some d) : ∃ v, atI vs i = some v ∧ rep K W v d := by
  unfold atI at e ⊢
  rw [repL_length h]
  cases q : ixN ds.length i with
  | none => rw [q] at e; cases e
  | some j => rw [q] at e; exact repL_get j h e
theorem ge_ix (g : Gd X) (ha : GE X Wx ea ma) (hb : GE X Wx eb mb) (hs : PlainIx eb := by exact fun _ _ => rfl) : GE X Wx (.Subscript ea eb pos) (mIx ma mb) := by
  refine (PE.or (pe_ix ix_seq ha hb hs) (pe_dget (by have := g.un; omega) ha hb hs)).imp fun sh H Q ⟨W, sl, st, hr, hs, p⟩ => ?_
  cases e1 : ma sl st with
  | bad => unfold mIx mOp2 at p; rw [e1] at p; exact p.elim
  | exc x s2 =>
    refine .inl (rd_bind hr hs p fun d1 st1 W1 v1 H1 e2 => ?_)
    rw [e1] at e2; cases e2
  | ok d1 st1 =>
    cases e2 : mb sl st1 with
    | bad => unfold mIx mOp2 at p; rw [e1] at p; simp only [R.bind_ok] at p; rw [e2] at p; exact p.elim
    | exc x s2 =>
      refine .inl (rd_bind hr hs p fun d1' st1' W1 v1 H1 f1 x1 h1 s1 r1 p1 => ?_)
      rw [e1] at f1; cases f1
      refine rd_bind h1 s1 p1 fun d2' st2' W2 v2 H2 f2 => ?_
      rw [e2] at f2; cases f2
    | ok d2 st2 =>
      cases e3 : dlook st2 d1 d2 with
      | none =>
        refine .inl (rd_bind hr hs p fun d1' st1' W1 v1 H1 f1 x1 h1 s1 r1 p1 => ?_)
        rw [e1] at f1; cases f1
        refine rd_bind h1 s1 p1 fun d2' st2' W2 v2 H2 f2 x2 h2 s2 r2 p2 => ?_
        rw [e2] at f2; cases f2
        unfold fIx at p2
        rw [e3] at p2
        obtain ⟨d, e, p⟩ := onD2_post p2
        have r1' := x2.rep r1
        cases hx : deref st2 d1 with
        | list ds =>
          cases hy : deref st2 d2 with
          | int i =>
            rw [hx, hy] at e
            obtain ⟨a1, xs, q1, q2, l1⟩ := rep_dlist h2 r1' hx
            obtain ⟨v, q3, q4⟩ := atI_rep l1 (show atI ds i = some d from e)
            exact .inl ⟨a1, xs, i, v, q1, rep_dint h2 r2 hy, .inl (.inl q2), q3, p.val h2 q4⟩
          | _ => rw [hx, hy] at e; cases e
        | tuple ds =>
          cases hy : deref st2 d2 with
          | int i =>
            rw [hx, hy] at e
            obtain ⟨a1, xs, q1, q2, l1⟩ := rep_dtuple h2 r1' hx
            obtain ⟨v, q3, q4⟩ := atI_rep l1 (show atI ds i = some d from e)
            exact .inr (.inl ⟨a1, xs, i, v, q1, rep_dint h2 r2 hy, q2, q3, p.val h2 q4⟩)
          | _ => rw [hx, hy] at e; cases e
        | str z =>
          cases hy : deref st2 d2 with
          | int i =>
            rw [hx, hy] at e
            simp only [dIx] at e
            split at e
            · rename_i hl
              obtain ⟨c, q1, q2⟩ := Option.map_eq_some_iff.mp e
              subst q2
              exact .inr (.inr ⟨z, i, c, rep_dstr h2 r1' hx, rep_dint h2 r2 hy, hl, q1, p.val h2 rfl⟩)
            · cases e
          | _ => rw [hx, hy] at e; cases e
        | dict kvs =>
          rw [hx] at e
          unfold dIx at e
          split at e
          · rename_i q _; cases q
          · rename_i q _; cases q
          · rename_i ds i q hy
            cases q
            obtain ⟨a1, xs, q1, q2, l1⟩ := rep_dgs h2 r1' hx
            obtain ⟨v, q3, q4⟩ := atI_rep l1 (show atI ds i = some d from e)
            exact .inl ⟨a1, xs, i, v, q1, rep_dint h2 r2 hy, q2, q3, p.val h2 q4⟩
          · rename_i q _; cases q
          · cases e
        | _ => rw [hx] at e; cases e
      | some o =>
        refine .inr (rd_bind hr hs p fun d1' st1' W1 v1 H1 f1 x1 h1 s1 r1 p1 => ?_)
        rw [e1] at f1; cases f1
        refine rd_bind h1 s1 p1 fun d2' st2' W2 v2 H2 f2 x2 h2 s2 r2 p2 => ?_
        rw [e2] at f2; cases f2
        unfold fIx at p2
        rw [e3] at p2
        obtain ⟨a, ov, q1, q2, q3, q4⟩ := dlook_rep h2 (x2.rep r1) r2 e3
        cases o with
        | none => exact p2.elim
        | some d =>
          obtain ⟨w, q5, q6⟩ := q3 d rfl
          subst q5
          exact ⟨a, w, q1, q2, p2.val h2 q6⟩

/-! ### slices -/
abbrev MO? := Sl → Sto → R (Option Int)
def moNone : MO? := fun _ st => .ok none st
def moSome (m : M) : MO? := fun sl st => (m sl st).bind fun d st => match d with | .int i => .ok (some i) st | _ => .bad
def cutD (xs : List D) (lo hi : Option Int) : List D := (xs.drop (HT.sIx xs.length 0 lo)).take (HT.sIx xs.length xs.length hi - HT.sIx xs.length 0 lo)
def fSl (lo hi : Option Int) : F1 := fun x st =>
  match x with
  | .tuple ds => .ok (.tuple (cutD ds lo hi)) st
  | .dict [(.int r, .none)] => (match st[r.toNat]? with | some (.lst ds) => .ok (.list (cutD ds lo hi)) st | some (.ro ds) => .ok (.list (cutD ds lo hi)) st | _ => .bad)
  | .list ds => .ok (.list (cutD ds lo hi)) st
  | .dict [(.none, .list ds)] => .ok (.list (cutD ds lo hi)) st
  | .str z => if z.length ≤ sizeLine then .ok (.str (cutS z lo hi)) st else .bad
  | _ => .bad
def mSl (ma : M) (lo hi : MO?) : M := fun sl st => (ma sl st).bind fun x st => (lo sl st).bind fun l st => (hi sl st).bind fun h st => fSl l h x st
theorem cut_rep {vs : List V} {ds : List D} (h : repL K W vs ds) (lo hi : Option Int) : repL K W (cutV vs lo hi) (cutD ds lo hi) := by
  unfold cutV cutD
  rw [repL_length h]
  exact repL_take _ (repL_drop _ h)
theorem cut_whole {ds : List D} {lo hi : Option Int} (h : HT.sIx ds.length 0 lo = 0 ∧ HT.sIx ds.length ds.length hi = ds.length) : cutD ds lo hi = ds := by
  unfold cutD
  rw [h.1, h.2]; simp
def PostO (N : Nv) (W : Wd) (H : Hp) (Q : Option Int → Hp → Prop) (E : XK) : R (Option Int) → Prop
  | .ok o st => ∀ W' H', Ext W H W' H' → HR N.K W' H' st → Q o H'
  | .exc x st => ∀ W' cls dd H', Ext W H W' H' → HR N.K W' H' st → repX N W' H' cls dd x → E cls dd H'
  | .bad => False
/-- a slice's bound: its reading, and what it is -/
def GO (X : Cx) (Wx : WX) (e : Option Expr) (m : MO?) : Prop := PO X e (fun sh H Q => ∃ W sl st, HR X.K W H st ∧ SR X.K W sh sl ∧ PostO (nv X) W H Q (fun cls dd H' => Wx cls dd sh H') (m sl st))
theorem go_none : GO X Wx none moNone := ⟨fun pins s σ H Q I h => po_none.run pins s σ H Q I (by obtain ⟨W, sl, st, hr, hs, p⟩ := h; exact p W H .refl hr)⟩
theorem go_some (ha : GE X Wx ea ma) : GO X Wx (some ea) (moSome ma) := by
  refine ⟨fun pins s σ H Q I ⟨W, sl, st, hr, hs, p⟩ => (po_some ha).run pins s σ H Q I ?_⟩
  refine ⟨W, sl, st, hr, hs, ?_⟩
  unfold moSome at p
  cases e : ma sl st with
  | bad => rw [e] at p; exact p
  | exc x st => rw [e] at p; exact p
  | ok d st1 =>
    rw [e] at p
    intro W1 v H1 x1 h1 r1
    cases d with
    | int i => cases r1; exact ⟨i, rfl, p W1 H1 x1 h1⟩
    | _ => exact p.elim
theorem ge_slice {lo hi : Option Expr} {ml mh : MO?} {p2 : Pos} (ha : GE X Wx ea ma) (hl : GO X Wx lo ml) (hh : GO X Wx hi mh) : GE X Wx (.Subscript ea (.Slice lo hi none p2) pos) (mSl ma ml mh) := by
  refine (pe_slice ((sl_list.or sl_tupA).or sl_str) ha hl hh).imp fun sh H Q ⟨W, sl, st, hr, hs, p⟩ => ?_
  refine rd_bind hr hs p fun d1 st1 W1 v1 H1 e1 x1 h1 s1 r1 p1 => ?_
  refine ⟨W1, sl, st1, h1, s1, ?_⟩
  cases e2 : ml sl st1 with
  | bad => rw [e2] at p1; exact p1
  | exc x st => rw [e2] at p1; exact p1
  | ok l st2 =>
    rw [e2] at p1
    intro W2 H2 x2 h2
    refine ⟨W2, sl, st2, h2, s1.ext x2, ?_⟩
    have p2' := Post.ext x2 p1
    simp only [R.bind_ok] at p2'
    cases e3 : mh sl st2 with
    | bad => rw [e3] at p2'; exact p2'
    | exc x st => rw [e3] at p2'; exact p2'
    | ok h st3 =>
      rw [e3] at p2'
      intro W3 H3 x3 h3
      have p3 := Post.ext x3 p2'
      simp only [R.bind_ok] at p3
      have r3 := x3.rep (x2.rep r1)
      unfold fSl at p3
      split at p3
      · rename_i ds
        obtain ⟨a, xs, q1, q2, q3⟩ := r3
        subst q1
        refine .inl (.inr ⟨a, xs, rfl, .inl (.inl (h3.sub _ _ q2)), fun hw => ?_, fun _ => p3.tup h3 (cut_rep q3 l h)⟩)
        rw [repL_length q3] at hw
        rw [cut_whole hw] at p3
        exact p3.val h3 ⟨a, xs, rfl, q2, q3⟩
      · rename_i i
        rcases rep_dict r3 with ⟨r, a, f1, f2, f3⟩ | ⟨ds', a, xs, f1, _, _⟩ | ⟨ds', a, xs, f1, _, _⟩
        rotate_left
        · cases f1
        · cases f1
        have ei : i = (r : Int) := by injection f1 with q1 _; injection q1 with q2 _; injection q2
        subst ei
        rw [Int.toNat_natCast] at p3
        obtain ⟨m, hm, _, ho⟩ := h3.at f3
        rw [hm] at p3
        cases m with
        | lst ds =>
          obtain ⟨xs, g1, g2⟩ := ho
          exact .inl (.inl ⟨a, xs, f2, .inl (.inl g1), p3.lst h3 (cut_rep g2 l h)⟩)
        | ro ds =>
          obtain ⟨o, xs, g1, g2⟩ := ho
          exact .inl (.inl ⟨a, xs, f2, .inl (.inr ⟨o, g1⟩), p3.lst h3 (cut_rep g2 l h)⟩)
        | dct _ => exact p3.elim
        | dctT _ => exact p3.elim
      · rename_i ds
        obtain ⟨a, xs, q1, q2, q3⟩ := r3
        exact .inl (.inl ⟨a, xs, q1, .inl (.inl (h3.sub _ _ q2)), p3.lst h3 (cut_rep q3 l h)⟩)
      · rename_i ds
        obtain ⟨a, xs, q1, q2, q3⟩ := r3
        exact .inl (.inl ⟨a, xs, q1, sqL_mono h3.sub q2, p3.lst h3 (cut_rep q3 l h)⟩)
      · rename_i z
        split at p3
        · rename_i hz; cases r3; exact .inr ⟨z, rfl, hz, p3.val h3 rfl⟩
        · exact p3.elim
      · exact p3.elim
end

/-! ### calls of built-ins with one argument -/
section
variable {X : Cx} {Wx : WX} {ea eb e : Expr} {ma mb mc : M} {pos p : Pos} {x : Str}
theorem ge_callB1 {id : String} {r : List V → Hp → VK → Prop} {f : F1} (hc : CallR X (.builtin id) r) (nx : ∀ x st ex s2, f x st ≠ .exc ex s2) (ok : Ok1 (nv X) (fun x H Q => r [x] H Q) f) (hg : Gl X x) (hm : X.mg x = none) (hv : bootBuiltins x = some (.builtin id))
    (ha : GE X Wx ea ma) (hn : x ≠ "__name__") (hdb : (x == ("__debug__" : Str)) = false)
    (he : starEach (ea :: []) X.env = (false, eval ea X.env) :: starEach [] X.env := by rfl) (hpl : (backTo pos (starEach [] X.env)).any (·.1) = false := by rfl) : GE X Wx (.Call (.Name x p) [ea] [] pos) (mOp1 f ma) :=
  ge_op1 nx ok (pe_callB hc hg hm hv (pa_cons ha pa_nil he) hn hdb he hpl)
theorem ge_callT1 {T : String} {r : List V → Hp → VK → Prop} {f : F1} (hc : CallR X (.type T) r) (nx : ∀ x st ex s2, f x st ≠ .exc ex s2) (ok : Ok1 (nv X) (fun x H Q => r [x] H Q) f) (hg : Gl X x) (hm : X.mg x = none) (hv : bootBuiltins x = some (.type T))
    (ha : GE X Wx ea ma) (hn : x ≠ "__name__") (hdb : (x == ("__debug__" : Str)) = false)
    (he : starEach (ea :: []) X.env = (false, eval ea X.env) :: starEach [] X.env := by rfl) (hpl : (backTo pos (starEach [] X.env)).any (·.1) = false := by rfl) : GE X Wx (.Call (.Name x p) [ea] [] pos) (mOp1 f ma) :=
  ge_op1 nx ok (pe_callTy hc hg hm hv (pa_cons ha pa_nil he) hn hdb he hpl)
def dLen : D → Option D
  | .list ds => some (.int ds.length)
  | .tuple ds => some (.int ds.length)
  | .dict [(.none, .list ds)] => some (.int ds.length)
  | .str z => if z.length ≤ sizeLine then some (.int z.length) else none
  | _ => none
def fLen : F1 := onD1 dLen
def mLen : M → M := mOp1 fLen
theorem ge_len (hm : X.mg "len" = none) (ha : GE X Wx ea ma) (hg : Gl X "len" := by rfl)
    (he : starEach (ea :: []) X.env = (false, eval ea X.env) :: starEach [] X.env := by rfl) (hpl : (backTo pos (starEach [] X.env)).any (·.1) = false := by rfl) : GE X Wx (.Call (.Name "len" p) [ea] [] pos) (mLen ma) := by
  refine ge_callB1 call_len onD1_nx ?_ hg hm PySem.boot_len ha (by decide +kernel) (by decide +kernel) he hpl
  intro W H st x dx Q hr rx p
  obtain ⟨d, e, p⟩ := onD1_post p
  cases hx : deref st dx with
  | list ds => rw [hx] at e; cases e; obtain ⟨a, xs, e1, e2, l⟩ := rep_dlist hr rx hx; subst e1; exact ⟨_, ds.length, rfl, .inl ⟨xs, .inl (.inl e2), (repL_length l).symm⟩, p.val hr rfl⟩
  | tuple ds => rw [hx] at e; cases e; obtain ⟨a, xs, e1, e2, l⟩ := rep_dtuple hr rx hx; subst e1; exact ⟨_, ds.length, rfl, .inr ⟨xs, e2, (repL_length l).symm⟩, p.val hr rfl⟩
  | str z =>
    rw [hx] at e
    simp only [dLen] at e
    split at e
    · rename_i hl; cases e; rw [rep_dstr hr rx hx]; exact ⟨_, z.length, rfl, ⟨hl, rfl⟩, p.val hr rfl⟩
    · cases e
  | dict kvs =>
    rw [hx] at e
    unfold dLen at e
    split at e
    · rename_i q; cases q
    · rename_i q; cases q
    · rename_i q; cases q; cases e; obtain ⟨a, xs, e1, e2, l⟩ := rep_dgs hr rx hx; subst e1; exact ⟨_, _, rfl, .inl ⟨xs, e2, (repL_length l).symm⟩, p.val hr rfl⟩
    · rename_i q; cases q
    · cases e
  | _ => rw [hx] at e; cases e
def dInt : D → Option D
  | .int i => some (.int i)
  | .bool k => some (.int (if k then 1 else 0))
  | .str a => if a.length ≤ 640 then (PySem.intText? a).map .int else none
  | _ => none
def mInt : M → M := mOp1 (onD1 dInt)
theorem CallR.or {f : Value} {r r' : List V → Hp → VK → Prop} (h : CallR X f r) (h' : CallR X f r') : CallR X f (fun xs H Q => r xs H Q ∨ r' xs H Q) := by
  intro pins s σ H xs us Q I rx q
  rcases q with q | q
  · exact h pins s σ H xs us Q I rx q
  · exact h' pins s σ H xs us Q I rx q
theorem ge_toint (hm : X.mg "int" = none) (ha : GE X Wx ea ma) (hg : Gl X "int" := by rfl)
    (he : starEach (ea :: []) X.env = (false, eval ea X.env) :: starEach [] X.env := by rfl) (hpl : (backTo pos (starEach [] X.env)).any (·.1) = false := by rfl) : GE X Wx (.Call (.Name "int" p) [ea] [] pos) (mInt ma) := by
  refine ge_callT1 (CallR.or call_int1 call_int_str) onD1_nx ?_ hg hm PyProof.Rows.boot_int ha (by decide +kernel) (by decide +kernel) he hpl
  intro W H st x dx Q hr rx p
  obtain ⟨d, e, p⟩ := onD1_post p
  cases hx : deref st dx with
  | int i => rw [hx] at e; cases e; rw [rep_dint hr rx hx]; exact .inl (.inl ⟨i, rfl, p.val hr rfl⟩)
  | bool i => rw [hx] at e; cases e; rw [rep_dbool hr rx hx]; exact .inl (.inr ⟨i, rfl, p.val hr rfl⟩)
  | str z =>
    rw [hx] at e
    simp only [dInt] at e
    split at e
    · rename_i hl
      obtain ⟨n, e1, e2⟩ := Option.map_eq_some_iff.mp e
      subst e2
      rw [rep_dstr hr rx hx]; exact .inr ⟨z, n, rfl, e1, hl, p.val hr rfl⟩
    · cases e
  | _ => rw [hx] at e; cases e
def dTuple : D → Option D
  | .list ds => some (.tuple ds)
  | _ => none
def fTuple : F1 := fun x st => match x with | .tuple ds => .ok (.tuple ds) st | _ => onD1 dTuple x st
theorem fTuple_nx (x : D) (st : Sto) (ex : XV) (s2 : Sto) : fTuple x st ≠ .exc ex s2 := by
  unfold fTuple; split
  · simp
  · exact onD1_nx _ _ _ _
def mTuple : M → M := mOp1 fTuple
theorem ge_totuple (hm : X.mg "tuple" = none) (ha : GE X Wx ea ma) (hg : Gl X "tuple" := by rfl)
    (he : starEach (ea :: []) X.env = (false, eval ea X.env) :: starEach [] X.env := by rfl) (hpl : (backTo pos (starEach [] X.env)).any (·.1) = false := by rfl) : GE X Wx (.Call (.Name "tuple" p) [ea] [] pos) (mTuple ma) := by
  refine ge_callT1 call_tuple_of fTuple_nx ?_ hg hm (by decide +kernel) ha (by decide +kernel) (by decide +kernel) he hpl
  intro W H st x dx Q hr rx p
  unfold fTuple at p
  split at p
  · rename_i ds
    obtain ⟨a, xs, q1, q2, q3⟩ := rx
    subst q1
    exact ⟨a, xs, rfl, .inr ⟨.inl (.inl (hr.sub _ _ q2)), p.val hr ⟨a, xs, rfl, q2, q3⟩⟩⟩
  · obtain ⟨d, e, p⟩ := onD1_post p
    cases hx : deref st dx with
    | list ds => rw [hx] at e; cases e; obtain ⟨a, xs, e1, e2, l⟩ := rep_dlist hr rx hx; subst e1; exact ⟨a, xs, rfl, .inl ⟨.inl (.inl e2), p.tup hr l⟩⟩
    | _ => rw [hx] at e; cases e
def dList : D → Option D
  | .list ds => some (.list ds)
  | .tuple ds => some (.list ds)
  | _ => none
def mList : M → M := mOp1 (onD1 dList)
theorem ge_tolist (hm : X.mg "list" = none) (ha : GE X Wx ea ma) (hg : Gl X "list" := by rfl)
    (he : starEach (ea :: []) X.env = (false, eval ea X.env) :: starEach [] X.env := by rfl) (hpl : (backTo pos (starEach [] X.env)).any (·.1) = false := by rfl) : GE X Wx (.Call (.Name "list" p) [ea] [] pos) (mList ma) := by
  refine ge_callT1 call_list_of onD1_nx ?_ hg hm (by decide +kernel) ha (by decide +kernel) (by decide +kernel) he hpl
  intro W H st x dx Q hr rx p
  obtain ⟨d, e, p⟩ := onD1_post p
  cases hx : deref st dx with
  | list ds => rw [hx] at e; cases e; obtain ⟨a, xs, e1, e2, l⟩ := rep_dlist hr rx hx; subst e1; exact ⟨a, xs, rfl, .inl (.inl (.inl e2)), p.lst hr l⟩
  | tuple ds => rw [hx] at e; cases e; obtain ⟨a, xs, e1, e2, l⟩ := rep_dtuple hr rx hx; subst e1; exact ⟨a, xs, rfl, .inr e2, p.lst hr l⟩
  | _ => rw [hx] at e; cases e
/-- the truth values of a list -/
def boolsOf : List D → Option (List Bool)
  | [] => some []
  | .bool b :: ds => (boolsOf ds).map (b :: ·)
  | _ => none
def dAll : D → Option D
  | .list ds => (boolsOf ds).map fun bs => .bool (bs.all id)
  | _ => none
def dAny : D → Option D
  | .list ds => (boolsOf ds).map fun bs => .bool (bs.any id)
  | _ => none
theorem boolsOf_rep {K : PySem.W.Frag} {W : Wd} : ∀ {ds : List D} {vs : List V} {bs : List Bool}, repL K W vs ds → boolsOf ds = some bs → vs = bs.map V.bl
  | [], _, _, h, e => by cases h; cases e; rfl
  | .bool b :: ds, _, bs, ⟨v, us, e1, r, l⟩, e => by
    simp only [boolsOf] at e
    obtain ⟨cs, e2, e3⟩ := Option.map_eq_some_iff.mp e
    subst e3; subst e1
    cases r
    rw [boolsOf_rep l e2]; rfl
  | .none :: _, _, _, _, e => by cases e
  | .int _ :: _, _, _, _, e => by cases e
  | .str _ :: _, _, _, _, e => by cases e
  | .list _ :: _, _, _, _, e => by cases e
  | .tuple _ :: _, _, _, _, e => by cases e
  | .dict _ :: _, _, _, _, e => by cases e
def mAll : M → M := mOp1 (onD1 dAll)
def mAny : M → M := mOp1 (onD1 dAny)
theorem ge_all (g : Gd X) (hm : X.mg "all" = none) (ha : GE X Wx ea ma) (hg : Gl X "all" := by rfl)
    (he : starEach (ea :: []) X.env = (false, eval ea X.env) :: starEach [] X.env := by rfl) (hpl : (backTo pos (starEach [] X.env)).any (·.1) = false := by rfl) : GE X Wx (.Call (.Name "all" p) [ea] [] pos) (mAll ma) := by
  refine ge_callB1 (cr_all g.calm) onD1_nx ?_ hg hm (by decide +kernel) ha (by decide +kernel) (by decide +kernel) he hpl
  intro W H st x dx Q hr rx p
  obtain ⟨d, e, p⟩ := onD1_post p
  cases hx : deref st dx with
  | list ds =>
    rw [hx] at e
    obtain ⟨bs, q1, q2⟩ := Option.map_eq_some_iff.mp (show (boolsOf ds).map (fun bs => PyData.bool (bs.all id)) = some d from e)
    subst q2
    obtain ⟨a, xs, e1, e2, l⟩ := rep_dlist hr rx hx
    subst e1
    exact ⟨a, bs, rfl, .inl (.inl (by rw [← boolsOf_rep l q1]; exact e2)), p.val hr rfl⟩
  | _ => rw [hx] at e; cases e
theorem ge_any (g : Gd X) (hm : X.mg "any" = none) (ha : GE X Wx ea ma) (hg : Gl X "any" := by rfl)
    (he : starEach (ea :: []) X.env = (false, eval ea X.env) :: starEach [] X.env := by rfl) (hpl : (backTo pos (starEach [] X.env)).any (·.1) = false := by rfl) : GE X Wx (.Call (.Name "any" p) [ea] [] pos) (mAny ma) := by
  refine ge_callB1 (cr_any g.calm) onD1_nx ?_ hg hm (by decide +kernel) ha (by decide +kernel) (by decide +kernel) he hpl
  intro W H st x dx Q hr rx p
  obtain ⟨d, e, p⟩ := onD1_post p
  cases hx : deref st dx with
  | list ds =>
    rw [hx] at e
    obtain ⟨bs, q1, q2⟩ := Option.map_eq_some_iff.mp (show (boolsOf ds).map (fun bs => PyData.bool (bs.any id)) = some d from e)
    subst q2
    obtain ⟨a, xs, e1, e2, l⟩ := rep_dlist hr rx hx
    subst e1
    exact ⟨a, bs, rfl, .inl (.inl (by rw [← boolsOf_rep l q1]; exact e2)), p.val hr rfl⟩
  | _ => rw [hx] at e; cases e
end
end Pv
set_option Elab.async false
set_option linter.all false
set_option maxRecDepth 100000
set_option maxHeartbeats 4000000
namespace Pv
open PySem PySem.Spec L2
open PyProof.Rows hiding St

/-! ### statements -/
inductive RS where
  | nx (sl : Sl) (st : Sto) | rt (d : D) (st : Sto) | bk (sl : Sl) (st : Sto) | ct (sl : Sl) (st : Sto) | exc (x : XV) (st : Sto) | bad
abbrev MS := Sl → Sto → RS
def PostS (N : Nv) (n : Nat) (Wx : WX) (W : Wd) (H : Hp) (D : Ends) : RS → Prop
  | .nx sl st => ∀ W' sh' H', sh'.length = n → Ext W H W' H' → HR N.K W' H' st → SR N.K W' sh' sl → D.nx sh' H'
  | .bk sl st => ∀ W' sh' H', sh'.length = n → Ext W H W' H' → HR N.K W' H' st → SR N.K W' sh' sl → D.bk sh' H'
  | .ct sl st => ∀ W' sh' H', sh'.length = n → Ext W H W' H' → HR N.K W' H' st → SR N.K W' sh' sl → D.ct sh' H'
  | .rt d st => ∀ W' v H', Ext W H W' H' → HR N.K W' H' st → rep N.K W' v d → D.rt v H'
  | .exc x st => ∀ W' (sh' : L2.St) cls dd H', sh'.length = n → Ext W H W' H' → HR N.K W' H' st → repX N W' H' cls dd x → Wx cls dd sh' H'
  | .bad => False
def rdS (N : Nv) (Wx : WX) (m : MS) : TS := fun D sh H => ∃ W sl st, HR N.K W H st ∧ SR N.K W sh sl ∧ PostS N sh.length Wx W H D (m sl st)
def GS (X : Cx) (Wx : WX) (s : Stmt) (m : MS) : Prop := PS X s (rdS (nv X) Wx m)
def GSs (X : Cx) (Wx : WX) (s : List Stmt) (m : MS) : Prop := PSs X s (rdS (nv X) Wx m)
def RS.bind (r : RS) (f : Sl → Sto → RS) : RS := match r with | .nx sl st => f sl st | r => r
@[simp] theorem RS.bind_nx (sl : Sl) (st : Sto) (f : Sl → Sto → RS) : (RS.nx sl st).bind f = f sl st := rfl
@[simp] theorem RS.bind_rt (d : D) (st : Sto) (f : Sl → Sto → RS) : (RS.rt d st).bind f = .rt d st := rfl
@[simp] theorem RS.bind_bk (sl : Sl) (st : Sto) (f : Sl → Sto → RS) : (RS.bk sl st).bind f = .bk sl st := rfl
@[simp] theorem RS.bind_ct (sl : Sl) (st : Sto) (f : Sl → Sto → RS) : (RS.ct sl st).bind f = .ct sl st := rfl
@[simp] theorem RS.bind_exc (x : XV) (st : Sto) (f : Sl → Sto → RS) : (RS.exc x st).bind f = .exc x st := rfl
@[simp] theorem RS.bind_bad (f : Sl → Sto → RS) : RS.bad.bind f = .bad := rfl
/-- a value is reckoned, then the statement goes on -/
def R.thenS {α : Type} (r : R α) (f : α → Sto → RS) : RS := match r with | .ok a st => f a st | .exc x st => .exc x st | .bad => .bad
@[simp] theorem R.thenS_ok {α : Type} (a : α) (st : Sto) (f : α → Sto → RS) : (R.ok a st).thenS f = f a st := rfl
@[simp] theorem R.thenS_exc {α : Type} (x : XV) (st : Sto) (f : α → Sto → RS) : (R.exc x st : R α).thenS f = .exc x st := rfl
@[simp] theorem R.thenS_bad {α : Type} (f : α → Sto → RS) : (R.bad : R α).thenS f = .bad := rfl
section
variable {X : Cx} {Wx : WX} {N : Nv} {W W' : Wd} {H H' : Hp} {st : Sto} {sl : Sl} {sh : L2.St} {n : Nat} {D D' : Ends}
theorem PostS.ext {r : RS} (e : Ext W H W' H') (h : PostS N n Wx W H D r) : PostS N n Wx W' H' D r := by
  cases r with
  | nx sl st => exact fun W2 s2 H2 l e2 a b => h W2 s2 H2 l (e.trans e2) a b
  | bk sl st => exact fun W2 s2 H2 l e2 a b => h W2 s2 H2 l (e.trans e2) a b
  | ct sl st => exact fun W2 s2 H2 l e2 a b => h W2 s2 H2 l (e.trans e2) a b
  | rt d st => exact fun W2 s2 H2 e2 a b => h W2 s2 H2 (e.trans e2) a b
  | exc x st => exact fun W2 s2 c dd H2 l e2 a b => h W2 s2 c dd H2 l (e.trans e2) a b
  | bad => exact h
theorem rd_bindS {m : M} {f : Pv.D → Sto → RS} {Q2 : VK} (hr : HR N.K W H st) (hs : SR N.K W sh sl)
    (h : PostS N sh.length Wx W H D ((m sl st).thenS f))
    (k : ∀ d st1 W1 v H1, m sl st = .ok d st1 → Ext W H W1 H1 → HR N.K W1 H1 st1 → SR N.K W1 sh sl → rep N.K W1 v d → PostS N sh.length Wx W1 H1 D (f d st1) → Q2 v H1) : rd N Wx m sh H Q2 := by
  refine ⟨W, sl, st, hr, hs, ?_⟩
  cases e : m sl st with
  | ok d st1 => rw [e] at h; exact fun W1 v H1 e1 h1 r1 => k d st1 W1 v H1 e e1 h1 (hs.ext e1) r1 (PostS.ext e1 h)
  | exc x st1 => rw [e] at h; exact fun W1 c dd H1 e1 a b => h W1 sh c dd H1 rfl e1 a b
  | bad => rw [e] at h; exact h
theorem rdT_bindS {m : MT} {f : Bool → Sto → RS} {Q2 : Bool → Hp → Prop} (hr : HR N.K W H st) (hs : SR N.K W sh sl)
    (h : PostS N sh.length Wx W H D ((m sl st).thenS f))
    (k : ∀ b st1 W1 H1, m sl st = .ok b st1 → Ext W H W1 H1 → HR N.K W1 H1 st1 → SR N.K W1 sh sl → PostS N sh.length Wx W1 H1 D (f b st1) → Q2 b H1) : rdT N Wx m sh H Q2 := by
  refine ⟨W, sl, st, hr, hs, ?_⟩
  cases e : m sl st with
  | ok d st1 => rw [e] at h; exact fun W1 H1 e1 h1 => k d st1 W1 H1 e e1 h1 (hs.ext e1) (PostS.ext e1 h)
  | exc x st1 => rw [e] at h; exact fun W1 c dd H1 e1 a b => h W1 sh c dd H1 rfl e1 a b
  | bad => rw [e] at h; exact h
/-- one after another -/
def sSeq (a b : MS) : MS := fun sl st => (a sl st).bind b
def sNil : MS := fun sl st => .nx sl st
theorem gss_nil : GSs X Wx [] sNil := pss_nil.imp fun D sh H ⟨W, sl, st, hr, hs, p⟩ => p W sh H rfl .refl hr hs
theorem gss_one {s : Stmt} {a : MS} (h : GS X Wx s a) : GSs X Wx [s] a := pss_one h
theorem gss_cons {s : Stmt} {r : List Stmt} {a b : MS} (h : GS X Wx s a) (hr : GSs X Wx r b) : GSs X Wx (s :: r) (sSeq a b) := by
  refine (pss_cons h hr).imp fun D sh H ⟨W, sl, st, hr, hs, p⟩ => ?_
  refine ⟨W, sl, st, hr, hs, ?_⟩
  unfold sSeq at p
  cases e : a sl st with
  | nx sl1 st1 =>
    rw [e] at p
    intro W1 sh1 H1 l1 e1 h1 s1
    have q := PostS.ext e1 p
    rw [← l1] at q
    exact ⟨W1, sl1, st1, h1, s1, q⟩
  | rt d st1 => rw [e] at p; exact p
  | bk a b => rw [e] at p; exact p
  | ct a b => rw [e] at p; exact p
  | exc a b => rw [e] at p; exact p
  | bad => rw [e] at p; exact p

/-! ### targets -/
abbrev MG := Pv.D → Sl → Sto → R Sl
abbrev MGs := List Pv.D → Sl → Sto → R Sl
def PostG (N : Nv) (n : Nat) (Wx : WX) (W : Wd) (H : Hp) (Q : L2.St → Hp → Prop) : R Sl → Prop
  | .ok sl st => ∀ W' sh' H', sh'.length = n → Ext W H W' H' → HR N.K W' H' st → SR N.K W' sh' sl → Q sh' H'
  | .exc x st => ∀ W' (sh' : L2.St) cls dd H', sh'.length = n → Ext W H W' H' → HR N.K W' H' st → repX N W' H' cls dd x → Wx cls dd sh' H'
  | .bad => False
theorem PostG.ext {Q : L2.St → Hp → Prop} {r : R Sl} (e : Ext W H W' H') (h : PostG N n Wx W H Q r) : PostG N n Wx W' H' Q r := by
  cases r with
  | ok sl st => exact fun W2 s2 H2 l e2 a b => h W2 s2 H2 l (e.trans e2) a b
  | exc x st => exact fun W2 s2 c dd H2 l e2 a b => h W2 s2 c dd H2 l (e.trans e2) a b
  | bad => exact h
def rdG (N : Nv) (Wx : WX) (t : MG) : TG := fun v sh H Q => ∃ W sl st d, HR N.K W H st ∧ SR N.K W sh sl ∧ rep N.K W v d ∧ PostG N sh.length Wx W H Q (t d sl st)
def GG (X : Cx) (Wx : WX) (tg : Expr) (t : MG) : Prop := PG X tg (rdG (nv X) Wx t)
theorem _root_.L2.PG.imp {X : Cx} {e : Expr} {t t' : TG} (h : PG X e t) (i : ∀ v σ H Q, t' v σ H Q → t v σ H Q) : PG X e t' := ⟨fun pins s σ H v u Q I r q => h.run pins s σ H v u Q I r (i v σ H Q q)⟩
def rdGs (N : Nv) (Wx : WX) (t : MGs) : TGs := fun vs sh H Q => ∃ W sl st ds, HR N.K W H st ∧ SR N.K W sh sl ∧ repL N.K W vs ds ∧ PostG N sh.length Wx W H Q (t ds sl st)
def GGs (X : Cx) (Wx : WX) (tgs : List Expr) (t : MGs) : Prop := PGs X tgs (rdGs (nv X) Wx t)
theorem _root_.L2.PGs.imp {X : Cx} {e : List Expr} {t t' : TGs} (h : PGs X e t) (i : ∀ v σ H Q, t' v σ H Q → t v σ H Q) : PGs X e t' := ⟨fun pins s σ H v u Q I r q => h.run pins s σ H v u Q I r (i v σ H Q q)⟩
def tgName (i : Nat) : MG := fun d sl st => .ok (sl.set i (some d)) st
def tgNil : MGs := fun ds sl st => match ds with | [] => .ok sl st | _ => .bad
def tgCons (a : MG) (r : MGs) : MGs := fun ds sl st => match ds with | d :: ds => (a d sl st).bind (r ds) | _ => .bad
/-- a tuple's (or a list's) items, one for each target -/
def tgTup (n : Nat) (t : MGs) : MG := fun d sl st => match d with | .tuple ds => if ds.length = n then t ds sl st else .bad | _ => .bad
theorem gg_name {x : Str} {pos : Pos} (g : Gd X) (i : Nat) (hi : X.N[i]? = some x := by rfl) (hx : Loc X.env.scope x := by first | exact Or.inl rfl | exact Or.inr rfl) (hf : X.fn x = true ∨ X.env.scope.names.lookup x = some .local := by first | exact .inl rfl | exact .inr rfl) : GG X Wx (.Name x pos) (tgName i) := by
  refine (pg_name g.nd hi hx hf).imp fun v sh H Q ⟨W, sl, st, d, hr, hs, r, p⟩ => ?_
  exact p W _ H (by simp) .refl hr (hs.set i r)
theorem ggs_nil : GGs X Wx [] tgNil := by
  refine pgs_nil.imp fun vs sh H Q ⟨W, sl, st, ds, hr, hs, r, p⟩ => ?_
  cases ds with
  | nil => cases r; exact ⟨rfl, p W _ H rfl .refl hr hs⟩
  | cons _ _ => exact p.elim
theorem ggs_cons {e : Expr} {es : List Expr} {a : MG} {r : MGs} (ha : GG X Wx e a) (hr : GGs X Wx es r) (h : (assignEach (e :: es) X.env).map (·.2) = assign e X.env :: (assignEach es X.env).map (·.2) := by rfl) : GGs X Wx (e :: es) (tgCons a r) := by
  refine (pgs_cons ha hr h).imp fun vs sh H Q ⟨W, sl, st, ds, hr, hs, rl, p⟩ => ?_
  cases ds with
  | nil => exact p.elim
  | cons d ds =>
    obtain ⟨v, us, e, r1, l1⟩ := rl
    refine ⟨v, us, e, W, sl, st, d, hr, hs, r1, ?_⟩
    unfold tgCons at p
    simp only at p
    cases q : a d sl st with
    | ok sl1 st1 =>
      rw [q] at p
      intro W1 sh1 H1 ln e1 h1 s1
      have p1 := PostG.ext e1 p
      rw [← ln] at p1
      exact ⟨W1, sl1, st1, ds, h1, s1, e1.repL l1, p1⟩
    | exc a b => rw [q] at p; exact p
    | bad => rw [q] at p; exact p
theorem gg_tup {es : List Expr} {k n : Nat} {t : MGs} {pos : Pos} (g : Gd X) (h : GGs X Wx es t) (hn : (assignEach es X.env).length = n := by rfl) (hst : (assignEach es X.env).findIdx? (·.1) = none := by rfl) : GG X Wx (.Tuple es k pos) (tgTup n t) := by
  refine (pg_tup g.calm h hn hst).imp fun v sh H Q ⟨W, sl, st, d, hr, hs, r, p⟩ => ?_
  unfold tgTup at p
  split at p
  · rename_i ds
    split at p
    · rename_i hl
      obtain ⟨a, xs, e, f, l⟩ := r
      exact ⟨a, xs, e, .inl (.inl (hr.sub _ _ f)), by rw [repL_length l]; exact hl, W, sl, st, ds, hr, hs, l, p⟩
    · exact p.elim
  · exact p.elim
/-- o[i] = v, the store behind it -/
def setO (st : Sto) (o i v : Pv.D) : Option Sto :=
  match o with
  | .dict [(.int r, .none)] => (match st[r.toNat]? with
    | some (.dct kvs) => if kvs.length < sizeLine then (keyOf i).map fun k => st.set r.toNat (.dct (putD kvs k v)) else none
    | some (.dctT kvs) => (match i with | .tuple ds => if kvs.length < sizeLine then (keysOf ds).map fun k => st.set r.toNat (.dctT (putD kvs k v)) else none | _ => none)
    | some (.lst ds) => (match i with | .int k => (ixN ds.length k).map fun j => st.set r.toNat (.lst (ds.set j v)) | _ => none)
    | _ => none)
  | _ => none
theorem setO_rep {o i v : V} {od id vd : Pv.D} {st' : Sto} (hr : HR N.K W H st) (ro : rep N.K W o od) (ri : rep N.K W i id) (rv : rep N.K W v vd) (e : setO st od id vd = some st') :
    ∃ H', Ext W H W H' ∧ HR N.K W H' st' ∧ ∀ Q : Hp → Prop, Q H' → rSetL o i v H Q ∨ rSetD o i v H Q := by
  unfold setO at e
  split at e
  · rename_i j
    rcases rep_dict ro with ⟨r, a, e1, e2, e3⟩ | ⟨ds', a, xs, e1, _, _⟩ | ⟨ds', a, xs, e1, _, _⟩
    rotate_left
    · cases e1
    · cases e1
    have ei : j = (r : Int) := by injection e1 with q1 _; injection q1 with q2 _; injection q2
    subst ei
    rw [Int.toNat_natCast] at e
    obtain ⟨m, hm, _, ho⟩ := hr.at e3
    rw [hm] at e
    subst e2
    cases m with
    | dct kvs =>
      obtain ⟨ks, h1, h2⟩ := ho
      simp only at e
      split at e
      · rename_i hl
        obtain ⟨k, hk, eo⟩ := Option.map_eq_some_iff.mp e
        subst eo
        have := keyOf_rep ri hk
        subst this
        obtain ⟨h3, x3⟩ := hr.set (o := .dK (putK ks k v)) (m := .dct (putD kvs k vd)) e3 ⟨_, upd_same, put_rep h2 k rv⟩
        exact ⟨_, x3, h3, fun Q q => .inr ⟨a, _, rfl, .inl ⟨ks, k, h1, rfl, by rw [repP_length h2]; exact hl, rfl⟩, q⟩⟩
      · cases e
    | dctT kvs =>
      obtain ⟨ks, h1, h2⟩ := ho
      simp only at e
      split at e
      · rename_i ds
        split at e
        · rename_i hl
          obtain ⟨k, hk, eo⟩ := Option.map_eq_some_iff.mp e
          subst eo
          obtain ⟨b, xs, q1, q2, q3⟩ := ri
          subst q1
          have := keysOf_rep q3 hk
          subst this
          obtain ⟨h3, x3⟩ := hr.set (o := .dT (putK ks k v)) (m := .dctT (putD kvs k vd)) e3 ⟨_, upd_same, put_rep h2 k rv⟩
          exact ⟨_, x3, h3, fun Q q => .inr ⟨a, _, rfl, .inr ⟨ks, k, b, h1, rfl, hr.sub _ _ q2, by rw [repP_length h2]; exact hl, rfl⟩, q⟩⟩
        · cases e
      · cases e
    | lst ds =>
      obtain ⟨xs, h1, h2⟩ := ho
      simp only at e
      split at e
      · rename_i k
        obtain ⟨j, hj, eo⟩ := Option.map_eq_some_iff.mp e
        subst eo
        cases ri
        obtain ⟨h3, x3⟩ := hr.set (o := .lst (xs.set j v)) (m := .lst (ds.set j vd)) e3 ⟨_, upd_same, repL_set j h2 rv⟩
        exact ⟨_, x3, h3, fun Q q => .inl ⟨a, xs, k, j, rfl, rfl, h1, by rw [repL_length h2]; exact hj, q⟩⟩
      · cases e
    | ro ds => cases e
  · cases e
theorem PSet.or {t t' : TSet} (h : PSet X t) (h' : PSet X t') : PSet X (fun o i v H Q => t o i v H Q ∨ t' o i v H Q) := by
  intro pins s σ H o i v ov iv u Q I ro ri rv q
  rcases q with q | q
  · exact h pins s σ H o i v ov iv u Q I ro ri rv q
  · exact h' pins s σ H o i v ov iv u Q I ro ri rv q
def tgSub (mo mi : M) : MG := fun d sl st => (mo sl st).bind fun o st => (mi sl st).bind fun i st => match setO st o i d with | some st' => .ok sl st' | none => .bad
theorem rd_bindG {m : M} {f : Pv.D → Sto → R Sl} {Q : L2.St → Hp → Prop} {Q2 : VK} (hr : HR N.K W H st) (hs : SR N.K W sh sl)
    (h : PostG N sh.length Wx W H Q ((m sl st).bind f))
    (k : ∀ d st1 W1 v H1, m sl st = .ok d st1 → Ext W H W1 H1 → HR N.K W1 H1 st1 → SR N.K W1 sh sl → rep N.K W1 v d → PostG N sh.length Wx W1 H1 Q (f d st1) → Q2 v H1) : rd N Wx m sh H Q2 := by
  refine ⟨W, sl, st, hr, hs, ?_⟩
  cases e : m sl st with
  | ok d st1 => rw [e] at h; exact fun W1 v H1 e1 h1 r1 => k d st1 W1 v H1 e e1 h1 (hs.ext e1) r1 (PostG.ext e1 h)
  | exc x st1 => rw [e] at h; exact fun W1 c dd H1 e1 a b => h W1 sh c dd H1 rfl e1 a b
  | bad => rw [e] at h; exact h
theorem gg_sub {o i : Expr} {mo mi : M} {tpos : Pos} (g : Gd X) (ho : GE X Wx o mo) (hi : GE X Wx i mi) (ha : ∀ v, assign (.Subscript o i tpos) X.env v = (do
      let ov ← holding [v] (eval o X.env)
      let iv ← holding [v, ov] (eval i X.env)
      standAt tpos
      holding [v, ov, iv] (setItem ov iv v)
      release [v, ov, iv] []) := by intro _; rfl) : GG X Wx (.Subscript o i tpos) (tgSub mo mi) := by
  refine (pg_sub (ha := ha) ho hi (PSet.or set_list (set_dict (by have := g.un; omega)))).imp fun v sh H Q ⟨W, sl, st, d, hr, hs, r, p⟩ => ?_
  refine rd_bindG hr hs p fun d1 st1 W1 v1 H1 e1 x1 h1 s1 r1 p1 => ?_
  refine rd_bindG h1 s1 p1 fun d2 st2 W2 v2 H2 e2 x2 h2 s2 r2 p2 => ?_
  cases e : setO st2 d1 d2 d with
  | none => rw [e] at p2; exact p2.elim
  | some st3 =>
    rw [e] at p2
    obtain ⟨H3, x3, h3, k⟩ := setO_rep h2 (x2.rep r1) r2 (x2.rep (x1.rep r)) e
    exact k _ (p2 W2 sh H3 rfl x3 h3 (s2.ext x3))
/-- target = e -/
def sAsg (m : M) (t : MG) : MS := fun sl st => (m sl st).thenS fun d st => (t d sl st).thenS .nx
theorem PostG.of {r : R Sl} (p : PostS N n Wx W H D (r.thenS .nx)) : PostG N n Wx W H D.nx r := by
  cases r with
  | ok a b => exact p
  | exc a b => exact p
  | bad => exact p
theorem asg_read {m : M} {t : MG} (hr : HR N.K W H st) (hs : SR N.K W sh sl) (p : PostS N sh.length Wx W H D (sAsg m t sl st)) : tAsg (rd N Wx m) (rdG N Wx t) D sh H := by
  refine rd_bindS hr hs p fun d1 st1 W1 v1 H1 e1 x1 h1 s1 r1 p1 => ?_
  exact ⟨W1, sl, st1, d1, h1, s1, r1, .of p1⟩
theorem gs_asg {tg e : Expr} {m : M} {t : MG} {pos : Pos} (he : GE X Wx e m) (hg : GG X Wx tg t) (hs : swapsWithSole [tg] e pos.line X.env = pure false := by rfl) (hw : swappedStores [tg] e X.env = pure none := by rfl)
    (h1 : (assignEach [tg] X.env).map (·.2) = [assign tg X.env] := by rfl) : GS X Wx (.Assign [tg] e pos) (sAsg m t) :=
  (ps_asg he hg hs hw h1).imp fun D sh H ⟨W, sl, st, hr, hs, p⟩ => asg_read hr hs p
end
end Pv
set_option Elab.async false
set_option linter.all false
set_option maxRecDepth 100000
set_option maxHeartbeats 4000000
namespace Pv
open PySem PySem.Spec L2
open PyProof.Rows hiding St
section
variable {X : Cx} {Wx : WX} {N : Nv} {W W' : Wd} {H H' : Hp} {st : Sto} {sl : Sl} {sh : L2.St} {n : Nat} {D D' : Ends}
def set2 (i j : Nat) (sl : Sl) : List Pv.D → Sto → RS
  | [a, b], st => .nx ((sl.set i (some a)).set j (some b)) st
  | _, _ => .bad
def set3 (i j l : Nat) (sl : Sl) : List Pv.D → Sto → RS
  | [a, b, c], st => .nx (((sl.set i (some a)).set j (some b)).set l (some c)) st
  | _, _ => .bad
theorem set2_inv {i j : Nat} {ds : List Pv.D} {vs : List V} (hr : HR N.K W H st) (hs : SR N.K W sh sl) (r : repL N.K W vs ds) (p : PostS N sh.length Wx W H D (set2 i j sl ds st)) : ∃ v w, vs = [v, w] ∧ D.nx ((sh.set i (some v)).set j (some w)) H := by
  cases ds with
  | nil => exact p.elim
  | cons d ds =>
    cases ds with
    | nil => exact p.elim
    | cons e ds =>
      cases ds with
      | cons _ _ => exact p.elim
      | nil =>
        obtain ⟨v, us, q1, r, w, us2, q2, r2, q3⟩ := r
        subst q3; subst q2; subst q1
        exact ⟨v, w, rfl, p W _ H (by simp) .refl hr ((hs.set i r).set j r2)⟩
theorem set3_inv {i j l : Nat} {ds : List Pv.D} {vs : List V} (hr : HR N.K W H st) (hs : SR N.K W sh sl) (r : repL N.K W vs ds) (p : PostS N sh.length Wx W H D (set3 i j l sl ds st)) : ∃ u v w, vs = [u, v, w] ∧ D.nx (((sh.set i (some u)).set j (some v)).set l (some w)) H := by
  cases ds with
  | nil => exact p.elim
  | cons d ds =>
    cases ds with
    | nil => exact p.elim
    | cons e ds =>
      cases ds with
      | nil => exact p.elim
      | cons f ds =>
        cases ds with
        | cons _ _ => exact p.elim
        | nil =>
          obtain ⟨v, us, q1, r, w, us2, q2, r2, x, us3, q3, r3, q4⟩ := r
          subst q4; subst q3; subst q2; subst q1
          exact ⟨v, w, x, rfl, p W _ H (by simp) .refl hr (((hs.set i r).set j r2).set l r3)⟩
def sPar2 (i j : Nat) (ms : Ms) : MS := fun sl st => (ms sl st).thenS (set2 i j sl)
def sPar3 (i j l : Nat) (ms : Ms) : MS := fun sl st => (ms sl st).thenS (set3 i j l sl)
theorem rdL_bindS {m : Ms} {f : List Pv.D → Sto → RS} {Q2 : List V → Hp → Prop} (hr : HR N.K W H st) (hs : SR N.K W sh sl)
    (h : PostS N sh.length Wx W H D ((m sl st).thenS f))
    (k : ∀ ds st1 W1 vs H1, m sl st = .ok ds st1 → Ext W H W1 H1 → HR N.K W1 H1 st1 → SR N.K W1 sh sl → repL N.K W1 vs ds → PostS N sh.length Wx W1 H1 D (f ds st1) → Q2 vs H1) : rdL N Wx m sh H Q2 := by
  refine ⟨W, sl, st, hr, hs, ?_⟩
  cases e : m sl st with
  | ok d st1 => rw [e] at h; exact fun W1 v H1 e1 h1 r1 => k d st1 W1 v H1 e e1 h1 (hs.ext e1) r1 (PostS.ext e1 h)
  | exc x st1 => rw [e] at h; exact fun W1 c dd H1 e1 a b => h W1 sh c dd H1 rfl e1 a b
  | bad => rw [e] at h; exact h
theorem par2_read {i j : Nat} {ms : Ms} (hr : HR N.K W H st) (hs : SR N.K W sh sl) (p : PostS N sh.length Wx W H D (sPar2 i j ms sl st)) : tPar i j (rdL N Wx ms) D sh H :=
  rdL_bindS hr hs p fun ds st1 W1 vs H1 e1 x1 h1 s1 r1 p1 => set2_inv h1 s1 r1 p1
theorem par3_read {i j l : Nat} {ms : Ms} (hr : HR N.K W H st) (hs : SR N.K W sh sl) (p : PostS N sh.length Wx W H D (sPar3 i j l ms sl st)) : tPar3 i j l (rdL N Wx ms) D sh H :=
  rdL_bindS hr hs p fun ds st1 W1 vs H1 e1 x1 h1 s1 r1 p1 => set3_inv h1 s1 r1 p1
theorem gs_par2 {i j : Nat} {x y : Str} {a b : Expr} {ms : Ms} {px py pt pos : Pos} {kt k2 pt2} (g : Gd X) (ha : GA X Wx [a, b] ms) (hi : X.N[i]? = some x) (hj : X.N[j]? = some y) (hij : i ≠ j)
    (hx : X.env.scope.names.lookup x = some .local) (hy : X.env.scope.names.lookup y = some .local)
    (hw : swappedStores [.Tuple [.Name x px, .Name y py] kt pt] (.Tuple [a, b] k2 pt2) X.env = pure (some [x, y]))
    (hs : swapsWithSole [.Tuple [.Name x px, .Name y py] kt pt] (.Tuple [a, b] k2 pt2) pos.line X.env = pure false) :
    GS X Wx (.Assign [.Tuple [.Name x px, .Name y py] kt pt] (.Tuple [a, b] k2 pt2) pos) (sPar2 i j ms) :=
  PS.imp (ps_par g.calm g.nd hi hj hij hx hy ha hw hs) fun D sh H ⟨W, sl, st, hr, hs, p⟩ => par2_read hr hs p
theorem gs_par3 {i j l : Nat} {x y z : Str} {a b c : Expr} {ms : Ms} {px py pz pt pos : Pos} {kt k2 pt2} (g : Gd X) (ha : GA X Wx [a, b, c] ms) (hi : X.N[i]? = some x) (hj : X.N[j]? = some y) (hl : X.N[l]? = some z) (hij : i ≠ j) (hil : i ≠ l) (hjl : j ≠ l)
    (hx : X.env.scope.names.lookup x = some .local) (hy : X.env.scope.names.lookup y = some .local) (hz : X.env.scope.names.lookup z = some .local)
    (hw : swappedStores [.Tuple [.Name x px, .Name y py, .Name z pz] kt pt] (.Tuple [a, b, c] k2 pt2) X.env = pure (some [x, y, z]))
    (hs : swapsWithSole [.Tuple [.Name x px, .Name y py, .Name z pz] kt pt] (.Tuple [a, b, c] k2 pt2) pos.line X.env = pure false) :
    GS X Wx (.Assign [.Tuple [.Name x px, .Name y py, .Name z pz] kt pt] (.Tuple [a, b, c] k2 pt2) pos) (sPar3 i j l ms) :=
  PS.imp (ps_par3 g.calm g.nd hi hj hl hij hil hjl hx hy hz ha hw hs) fun D sh H ⟨W, sl, st, hr, hs, p⟩ => par3_read hr hs p

/-! ### plain statements -/
def sExpr (m : M) : MS := fun sl st => (m sl st).thenS fun _ st => .nx sl st
theorem gs_expr {e : Expr} {m : M} {pos : Pos} (he : GE X Wx e m) (hs : swapsWith e none pos.line X.env = pure false := by rfl) : GS X Wx (.Expr e pos) (sExpr m) := by
  refine PS.imp (ps_expr he hs) fun D sh H ⟨W, sl, st, hr, hs, p⟩ => ?_
  exact rd_bindS hr hs p fun d1 st1 W1 v1 H1 e1 x1 h1 s1 r1 p1 => p1 W1 sh H1 rfl .refl h1 s1
theorem gs_pass {pos : Pos} : GS X Wx (.Pass pos) sNil := PS.imp ps_pass fun D sh H ⟨W, sl, st, hr, hs, p⟩ => p W sh H rfl .refl hr hs
def sBrk : MS := fun sl st => .bk sl st
theorem gs_break {pos : Pos} : GS X Wx (.Break pos) sBrk := PS.imp ps_break fun D sh H ⟨W, sl, st, hr, hs, p⟩ => p W sh H rfl .refl hr hs
def sCont : MS := fun sl st => .ct sl st
theorem gs_continue {pos : Pos} : GS X Wx (.Continue pos) sCont := PS.imp ps_continue fun D sh H ⟨W, sl, st, hr, hs, p⟩ => p W sh H rfl .refl hr hs
def sRet (m : M) : MS := fun sl st => (m sl st).thenS fun d st => .rt d st
theorem gs_ret {e : Expr} {m : M} {pos : Pos} (he : GE X Wx e m) : GS X Wx (.Return (some e) pos) (sRet m) := by
  refine PS.imp (ps_ret he) fun D sh H ⟨W, sl, st, hr, hs, p⟩ => ?_
  exact rd_bindS hr hs p fun d1 st1 W1 v1 H1 e1 x1 h1 s1 r1 p1 => p1 W1 v1 H1 .refl h1 r1
def sRetN : MS := fun sl st => .rt .none st
theorem gs_retN {pos : Pos} : GS X Wx (.Return none pos) sRetN := PS.imp ps_retN fun D sh H ⟨W, sl, st, hr, hs, p⟩ => p W .non H .refl hr rfl
def sIf (t : MT) (a b : MS) : MS := fun sl st => (t sl st).thenS fun k st => if k = true then a sl st else b sl st
theorem gs_if {c : Expr} {p q : List Stmt} {t : MT} {a b : MS} {pos : Pos} (hc : GT X Wx c t) (ha : GSs X Wx p a) (hb : GSs X Wx q b) : GS X Wx (.If c p q pos) (sIf t a b) := by
  refine PS.imp (ps_if hc ha hb) fun D sh H ⟨W, sl, st, hr, hs, p⟩ => ?_
  refine rdT_bindS hr hs p fun k st1 W1 H1 e1 x1 h1 s1 p1 => ?_
  cases k with
  | true => rw [if_pos rfl] at p1 ⊢; exact ⟨W1, sl, st1, h1, s1, p1⟩
  | false => rw [if_neg Bool.false_ne_true] at p1 ⊢; exact ⟨W1, sl, st1, h1, s1, p1⟩

/-! ### what a for walks -/
structure Src where
  items : List Pv.D
  /-- what must stay true of the store while the walk goes on -/
  keep : Sto → Prop
abbrev MI := Sl → Sto → R Src
def WalkK (K : PySem.W.Frag) (J : It) (W0 : Wd) (s : Src) : Prop := ∀ W H st, HR K W H st → (∀ b o, W0.F b = some o → W.F b = some o) → (∀ (r : Nat) a, W0.rho[r]? = some a → W.rho[r]? = some a) → s.keep st →
  J.stop s.items.length H ∧ ∀ i d, s.items[i]? = some d → J.go i H ∧ ∀ x H', J.yld i H x H' → ∃ W', Ext W H W' H' ∧ HR K W' H' st ∧ rep K W' x d
def PostI (N : Nv) (n : L2.St) (Wx : WX) (W : Wd) (H : Hp) (Q : It → Hp → Prop) : R Src → Prop
  | .ok s st => ∀ W' H' J, Ext W H W' H' → HR N.K W' H' st → WalkK N.K J W' s → Q J H'
  | .exc x st => ∀ W' cls dd H', Ext W H W' H' → HR N.K W' H' st → repX N W' H' cls dd x → Wx cls dd n H'
  | .bad => False
theorem PostI.ext {Q : It → Hp → Prop} {r : R Src} (e : Ext W H W' H') (h : PostI N sh Wx W H Q r) : PostI N sh Wx W' H' Q r := by
  cases r with
  | ok sl st => exact fun W2 H2 J e2 a b => h W2 H2 J (e.trans e2) a b
  | exc x st => exact fun W2 c dd H2 e2 a b => h W2 c dd H2 (e.trans e2) a b
  | bad => exact h
def rdI (N : Nv) (Wx : WX) (m : MI) : TI := fun sh H R => ∃ W sl st, HR N.K W H st ∧ SR N.K W sh sl ∧ PostI N sh Wx W H R (m sl st)
def GI (X : Cx) (Wx : WX) (tg e : Expr) (m : MI) : Prop := PI X tg e (rdI (nv X) Wx m)
theorem _root_.L2.PI.imp {tg e : Expr} {t t' : TI} (h : PI X tg e t) (i : ∀ σ H R, t' σ H R → t σ H R) : PI X tg e t' := ⟨fun pins s σ H R I q => h.run pins s σ H R I (i σ H R q)⟩
theorem _root_.L2.PI.or {tg e : Expr} {t t' : TI} (h : PI X tg e t) (h' : PI X tg e t') : PI X tg e (fun σ H R => t σ H R ∨ t' σ H R) := ⟨fun pins s σ H R I q => q.elim (h.run pins s σ H R I) (h'.run pins s σ H R I)⟩
theorem rd_bindI {m : M} {f : Pv.D → Sto → R Src} {Q : It → Hp → Prop} {Q2 : VK} (hr : HR N.K W H st) (hs : SR N.K W sh sl)
    (h : PostI N sh Wx W H Q ((m sl st).bind f))
    (k : ∀ d st1 W1 v H1, m sl st = .ok d st1 → Ext W H W1 H1 → HR N.K W1 H1 st1 → SR N.K W1 sh sl → rep N.K W1 v d → PostI N sh Wx W1 H1 Q (f d st1) → Q2 v H1) : rd N Wx m sh H Q2 := by
  refine ⟨W, sl, st, hr, hs, ?_⟩
  cases e : m sl st with
  | ok d st1 => rw [e] at h; exact fun W1 v H1 e1 h1 r1 => k d st1 W1 v H1 e e1 h1 (hs.ext e1) r1 (PostI.ext e1 h)
  | exc x st1 => rw [e] at h; exact h
  | bad => rw [e] at h; exact h
theorem rdL_bindI {m : Ms} {f : List Pv.D → Sto → R Src} {Q : It → Hp → Prop} {Q2 : List V → Hp → Prop} (hr : HR N.K W H st) (hs : SR N.K W sh sl)
    (h : PostI N sh Wx W H Q ((m sl st).bind f))
    (k : ∀ ds st1 W1 vs H1, m sl st = .ok ds st1 → Ext W H W1 H1 → HR N.K W1 H1 st1 → SR N.K W1 sh sl → repL N.K W1 vs ds → PostI N sh Wx W1 H1 Q (f ds st1) → Q2 vs H1) : rdL N Wx m sh H Q2 := by
  refine ⟨W, sl, st, hr, hs, ?_⟩
  cases e : m sl st with
  | ok d st1 => rw [e] at h; exact fun W1 v H1 e1 h1 r1 => k d st1 W1 v H1 e e1 h1 (hs.ext e1) r1 (PostI.ext e1 h)
  | exc x st1 => rw [e] at h; exact h
  | bad => rw [e] at h; exact h
/-- the signs of a text -/
def signs (z : Str) : List Pv.D := z.cps.toList.map fun c => .str ⟨#[c]⟩
def always : Sto → Prop := fun _ => True
def holdsLst (r : Nat) (ds : List Pv.D) : Sto → Prop := fun st => st[r]? = some (.lst ds)
/-- the items that a for meets: a list's, a tuple's, a text's signs; a list that may change is not walked while it does -/
def srcOf (d : Pv.D) (st : Sto) : R Src :=
  match d with
  | .list ds => .ok ⟨ds, always⟩ st
  | .tuple ds => .ok ⟨ds, always⟩ st
  | .dict [(.none, .tuple ds)] => .ok ⟨ds, always⟩ st
  | .dict [(.none, .list ds)] => .ok ⟨ds, always⟩ st
  | .str z => .ok ⟨signs z, always⟩ st
  | .dict [(.int r, .none)] => (match st[r.toNat]? with | some (.lst ds) => .ok ⟨ds, holdsLst r.toNat ds⟩ st | _ => .bad)
  | _ => .bad
def mIter (m : M) : MI := fun sl st => (m sl st).bind srcOf
theorem walk_list {a : Addr} {xs : List V} {ds : List Pv.D} {K : PySem.W.Frag} (hf : SqL K W.F a xs) (l : repL K W xs ds) : WalkK K (Itl K a) W ⟨ds, always⟩ := by
  intro W1 H1 st1 h1 f r _
  have hq : SqL K H1 a xs := sqL_mono h1.sub (sqL_mono f hf)
  have l1 : repL K W1 xs ds := repL_mono f r ds l
  refine ⟨⟨xs, hq, by rw [repL_length l]; exact Nat.le_refl _⟩, fun i d hd => ?_⟩
  obtain ⟨v, hv, rv⟩ := repL_get i l1 hd
  refine ⟨⟨xs, v, hq, hv⟩, fun x H' y => ?_⟩
  obtain ⟨e, y⟩ := y
  subst e
  have := y xs hq
  rw [hv] at this
  cases this
  exact ⟨W1, .refl, h1, rv⟩
theorem walk_ref {a : Addr} {r0 : Nat} {ds : List Pv.D} {K : PySem.W.Frag} (hf : W.rho[r0]? = some a) : WalkK K (Itl K a) W ⟨ds, holdsLst r0 ds⟩ := by
  intro W1 H1 st1 h1 f r k
  obtain ⟨m, hm, _, ho⟩ := h1.at (r r0 a hf)
  have k' : st1[r0]? = some (.lst ds) := k
  rw [k'] at hm
  cases hm
  obtain ⟨xs, g1, l1⟩ := ho
  have hq : SqL K H1 a xs := .inl (.inl g1)
  refine ⟨⟨xs, hq, by rw [repL_length l1]; exact Nat.le_refl _⟩, fun i d hd => ?_⟩
  obtain ⟨v, hv, rv⟩ := repL_get i l1 hd
  refine ⟨⟨xs, v, hq, hv⟩, fun x H' y => ?_⟩
  obtain ⟨e, y⟩ := y
  subst e
  have := y xs hq
  rw [hv] at this
  cases this
  exact ⟨W1, .refl, h1, rv⟩
theorem walk_tup {a : Addr} {xs : List V} {ds : List Pv.D} {K : PySem.W.Frag} (hf : ∀ W1 H1 st1, HR K W1 H1 st1 → (∀ b o, W.F b = some o → W1.F b = some o) → SqT K H1 a xs) (l : repL K W xs ds) : WalkK K (Itt K a) W ⟨ds, always⟩ := by
  intro W1 H1 st1 h1 f r _
  have hq : SqT K H1 a xs := hf W1 H1 st1 h1 f
  have l1 : repL K W1 xs ds := repL_mono f r ds l
  refine ⟨⟨xs, hq, by rw [repL_length l]; exact Nat.le_refl _⟩, fun i d hd => ?_⟩
  obtain ⟨v, hv, rv⟩ := repL_get i l1 hd
  refine ⟨⟨xs, v, hq, hv⟩, fun x H' y => ?_⟩
  obtain ⟨e, y⟩ := y
  subst e
  have := y xs hq
  rw [hv] at this
  cases this
  exact ⟨W1, .refl, h1, rv⟩
theorem walk_str {z : Str} {K : PySem.W.Frag} : WalkK K (Its z) W ⟨signs z, always⟩ := by
  intro W1 H1 st1 h1 f r _
  have hl : (signs z).length = z.cps.size := by unfold signs; simp
  refine ⟨by show z.cps.size ≤ (signs z).length; rw [hl]; exact Nat.le_refl _, fun i d hd => ?_⟩
  have hi : i < z.cps.size := by rw [← hl]; exact (List.getElem?_eq_some_iff.mp hd).1
  refine ⟨hi, fun x H' y => ?_⟩
  obtain ⟨e, c, hc, ex⟩ := y
  subst e; subst ex
  have : signs z = z.cps.toList.map fun c => PyData.str ⟨#[c]⟩ := rfl
  rw [this, List.getElem?_map] at hd
  have hc' : z.cps.toList[i]? = some c := by simpa using hc
  rw [hc'] at hd
  cases hd
  exact ⟨W1, .refl, h1, rfl⟩
theorem gi_iter {tg ea : Expr} {ma : M} (ha : GE X Wx ea ma) : GI X Wx tg ea (mIter ma) := by
  refine PI.imp (PI.or (PI.or (pi_list ha) (pi_tup ha)) (pi_str ha)) fun sh H R ⟨W, sl, st, hr, hs, p⟩ => ?_
  cases e1 : ma sl st with
  | bad => unfold mIter at p; rw [e1] at p; exact p.elim
  | exc x s2 =>
    refine .inl (.inl (rd_bindI hr hs p fun d1 st1 W1 v1 H1 e2 => ?_))
    rw [e1] at e2; cases e2
  | ok d st1 =>
    cases d with
    | list ds =>
      refine .inl (.inl (rd_bindI hr hs p fun d1 st1' W1 v1 H1 e2 x1 h1 s1 r1 p1 => ?_))
      rw [e1] at e2; cases e2
      obtain ⟨a, xs, q1, q2, l⟩ := r1
      exact ⟨a, q1, ⟨xs, .inl (.inl (h1.sub _ _ q2))⟩, p1 W1 H1 _ .refl h1 (walk_list (.inl (.inl q2)) l)⟩
    | tuple ds =>
      refine .inl (.inr (rd_bindI hr hs p fun d1 st1' W1 v1 H1 e2 x1 h1 s1 r1 p1 => ?_))
      rw [e1] at e2; cases e2
      obtain ⟨a, xs, q1, q2, l⟩ := r1
      exact ⟨a, q1, ⟨xs, .inl (.inl (h1.sub _ _ q2))⟩, p1 W1 H1 _ .refl h1 (walk_tup (fun W2 H2 st2 h2 f => .inl (.inl (h2.sub _ _ (f _ _ q2)))) l)⟩
    | str z =>
      refine .inr (rd_bindI hr hs p fun d1 st1' W1 v1 H1 e2 x1 h1 s1 r1 p1 => ?_)
      rw [e1] at e2; cases e2
      cases r1
      exact ⟨z, rfl, p1 W1 H1 _ .refl h1 walk_str⟩
    | dict kvs =>
      by_cases hk : ∃ ds', kvs = [(.none, .tuple ds')]
      · obtain ⟨ds0, hk⟩ := hk
        subst hk
        refine .inl (.inr (rd_bindI hr hs p fun d1 st1' W1 v1 H1 e2 x1 h1 s1 r1 p1 => ?_))
        rw [e1] at e2; cases e2
        obtain ⟨a, xs, f2, f3, f4⟩ := r1
        exact ⟨a, f2, ⟨xs, sqT_mono (fun _ _ z => by cases z) f3⟩, p1 W1 H1 _ .refl h1 (walk_tup (fun W2 H2 st2 h2 f => sqT_mono (fun _ _ z => by cases z) f3) f4)⟩
      · refine .inl (.inl (rd_bindI hr hs p fun d1 st1' W1 v1 H1 e2 x1 h1 s1 r1 p1 => ?_))
        rw [e1] at e2; cases e2
        rcases rep_dict r1 with ⟨r, a, f1, f2, f3⟩ | ⟨ds', a, xs, f1, f2, f3, f4⟩ | ⟨ds', a, xs, f1, f2, f3, f4⟩
        rotate_left
        · exact absurd ⟨_, f1⟩ hk
        · subst f1
          exact ⟨a, f2, ⟨xs, sqL_mono h1.sub f3⟩, p1 W1 H1 _ .refl h1 (walk_list f3 f4)⟩
        subst f1
        unfold srcOf at p1
        simp only [Int.toNat_natCast] at p1
        obtain ⟨m, hm, _, ho⟩ := h1.at f3
        rw [hm] at p1
        cases m with
        | lst ds =>
          obtain ⟨xs, g1, g2⟩ := ho
          exact ⟨a, f2, ⟨xs, .inl (.inl g1)⟩, p1 W1 H1 _ .refl h1 (walk_ref f3)⟩
        | ro _ => exact p1.elim
        | dct _ => exact p1.elim
        | dctT _ => exact p1.elim
    | none => unfold mIter at p; rw [e1] at p; exact p.elim
    | bool _ => unfold mIter at p; rw [e1] at p; exact p.elim
    | int _ => unfold mIter at p; rw [e1] at p; exact p.elim

/-- range(n), range(a, b) -/
def rngD (lo : Int) (n : Nat) : List Pv.D := (List.range n).map fun (k : Nat) => PyData.int (lo + (k : Int))
theorem rngD_length (lo : Int) (n : Nat) : (rngD lo n).length = n := by unfold rngD; simp
theorem walk_range {K : PySem.W.Frag} {lo : Int} {n : Nat} : WalkK K (Itr lo n) W ⟨rngD lo n, always⟩ := by
  intro W1 H1 st1 h1 f r _
  refine ⟨by show n ≤ (rngD lo n).length; rw [rngD_length]; exact Nat.le_refl _, fun i d hd => ?_⟩
  have hi : i < n := by rw [← rngD_length lo n]; exact (List.getElem?_eq_some_iff.mp hd).1
  refine ⟨hi, fun x H' y => ?_⟩
  obtain ⟨e, ex⟩ := y
  subst e; subst ex
  have hx : (rngD lo n)[i]? = some (.int (lo + i)) := by unfold rngD; rw [List.getElem?_map, List.getElem?_range hi]; rfl
  rw [hx] at hd
  cases hd
  exact ⟨W1, .refl, h1, rfl⟩
def inR62 (j : Int) : Bool := decide (-(2 ^ 62) ≤ j ∧ j < 2 ^ 62)
def fRng1 (d : Pv.D) (st : Sto) : R Src := match d with | .int j => if inR62 j = true then .ok ⟨rngD 0 j.toNat, always⟩ st else .bad | _ => .bad
def fRng2 (c d : Pv.D) (st : Sto) : R Src := match c with
  | .int i => (match d with | .int j => if inR62 i = true ∧ inR62 j = true then .ok ⟨rngD i (j - i).toNat, always⟩ st else .bad | _ => .bad)
  | _ => .bad
def mRng1 (a : M) : MI := fun sl st => (a sl st).bind fRng1
def mRng2 (a b : M) : MI := fun sl st => (a sl st).bind fun x st => (b sl st).bind fun y st => fRng2 x y st
theorem gi_range1 {tg ea : Expr} {ma : M} {p pos : Pos} (hm : X.mg "range" = none) (ha : GE X Wx ea ma) (hg : Gl X "range" := by rfl) (hs : starEach [ea] X.env = [(false, eval ea X.env)] := by rfl)
    (hs1 : starEach (ea :: []) X.env = (false, eval ea X.env) :: starEach [] X.env := by rfl) : GI X Wx tg (.Call (.Name "range" p) [ea] [] pos) (mRng1 ma) := by
  refine PI.imp (pi_range1 hg hm (pa_cons ha pa_nil hs1) hs) fun sh H R ⟨W, sl, st, hr, hs, p⟩ => ?_
  refine rd_bindI hr hs p fun d1 st1 W1 v1 H1 e1 x1 h1 s1 r1 p1 => ?_
  cases d1 with
  | int j =>
    cases r1
    unfold fRng1 at p1
    simp only at p1
    split at p1
    · rename_i hj
      obtain ⟨j1, j2⟩ := of_decide_eq_true hj
      exact ⟨j, rfl, j1, j2, p1 W1 H1 _ .refl h1 walk_range⟩
    · exact p1.elim
  | _ => exact p1.elim
theorem gi_range2 {tg ea eb : Expr} {ma mb : M} {p pos : Pos} (hm : X.mg "range" = none) (ha : GE X Wx ea ma) (hb : GE X Wx eb mb) (hg : Gl X "range" := by rfl) (hs : starEach [ea, eb] X.env = [(false, eval ea X.env), (false, eval eb X.env)] := by rfl) (hs2 : starEach [eb] X.env = [(false, eval eb X.env)] := by rfl)
    (hs1 : starEach (ea :: [eb]) X.env = (false, eval ea X.env) :: starEach [eb] X.env := by rfl) (hs0 : starEach (eb :: []) X.env = (false, eval eb X.env) :: starEach [] X.env := by rfl) : GI X Wx tg (.Call (.Name "range" p) [ea, eb] [] pos) (mRng2 ma mb) := by
  refine PI.imp (pi_range2 hg hm (pa_cons ha (pa_cons hb pa_nil hs0) hs1) hs hs2) fun sh H R ⟨W, sl, st, hr, hs, p⟩ => ?_
  refine rd_bindI hr hs p fun d1 st1 W1 v1 H1 e1 x1 h1 s1 r1 p1 => ?_
  refine rd_bindI h1 s1 p1 fun d2 st2 W2 v2 H2 e2 x2 h2 s2 r2 p2 => ?_
  cases d1 with
  | int i =>
    cases d2 with
    | int j =>
      cases r1; cases r2
      unfold fRng2 at p2
      simp only at p2
      split at p2
      · rename_i hj
        obtain ⟨j1, j2⟩ := of_decide_eq_true hj.1
        obtain ⟨j3, j4⟩ := of_decide_eq_true hj.2
        exact ⟨i, j, rfl, ⟨j1, j2, j3, j4⟩, p2 W2 H2 _ .refl h2 walk_range⟩
      · exact p2.elim
    | _ => exact p2.elim
  | _ => exact p2.elim

/-! ### for -/
/-- slots forgotten -/
def wipeD (sl : Sl) : List Nat → Sl
  | [] => sl
  | v :: vs => (wipeD sl vs).set v none
theorem wipeD_length (sl : Sl) : ∀ vs : List Nat, (wipeD sl vs).length = sl.length
  | [] => rfl
  | v :: vs => by unfold wipeD; rw [List.length_set, wipeD_length sl vs]
theorem wipeD_some {sl : Sl} {i : Nat} {x : Pv.D} : ∀ {vs : List Nat}, (wipeD sl vs)[i]? = some (some x) → sl[i]? = some (some x) ∧ i ∉ vs
  | [], h => ⟨h, by simp⟩
  | v :: vs, h => by
    unfold wipeD at h
    by_cases hi : v = i
    · subst hi
      by_cases hv : v < (wipeD sl vs).length
      · rw [List.getElem?_set_self hv] at h; cases h
      · rw [List.getElem?_eq_none (by simpa using hv)] at h; cases h
    · rw [List.getElem?_set_ne hi] at h
      obtain ⟨a, b⟩ := wipeD_some h
      exact ⟨a, by simp [b, Ne.symm hi]⟩
theorem SR.wipe {K : PySem.W.Frag} {vs : List Nat} (s : SR K W sh sl) : SR K W sh (wipeD sl vs) := s.weak (wipeD_length _ _) fun i d e => (wipeD_some e).1
open Classical in
/-- the turns over some items: tg stores the item, body goes on; fg: slots that no later turn reads -/
noncomputable def forL (keep : Sto → Prop) (tg : MG) (body : MS) (fg : List Nat) : List Pv.D → Sl → Sto → RS
  | [], sl, st => if keep st then .nx sl st else .bad
  | d :: ds, sl, st => if keep st then (match (tg d sl st).thenS body with
    | .nx sl st => forL keep tg body fg ds (wipeD sl fg) st
    | .ct sl st => forL keep tg body fg ds (wipeD sl fg) st
    | .bk sl st => .nx (wipeD sl fg) st
    | r => r) else .bad
noncomputable def sFor (fg : List Nat) (mi : MI) (tg : MG) (body : MS) : MS := fun sl st => (mi sl st).thenS fun s st => forL s.keep tg body fg s.items (wipeD sl fg) st
theorem for_read {mi : MI} {tg : MG} {body : MS} {fg : List Nat} (hr : HR N.K W H st) (hs : SR N.K W sh sl) (p : PostS N sh.length Wx W H D (sFor fg mi tg body sl st)) : tFor (rdI N Wx mi) (rdG N Wx tg) (rdS N Wx body) D sh H := by
  refine ⟨W, sl, st, hr, hs, ?_⟩
  unfold sFor at p
  cases e : mi sl st with
  | bad => rw [e] at p; exact p
  | exc x s2 => rw [e] at p; exact fun W1 c dd H1 e1 a b => p W1 sh c dd H1 rfl e1 a b
  | ok s st1 =>
    rw [e] at p
    intro W1 H1 J x1 h1 wk
    have p1 := PostS.ext x1 p
    simp only [R.thenS_ok] at p1
    refine ⟨fun i m sh' H' => sh'.length = sh.length ∧ i ≤ s.items.length ∧ m = s.items.length - i ∧ ∃ W' sl' st', (∀ b o, W1.F b = some o → W'.F b = some o) ∧ (∀ (r : Nat) a, W1.rho[r]? = some a → W'.rho[r]? = some a) ∧ HR N.K W' H' st' ∧ SR N.K W' sh' sl' ∧
      PostS N sh.length Wx W' H' D (forL s.keep tg body fg (s.items.drop i) sl' st'), ⟨s.items.length, rfl, Nat.zero_le _, by simp, W1, _, st1, fun _ _ z => z, fun _ _ z => z, h1, (hs.ext x1).wipe, by simpa using p1⟩, ?_⟩
    rintro i m sh2 H2 ⟨hl2, hi, hm, W2, sl2, st2, f2, r2, h2, s2, p2⟩
    by_cases hk : s.keep st2
    · obtain ⟨stp, go⟩ := wk W2 H2 st2 h2 f2 r2 hk
      by_cases hlt : i < s.items.length
      · obtain ⟨gi, yi⟩ := go i _ (List.getElem?_eq_getElem hlt)
        refine .inr ⟨gi, fun sh3 H3 => sh3.length = sh.length ∧ ∃ W' sl' st', (∀ b o, W1.F b = some o → W'.F b = some o) ∧ (∀ (r : Nat) a, W1.rho[r]? = some a → W'.rho[r]? = some a) ∧ HR N.K W' H3 st' ∧ SR N.K W' sh3 sl' ∧
          PostS N sh.length Wx W' H3 D (forL s.keep tg body fg (s.items.drop (i + 1)) sl' st'), fun sh3 H3 ⟨a, b⟩ => ⟨s.items.length - (i + 1), by omega, a, hlt, rfl, b⟩, fun x H3 y => ?_⟩
        obtain ⟨W3, x3, h3, rx⟩ := yi x H3 y
        rw [List.drop_eq_getElem_cons hlt] at p2
        unfold forL at p2
        rw [if_pos hk] at p2
        have p3 := PostS.ext x3 p2
        have f3 : ∀ b o, W1.F b = some o → W3.F b = some o := fun b o z => x3.fr b o (f2 b o z)
        have r3 : ∀ (r : Nat) a, W1.rho[r]? = some a → W3.rho[r]? = some a := fun r a z => x3.at r a (r2 r a z)
        refine ⟨W3, sl2, st2, s.items[i], h3, s2.ext x3, rx, ?_⟩
        cases q : tg s.items[i] sl2 st2 with
        | bad => rw [q] at p3; exact p3
        | exc a b => rw [q] at p3; rw [hl2]; exact p3
        | ok sl4 st4 =>
          rw [q] at p3
          simp only [R.thenS_ok] at p3
          intro W4 sh4 H4 l4 x4 h4 s4
          have p4 := PostS.ext x4 p3
          have f4 : ∀ b o, W1.F b = some o → W4.F b = some o := fun b o z => x4.fr b o (f3 b o z)
          have r4 : ∀ (r : Nat) a, W1.rho[r]? = some a → W4.rho[r]? = some a := fun r a z => x4.at r a (r3 r a z)
          refine ⟨W4, sl4, st4, h4, s4, ?_⟩
          have ll : sh4.length = sh.length := l4.trans hl2
          have step : ∀ sl5 st5, PostS N sh.length Wx W4 H4 D (forL s.keep tg body fg (s.items.drop (i + 1)) (wipeD sl5 fg) st5) → ∀ W5 sh5 H5, sh5.length = sh4.length → Ext W4 H4 W5 H5 → HR N.K W5 H5 st5 → SR N.K W5 sh5 sl5 →
              sh5.length = sh.length ∧ ∃ W' sl' st', (∀ b o, W1.F b = some o → W'.F b = some o) ∧ (∀ (r : Nat) a, W1.rho[r]? = some a → W'.rho[r]? = some a) ∧ HR N.K W' H5 st' ∧ SR N.K W' sh5 sl' ∧
                PostS N sh.length Wx W' H5 D (forL s.keep tg body fg (s.items.drop (i + 1)) sl' st') := fun sl5 st5 pp W5 sh5 H5 l5 x5 h5 s5 =>
            ⟨l5.trans ll, W5, _, st5, fun b o z => x5.fr b o (f4 b o z), fun r a z => x5.at r a (r4 r a z), h5, s5.wipe, PostS.ext x5 pp⟩
          cases qb : body sl4 st4 with
          | nx sl5 st5 => rw [qb] at p4; exact step sl5 st5 p4
          | ct sl5 st5 => rw [qb] at p4; exact step sl5 st5 p4
          | bk sl5 st5 =>
            rw [qb] at p4
            intro W5 sh5 H5 l5 x5 h5 s5
            exact p4 W5 sh5 H5 (l5.trans ll) x5 h5 s5.wipe
          | rt d st5 => rw [qb] at p4; exact p4
          | exc a b => rw [qb] at p4; rw [ll]; exact p4
          | bad => rw [qb] at p4; exact p4
      · have e : i = s.items.length := by omega
        subst e
        rw [List.drop_length] at p2
        unfold forL at p2
        rw [if_pos hk] at p2
        exact .inl ⟨stp, p2 W2 sh2 H2 hl2 .refl h2 s2⟩
    · exfalso
      cases q : s.items.drop i with
      | nil => rw [q] at p2; unfold forL at p2; rw [if_neg hk] at p2; exact p2
      | cons d ds => rw [q] at p2; unfold forL at p2; rw [if_neg hk] at p2; exact p2
theorem gs_for {tg iter : Expr} {body : List Stmt} {mi : MI} {mt : MG} {mb : MS} {pos : Pos} (fg : List Nat) (g : Gd X) (hp : PassesOwn (model X.prog X.w) X.A X.env X.xe) (hi : GI X Wx tg iter mi) (hg : GG X Wx tg mt) (hb : GSs X Wx body mb)
    (hs : ∀ x, foldedSetIterable iter X.env x = pure x := by intro _; rfl) : GS X Wx (.For tg iter body [] pos) (sFor fg mi mt mb) :=
  PS.imp (ps_for hp g.calm hi hg hb hs) fun D sh H ⟨W, sl, st, hr, hs, p⟩ => for_read hr hs p
end
end Pv
set_option Elab.async false
set_option linter.all false
set_option maxRecDepth 100000
set_option maxHeartbeats 4000000
namespace Pv
open PySem PySem.Spec L2
open PyProof.Rows hiding St

/-! ### a comprehension's target -/
inductive CT where
  | nm (i : Nat) | tp (is : List Nat)
def setAll (sl : Sl) : List Nat → List Pv.D → Option Sl
  | [], [] => some sl
  | i :: is, d :: ds => setAll (sl.set i (some d)) is ds
  | _, _ => none
def ctSet (t : CT) (d : Pv.D) (sl : Sl) : Option Sl :=
  match t with
  | .nm i => some (sl.set i (some d))
  | .tp is => (match d with | .tuple ds => setAll sl is ds | _ => none)
def gNames : List Nat → TGs
  | [] => gNil
  | i :: is => gCons (gName i) (gNames is)
def gct (K : PySem.W.Frag) : CT → TG
  | .nm i => gName i
  | .tp is => gTup K is.length (gNames is)
def ctIn (t : CT) (vs : List Nat) : Bool := match t with | .nm i => vs.contains i | .tp is => is.all vs.contains
theorem wipe_comm (σ : L2.St) (i : Nat) : ∀ vs : List Nat, wipe (σ.set i none) vs = (wipe σ vs).set i none
  | [] => rfl
  | v :: vs => by
    unfold wipe
    rw [wipe_comm σ i vs]
    by_cases h : v = i
    · subst h; rfl
    · exact List.set_comm _ _ (Ne.symm h)
theorem wipe_set {σ : L2.St} {x : Option V} {i : Nat} : ∀ {vs : List Nat}, i ∈ vs → wipe (σ.set i x) vs = wipe σ vs
  | [], h => by cases h
  | v :: vs, h => by
    unfold wipe
    by_cases hv : v = i
    · subst hv
      by_cases hm : v ∈ vs
      · rw [wipe_set hm]
      · have key : ∀ (vs : List Nat), v ∉ vs → wipe (σ.set v x) vs = (wipe σ vs).set v x := by
          intro vs
          induction vs with
          | nil => intro _; rfl
          | cons u us ih =>
            intro hu
            unfold wipe
            rw [ih (fun z => hu (List.mem_cons_of_mem _ z))]
            exact List.set_comm _ _ (fun z => hu (by rw [z]; exact List.mem_cons_self))
        rw [key vs hm, List.set_set]
    · rw [wipe_set (by rcases List.mem_cons.mp h with q | q; exact absurd q.symm hv; exact q)]
theorem wipe_wipe {σ : L2.St} (vs : List Nat) : ∀ us : List Nat, (∀ u ∈ us, u ∈ vs) → wipe (wipe σ us) vs = wipe σ vs
  | [], _ => rfl
  | u :: us, h => by
    show wipe ((wipe σ us).set u none) vs = wipe σ vs
    rw [wipe_set (h u List.mem_cons_self)]
    exact wipe_wipe vs us fun w hw => h w (List.mem_cons_of_mem _ hw)
section
variable {X : Cx} {Wx : WX} {N : Nv} {W W' : Wd} {H H' : Hp} {st : Sto} {sl : Sl} {sh : L2.St} {n : Nat} {D D' : Ends}
theorem gNames_run {vs : List Nat} : ∀ {is : List Nat} {ds : List Pv.D} {xs : List V} {sl sl2 : Sl} {sh sh0 : L2.St}, (∀ i ∈ is, i ∈ vs) → SR N.K W sh sl → repL N.K W xs ds → setAll sl is ds = some sl2 → wipe sh vs = wipe sh0 vs →
    ∀ (Q : L2.St → Hp → Prop), (∀ sh2, SR N.K W sh2 sl2 → sh2.length = sh.length → wipe sh2 vs = wipe sh0 vs → Q sh2 H) → gNames is xs sh H Q
  | [], [], _, sl, sl2, sh, sh0, _, s, l, e, w, Q, q => by cases l; cases e; exact ⟨rfl, q sh s rfl w⟩
  | i :: is, d :: ds, _, sl, sl2, sh, sh0, hi, s, ⟨v, us, e1, r, l⟩, e, w, Q, q => by
    subst e1
    refine ⟨v, us, rfl, ?_⟩
    refine gNames_run (sh0 := sh0) (fun j hj => hi j (List.mem_cons_of_mem _ hj)) (s.set i r) l e ?_ Q fun sh2 s2 l2 w2 => q sh2 s2 (by rw [l2]; simp) w2
    rw [wipe_set (hi i List.mem_cons_self)]; exact w
  | [], _ :: _, _, _, _, _, _, _, _, _, e, _, _, _ => by cases e
  | _ :: _, [], _, _, _, _, _, _, _, _, e, _, _, _ => by cases e
theorem ct_run {t : CT} {d : Pv.D} {v : V} {sl2 : Sl} {vs : List Nat} (hin : ctIn t vs = true) (hr : HR N.K W H st) (s : SR N.K W sh sl) (r : rep N.K W v d) (e : ctSet t d sl = some sl2) (Q : L2.St → Hp → Prop)
    (q : ∀ sh2, SR N.K W sh2 sl2 → sh2.length = sh.length → wipe sh2 vs = wipe sh vs → Q sh2 H) : gct N.K t v sh H Q := by
  cases t with
  | nm i =>
    cases e
    have hi : i ∈ vs := by simpa [ctIn] using hin
    exact q _ (s.set i r) (by simp) (wipe_set hi)
  | tp is =>
    unfold ctSet at e
    simp only at e
    split at e
    · rename_i ds
      obtain ⟨a, xs, e1, f, l⟩ := r
      have hall : ∀ i ∈ is, i ∈ vs := by
        intro i hi
        have := List.all_eq_true.mp (show is.all vs.contains = true from hin) i hi
        simpa using this
      have hlen : xs.length = is.length := by
        rw [repL_length l]
        have key : ∀ (is : List Nat) (ds : List Pv.D) (sl sl2 : Sl), setAll sl is ds = some sl2 → ds.length = is.length := by
          intro is
          induction is with
          | nil => intro ds sl sl2 e; cases ds with | nil => rfl | cons _ _ => cases e
          | cons i is ih => intro ds sl sl2 e; cases ds with | nil => cases e | cons d ds => simp [ih ds _ _ e]
        exact key is ds sl sl2 e
      exact ⟨a, xs, e1, .inl (.inl (hr.sub _ _ f)), hlen, gNames_run hall s l e rfl Q q⟩
    · cases e
theorem gct_name {x : Str} {pos : Pos} (i : Nat) (g : Gd X) (hi : X.N[i]? = some x := by rfl) (hx : Loc X.env.scope x := by first | exact Or.inl rfl | exact Or.inr rfl) (hf : X.fn x = true ∨ X.env.scope.names.lookup x = some .local := by first | exact .inl rfl | exact .inr rfl) : PG X (.Name x pos) (gct X.K (.nm i)) :=
  pg_name g.nd hi hx hf
theorem gcts_nil : PGs X [] (gNames []) := pgs_nil
theorem gcts_cons {x : Str} {pos : Pos} {es : List Expr} {is : List Nat} (i : Nat) (g : Gd X) (hr : PGs X es (gNames is)) (hi : X.N[i]? = some x := by rfl) (hx : Loc X.env.scope x := by first | exact Or.inl rfl | exact Or.inr rfl) (hf : X.fn x = true ∨ X.env.scope.names.lookup x = some .local := by first | exact .inl rfl | exact .inr rfl)
    (h : (assignEach (.Name x pos :: es) X.env).map (·.2) = assign (.Name x pos) X.env :: (assignEach es X.env).map (·.2) := by rfl) : PGs X (.Name x pos :: es) (gNames (i :: is)) :=
  pgs_cons (pg_name g.nd hi hx hf) hr h
theorem gct_tup {es : List Expr} {k : Nat} {is : List Nat} {pos : Pos} (g : Gd X) (h : PGs X es (gNames is)) (hn : (assignEach es X.env).length = is.length := by rfl) (hst : (assignEach es X.env).findIdx? (·.1) = none := by rfl) : PG X (.Tuple es k pos) (gct X.K (.tp is)) :=
  pg_tup g.calm h hn hst

/-! ### list comprehensions -/
open Classical in
/-- the items that are made -/
noncomputable def lcL (keep : Sto → Prop) (t : CT) (tt : MT) (te : M) (sl : Sl) : List Pv.D → Sto → R (List Pv.D)
  | [], st => if keep st then .ok [] st else .bad
  | d :: ds, st => if keep st then (match ctSet t d sl with
    | none => .bad
    | some sl2 => match tt sl2 st with
      | .ok true st => (match te sl2 st with
        | .ok y st => (match lcL keep t tt te sl ds st with | .ok ys st => .ok (y :: ys) st | _ => .bad)
        | _ => .bad)
      | .ok false st => lcL keep t tt te sl ds st
      | _ => .bad) else .bad
def tYesM : MT := fun _ st => .ok true st
noncomputable def lcR (mi : MI) (t : CT) (tt : MT) (te : M) (vs : List Nat) : Ms := fun sl st => (mi sl st).bind fun s st => (lcL s.keep t tt te (wipeD sl vs) s.items st).bind fun ys st => if ys.length ≤ sizeLine then .ok ys st else .bad
noncomputable def mLc (mi : MI) (t : CT) (tt : MT) (te : M) (vs : List Nat) : M := fun sl st => (lcR mi t tt te vs sl st).bind fun ys st => .ok (.list ys) st
noncomputable def mLcM (mi : MI) (t : CT) (tt : MT) (te : M) (vs : List Nat) : M := fun sl st => (lcR mi t tt te vs sl st).bind fun ys st => .ok (Rf st.length) (st ++ [.lst ys])
theorem SR.wipes {K : PySem.W.Frag} (vs : List Nat) (s : SR K W sh sl) : SR K W (L2.wipe sh vs) (wipeD sl vs) := by
  refine ⟨by rw [wipe_length, wipeD_length]; exact s.len, fun i d h => ?_⟩
  obtain ⟨h1, h2⟩ := wipeD_some h
  obtain ⟨v, hv, r⟩ := s.at_ i d h1
  refine ⟨v, ?_, r⟩
  have key : ∀ vs : List Nat, i ∉ vs → (L2.wipe sh vs)[i]? = sh[i]? := by
    intro vs
    induction vs with
    | nil => intro _; rfl
    | cons u us ih =>
      intro hu
      unfold L2.wipe
      rw [List.getElem?_set_ne (fun z => hu (by rw [z]; exact List.mem_cons_self))]
      exact ih fun z => hu (List.mem_cons_of_mem _ z)
  rw [key vs h2]; exact hv
/-- the loop: what is kept of the list that is being made at Dd -/
theorem lc_loop {J : It} {s : Src} {t : CT} {tt : MT} {te : M} {vs : List Nat} {Q : VK} {W1 : Wd} {H1 : Hp} {st1 st2 : Sto} {ys : List Pv.D} (hin : ctIn t vs = true) (h1 : HR N.K W1 H1 st1) (s1 : SR N.K W1 sh sl) (wk : WalkK N.K J W1 s)
    (e : lcL s.keep t tt te (wipeD sl vs) s.items st1 = .ok ys st2) (hz : ys.length ≤ sizeLine) {Dd : Addr} (hD : H1 Dd = none)
    (fin : ∀ W2 H2 xs, (∀ b o, W1.F b = some o → W2.F b = some o) → (∃ r, W2.rho = W1.rho ++ r ∧ ∀ a ∈ r, H1 a = none) → (∀ b o, H1 b = some o → b ∉ W1.rho → H2 b = some o) → (∀ b, H2 b = none → H1 b = none) → (∀ b o, W2.F b = some o → W1.F b = some o ∨ H1 b = none) →
      HR N.K W2 H2 st2 → H2 Dd = some (.lst xs) → Dd ∉ W2.rho → W2.F Dd = none → repL N.K W2 xs ys → Q (.ref Dd) H2) :
    ∃ Wv : Nat → Nat → Hp → Prop, (∃ m, Wv 0 m (upd H1 Dd (.lst []))) ∧ ∀ i m H, Wv i m H →
      (J.stop i H ∧ Q (.ref Dd) H) ∨ (J.go i H ∧ ∃ Nx : Hp → Prop, (∀ H', Nx H' → ∃ m', m' < m ∧ Wv (i + 1) m' H') ∧ ∀ x H', J.yld i H x H' → gct N.K t x (wipe sh vs) H' fun σ2 H2 => wipe σ2 vs = wipe sh vs ∧ rdT N (fun _ _ _ _ => False) tt σ2 H2 fun b H3 =>
        if b = true then rd N (fun _ _ _ _ => False) te σ2 H3 fun y H4 => ∃ acc, H4 Dd = some (.lst acc) ∧ acc.length < sizeLine ∧ Nx (upd H4 Dd (.lst (acc ++ [y]))) else Nx H3) := by
  -- what holds between two turns
  let P : Nat → Hp → Prop := fun i H => ∃ (W2 : Wd) (st : Sto) (xs : List V) (ds zs : List Pv.D), (∀ b o, W1.F b = some o → W2.F b = some o) ∧ (∃ r, W2.rho = W1.rho ++ r ∧ ∀ a ∈ r, H1 a = none) ∧ (∀ b o, H1 b = some o → b ∉ W1.rho → H b = some o) ∧ (∀ b, H b = none → H1 b = none) ∧
    (∀ b o, W2.F b = some o → W1.F b = some o ∨ H1 b = none) ∧ HR N.K W2 H st ∧ H Dd = some (.lst xs) ∧ Dd ∉ W2.rho ∧ W2.F Dd = none ∧ repL N.K W2 xs ds ∧ lcL s.keep t tt te (wipeD sl vs) (s.items.drop i) st = .ok zs st2 ∧ ds ++ zs = ys
  have at1 : ∀ W2 : Wd, (∃ r, W2.rho = W1.rho ++ r ∧ ∀ a ∈ r, H1 a = none) → ∀ (r : Nat) a, W1.rho[r]? = some a → W2.rho[r]? = some a := fun W2 ⟨q, hq, _⟩ r a h => by
    rw [hq, List.getElem?_append_left (List.getElem?_eq_some_iff.mp h).1]; exact h
  have hDr : Dd ∉ W1.rho := h1.free hD
  -- a step of the heap that leaves Dd as it is
  have keepD : ∀ {W2 W3 : Wd} {H2 H3 : Hp} {o : HO}, Ext W2 H2 W3 H3 → H2 Dd = some o → Dd ∉ W2.rho → W2.F Dd = none → H3 Dd = some o ∧ Dd ∉ W3.rho ∧ W3.F Dd = none := fun {W2 W3 H2 H3 o} x h2 hn hF => by
    refine ⟨x.out _ _ h2 hn, ?_, ?_⟩
    · obtain ⟨r, hr, hm⟩ := x.rh
      rw [hr]
      intro z
      rcases List.mem_append.mp z with z | z
      · exact hn z
      · rw [hm _ z] at h2; cases h2
    · cases q : W3.F Dd with
      | none => rfl
      | some u =>
        rcases x.nf _ _ q with z | z
        · rw [hF] at z; cases z
        · rw [h2] at z; cases z
  have chain : ∀ {W2 W3 : Wd} {H2 H3 : Hp}, Ext W2 H2 W3 H3 → (∀ b o, W1.F b = some o → W2.F b = some o) → (∃ r, W2.rho = W1.rho ++ r ∧ ∀ a ∈ r, H1 a = none) → (∀ b o, H1 b = some o → b ∉ W1.rho → H2 b = some o) → (∀ b, H2 b = none → H1 b = none) → (∀ b o, W2.F b = some o → W1.F b = some o ∨ H1 b = none) →
      (∀ b o, W1.F b = some o → W3.F b = some o) ∧ (∃ r, W3.rho = W1.rho ++ r ∧ ∀ a ∈ r, H1 a = none) ∧ (∀ b o, H1 b = some o → b ∉ W1.rho → H3 b = some o) ∧ (∀ b, H3 b = none → H1 b = none) ∧ (∀ b o, W3.F b = some o → W1.F b = some o ∨ H1 b = none) := fun {W2 W3 H2 H3} x a b c d f => by
    have y : Ext W1 H1 W2 H2 := ⟨a, b, c, d, f⟩
    have z := y.trans x
    exact ⟨z.fr, z.rh, z.out, z.non, z.nf⟩
  refine ⟨fun i m H => i ≤ s.items.length ∧ m = s.items.length - i ∧ P i H, ⟨_, Nat.zero_le _, rfl, ⟨W1, st1, [], [], ys, fun _ _ z => z, ⟨[], by simp, fun _ z => by cases z⟩, fun b o z hb => ?_, fun b z => ?_, fun _ _ z => .inl z, ?_, upd_same, hDr, h1.freeF hD, rfl, by simpa using e, rfl⟩⟩, ?_⟩
  · have hb' : b ≠ Dd := fun w => by subst w; rw [hD] at z; cases z
    rw [upd_ne hb']; exact z
  · by_cases hb' : b = Dd
    · subst hb'; exact hD
    · rw [upd_ne hb'] at z; exact z
  · refine ⟨h1.len, h1.nd, fun b u q => ?_, fun r b m' q1 q2 => ?_⟩
    · have hb' : b ≠ Dd := fun w => by subst w; rw [h1.freeF hD] at q; cases q
      rw [upd_ne hb']; exact h1.sub _ _ q
    · have hb' : b ≠ Dd := fun w => hDr (by rw [← w]; exact List.mem_of_getElem? q1)
      obtain ⟨p, q⟩ := h1.obj r b m' q1 q2
      exact ⟨p, repO_mono (W := W1) (fun _ _ z => z) (fun _ _ z => z) (fun u z => by rw [upd_ne hb']; exact z) q⟩
  rintro i m H ⟨hi, hm, W2, st, xs, ds, zs, f1, f2, f3, f4, f5, h2, hx, hn, hF, l, el, ed⟩
  have hk : s.keep st := by
    cases q : s.items.drop i with
    | nil => rw [q] at el; unfold lcL at el; by_cases z : s.keep st; exact z; rw [if_neg z] at el; cases el
    | cons d r => rw [q] at el; unfold lcL at el; by_cases z : s.keep st; exact z; rw [if_neg z] at el; cases el
  obtain ⟨stp, go⟩ := wk W2 H st h2 f1 (at1 W2 f2) hk
  by_cases hlt : i < s.items.length
  · obtain ⟨gi, yi⟩ := go i _ (List.getElem?_eq_getElem hlt)
    refine .inr ⟨gi, P (i + 1), fun H' p' => ⟨s.items.length - (i + 1), by omega, hlt, rfl, p'⟩, fun x H3 y => ?_⟩
    obtain ⟨W3, x3, h3, rx⟩ := yi x H3 y
    obtain ⟨a1, a2, a3, a4, a5⟩ := chain x3 f1 f2 f3 f4 f5
    obtain ⟨d1, d2, d3⟩ := keepD x3 hx hn hF
    rw [List.drop_eq_getElem_cons hlt] at el
    unfold lcL at el
    rw [if_pos hk] at el
    cases e1 : ctSet t s.items[i] (wipeD sl vs) with
    | none => rw [e1] at el; cases el
    | some sl2 =>
      rw [e1] at el
      simp only at el
      have s3 : SR N.K W3 (wipe sh vs) (wipeD sl vs) := SR.wipes vs ⟨s1.len, fun j d q => let ⟨v, a, b⟩ := s1.at_ j d q; ⟨v, a, rep_mono a1 (at1 W3 a2) d b⟩⟩
      refine ct_run hin h3 s3 rx e1 _ fun sh2 s4 l4 w4 => ?_
      rw [wipe_wipe vs vs fun _ z => z] at w4
      refine ⟨w4, W3, sl2, st, h3, s4, ?_⟩
      cases e2 : tt sl2 st with
      | bad => rw [e2] at el; cases el
      | exc _ _ => rw [e2] at el; cases el
      | ok b st3 =>
        rw [e2] at el
        intro W4 H4 x4 h4
        obtain ⟨b1, b2, b3, b4, b5⟩ := chain x4 a1 a2 a3 a4 a5
        obtain ⟨c1, c2, c3⟩ := keepD x4 d1 d2 d3
        cases b with
        | false =>
          simp only [Bool.false_eq_true, if_false]
          exact ⟨W4, st3, xs, ds, zs, b1, b2, b3, b4, b5, h4, c1, c2, c3, x4.repL (x3.repL l), el, ed⟩
        | true =>
          simp only [if_true]
          refine ⟨W4, sl2, st3, h4, s4.ext x4, ?_⟩
          simp only at el
          cases e3 : te sl2 st3 with
          | bad => rw [e3] at el; cases el
          | exc _ _ => rw [e3] at el; cases el
          | ok yd st4 =>
            rw [e3] at el
            simp only at el
            intro W5 v5 H5 x5 h5 r5
            obtain ⟨g1, g2, g3, g4, g5⟩ := chain x5 b1 b2 b3 b4 b5
            obtain ⟨k1, k2, k3⟩ := keepD x5 c1 c2 c3
            split at el
            · rename_i zs' st5 e4
              cases el
              have l5 : repL N.K W5 xs ds := x5.repL (x4.repL (x3.repL l))
              have hlen : xs.length < sizeLine := by
                rw [repL_length l5]
                have := congrArg List.length ed
                simp only [List.length_append, List.length_cons] at this
                omega
              refine ⟨xs, k1, hlen, W5, st4, xs ++ [v5], ds ++ [yd], zs', g1, g2, fun b o z hb => ?_, fun b z => ?_, g5, ?_, upd_same, k2, k3, repL_append l5 (repL_one r5), e4, by rw [← ed]; simp⟩
              · have hb' : b ≠ Dd := fun w => by subst w; rw [hD] at z; cases z
                rw [upd_ne hb']; exact g3 b o z hb
              · by_cases hb' : b = Dd
                · subst hb'; exact hD
                · rw [upd_ne hb'] at z; exact g4 b z
              · refine ⟨h5.len, h5.nd, fun b u q => ?_, fun r b m' q1 q2 => ?_⟩
                · have hb' : b ≠ Dd := fun w => by subst w; rw [k3] at q; cases q
                  rw [upd_ne hb']; exact h5.sub _ _ q
                · have hb' : b ≠ Dd := fun w => k2 (by rw [← w]; exact List.mem_of_getElem? q1)
                  obtain ⟨p, q⟩ := h5.obj r b m' q1 q2
                  exact ⟨p, repO_mono (W := W5) (fun _ _ z => z) (fun _ _ z => z) (fun u z => by rw [upd_ne hb']; exact z) q⟩
            · cases el
  · have ei : i = s.items.length := by omega
    subst ei
    rw [List.drop_length] at el
    unfold lcL at el
    rw [if_pos hk] at el
    cases el
    rw [List.append_nil] at ed
    subst ed
    exact .inl ⟨stp, fin W2 H xs f1 f2 f3 f4 f5 h2 hx hn hF l⟩
theorem lc_read {mi : MI} {t : CT} {tt : MT} {te : M} {vs : List Nat} {Q : VK} {f : List Pv.D → Sto → R Pv.D} (hin : ctIn t vs = true) (hr : HR N.K W H st) (hs : SR N.K W sh sl)
    (p : Post N W H Q (fun cls dd H' => Wx cls dd sh H') ((lcR mi t tt te vs sl st).bind f))
    (k : ∀ ys st2 W1 H1 Dd xs, Ext W H W1 H1 → HR N.K W1 H1 st2 → H1 Dd = some (.lst xs) → H Dd = none → Dd ∉ W1.rho → W1.F Dd = none → repL N.K W1 xs ys → Post N W H Q (fun cls dd H' => Wx cls dd sh H') (f ys st2) → Q (.ref Dd) H1) :
    tLc (fun sh H R => rdI N Wx mi sh H R) (gct N.K t) (rdT N (fun _ _ _ _ => False) tt) (rd N (fun _ _ _ _ => False) te) vs sh H Q := by
  refine ⟨W, sl, st, hr, hs, ?_⟩
  unfold lcR at p
  cases e : mi sl st with
  | bad => rw [e] at p; exact p
  | exc x s2 => rw [e] at p; exact p
  | ok s st1 =>
    rw [e] at p
    simp only [R.bind_ok] at p
    intro W1 H1 J x1 h1 wk Dd hD
    cases e2 : lcL s.keep t tt te (wipeD sl vs) s.items st1 with
    | bad => rw [e2] at p; exact p.elim
    | exc _ _ =>
      exfalso
      have key : ∀ (ds : List Pv.D) (st : Sto) (x : XV) (s2 : Sto), lcL s.keep t tt te (wipeD sl vs) ds st ≠ .exc x s2 := by
        intro ds
        induction ds with
        | nil => intro st x s2; unfold lcL; split <;> simp
        | cons d ds ih =>
          intro st x s2
          unfold lcL
          split
          · split
            · simp
            · split
              · split
                · split <;> simp
                · simp
              · exact ih _ _ _
              · simp
          · simp
      exact key _ _ _ _ e2
    | ok ys st2 =>
      rw [e2] at p
      simp only [R.bind_ok] at p
      split at p
      · rename_i hz
        simp only [R.bind_ok] at p
        refine lc_loop hin h1 (hs.ext x1) wk e2 hz hD fun W2 H2 xs f1 f2 f3 f4 f5 h2 hx hn hF l => ?_
        exact k ys st2 W2 H2 Dd xs (x1.trans ⟨f1, f2, f3, f4, f5⟩) h2 hx (x1.non _ hD) hn hF l p
      · exact p.elim

theorem Gd.blk (g : Gd X) {s : Shared} {H : Hp} {scope : Scope} {env : Env} {fp : List Addr} : Gd (X.blk s H scope env fp) := ⟨g.calm, g.nd, g.un, g.gu⟩
/-- nothing is raised inside a block -/
abbrev WF : WX := fun _ _ _ _ => False
/-- a block's context -/
abbrev Bk (X : Cx) (scope : Scope) (s : Shared) (H : Hp) (C : Addr) (cl : List (Str × Addr)) (fp : List Addr) : Cx := X.blk s H scope (compEnvC scope cl C X.env) fp
def GTs (X : Cx) (Wx : WX) (ifs : List Expr) (m : MT) : Prop := PTs X ifs (rdT (nv X) Wx m)
theorem gts_nil : GTs X Wx [] tYesM := ⟨fun pins s σ H Q I ⟨W, sl, st, hr, hs, p⟩ => pts_nil.run pins s σ H Q I (p W H .refl hr)⟩
theorem gts_one {c : Expr} {t : MT} (h : GT X Wx c t) : GTs X Wx [c] t := pts_one h
section
variable {elt kx tg iter : Expr} {ifs : List Expr} {scope : Scope} {own : List (Str × Nat)} {pos : Pos} {mi : MI} {t : CT} {tt : MT} {te tk : M}
theorem ge_lc (own : List (Str × Nat)) (t : CT) (g : Gd X) (hi : GI X Wx tg iter mi) (ok : BlkOk X.N X.env.scope scope own)
    (hg : ∀ s H C cl fp, Gd (Bk X scope s H C cl fp) → PG (Bk X scope s H C cl fp) tg (gct X.K t)) (ht : ∀ s H C cl fp, Gd (Bk X scope s H C cl fp) → GTs (Bk X scope s H C cl fp) WF ifs tt)
    (he : ∀ s H C cl fp, Gd (Bk X scope s H C cl fp) → GE (Bk X scope s H C cl fp) WF elt te) (hin : ctIn t (own.map (·.2)) = true := by rfl) (hs : ∀ x, foldedSetIterable iter X.env x = pure x := by intro _; rfl) :
    GE X Wx (.ListComp elt [⟨tg, iter, ifs, 0⟩] scope pos) (mLc mi t tt te (own.map (·.2))) := by
  refine PE.imp (pe_lc (tt := rdT (nv X) WF tt) (te := rd (nv X) WF te) g.calm g.nd hi ok (fun s H C cl fp => hg s H C cl fp g.blk) (fun s H C cl fp => ht s H C cl fp g.blk) (fun s H C cl fp => he s H C cl fp g.blk) hs) fun sh H Q ⟨W, sl, st, hr, hs, p⟩ => ?_
  refine lc_read hin hr hs p fun ys st2 W1 H1 Dd xs x1 h1 hD hn0 hn hF l p1 => ?_
  have h2 := HR.keepF h1 hD hn hF
  have x2 : Ext W H ⟨upd W1.F Dd (.lst xs), W1.rho⟩ H1 := by
    refine ⟨fun b o e => ?_, x1.rh, x1.out, x1.non, fun b o e => ?_⟩
    · show upd W1.F Dd (.lst xs) b = some o
      by_cases hb : b = Dd
      · subst hb; rw [x1.fr _ _ e] at hF; cases hF
      · rw [upd_ne hb]; exact x1.fr _ _ e
    · have e' : upd W1.F Dd (.lst xs) b = some o := e
      by_cases hb : b = Dd
      · subst hb; exact .inr hn0
      · rw [upd_ne hb] at e'; exact x1.nf _ _ e'
  refine p1 _ (.ref Dd) H1 x2 h2 ⟨Dd, xs, rfl, upd_same, repL_mono (W := W1) (W' := ⟨upd W1.F Dd (.lst xs), W1.rho⟩) (fun b o e => ?_) (fun _ _ z => z) ys l⟩
  show upd W1.F Dd (.lst xs) b = some o
  by_cases hb : b = Dd
  · subst hb; rw [hF] at e; cases e
  · rw [upd_ne hb]; exact e
/-- the list is an object of the store -/
theorem lcM_fin {ys : List Pv.D} {st2 : Sto} {W1 : Wd} {H1 : Hp} {Dd : Addr} {xs : List V} (x1 : Ext W H W1 H1) (h1 : HR N.K W1 H1 st2) (hD : H1 Dd = some (.lst xs)) (hn0 : H Dd = none) (hn : Dd ∉ W1.rho) (hF : W1.F Dd = none) (l : repL N.K W1 xs ys) :
    HR N.K ⟨W1.F, W1.rho ++ [Dd]⟩ H1 (st2 ++ [.lst ys]) ∧ Ext W H ⟨W1.F, W1.rho ++ [Dd]⟩ H1 ∧ rep N.K ⟨W1.F, W1.rho ++ [Dd]⟩ (.ref Dd) (Rf st2.length) := by
  have l2 : repL N.K ⟨W1.F, W1.rho ++ [Dd]⟩ xs ys := repL_mono (W := W1) (W' := ⟨W1.F, W1.rho ++ [Dd]⟩) (fun _ _ z => z) (fun r b z => by
    show (W1.rho ++ [Dd])[r]? = some b
    rw [List.getElem?_append_left (List.getElem?_eq_some_iff.mp z).1]; exact z) ys l
  refine ⟨HR.keepM h1 hn hF ⟨xs, hD, l2⟩, ⟨x1.fr, ?_, x1.out, x1.non, x1.nf⟩, ⟨st2.length, Dd, rfl, rfl, ?_⟩⟩
  · obtain ⟨r, e, hm⟩ := x1.rh
    refine ⟨r ++ [Dd], by show W1.rho ++ [Dd] = _; rw [e, List.append_assoc], fun a ha => ?_⟩
    rcases List.mem_append.mp ha with z | z
    · exact hm a z
    · have : a = Dd := by simpa using z
      rw [this]; exact hn0
  · show (W1.rho ++ [Dd])[st2.length]? = some Dd
    rw [← h1.len]; simp
theorem ge_lcM (own : List (Str × Nat)) (t : CT) (g : Gd X) (hi : GI X Wx tg iter mi) (ok : BlkOk X.N X.env.scope scope own)
    (hg : ∀ s H C cl fp, Gd (Bk X scope s H C cl fp) → PG (Bk X scope s H C cl fp) tg (gct X.K t)) (ht : ∀ s H C cl fp, Gd (Bk X scope s H C cl fp) → GTs (Bk X scope s H C cl fp) WF ifs tt)
    (he : ∀ s H C cl fp, Gd (Bk X scope s H C cl fp) → GE (Bk X scope s H C cl fp) WF elt te) (hin : ctIn t (own.map (·.2)) = true := by rfl) (hs : ∀ x, foldedSetIterable iter X.env x = pure x := by intro _; rfl) :
    GE X Wx (.ListComp elt [⟨tg, iter, ifs, 0⟩] scope pos) (mLcM mi t tt te (own.map (·.2))) := by
  refine PE.imp (pe_lc (tt := rdT (nv X) WF tt) (te := rd (nv X) WF te) g.calm g.nd hi ok (fun s H C cl fp => hg s H C cl fp g.blk) (fun s H C cl fp => ht s H C cl fp g.blk) (fun s H C cl fp => he s H C cl fp g.blk) hs) fun sh H Q ⟨W, sl, st, hr, hs, p⟩ => ?_
  refine lc_read hin hr hs p fun ys st2 W1 H1 Dd xs x1 h1 hD hn0 hn hF l p1 => ?_
  obtain ⟨a, b, c⟩ := lcM_fin x1 h1 hD hn0 hn hF l
  exact p1 _ (.ref Dd) H1 b a c

theorem post_asg {m : M} {i : Nat} {D : Ends} (hs : SR N.K W sh sl) (p : PostS N sh.length Wx W H D (sAsg m (tgName i) sl st)) : Post N W H (fun v H1 => D.nx (sh.set i (some v)) H1) (fun cls dd H' => Wx cls dd sh H') (m sl st) := by
  unfold sAsg at p
  cases e : m sl st with
  | bad => rw [e] at p; exact p
  | exc x s2 => rw [e] at p; exact fun W1 c dd H1 x1 a b => p W1 sh c dd H1 rfl x1 a b
  | ok d st1 =>
    rw [e] at p
    exact fun W1 v H1 x1 h1 r1 => p W1 _ H1 (by simp) x1 h1 ((hs.ext x1).set i r1)
/-- name = [..] on one line, the name a local -/
theorem gs_setLc {i : Nat} {y : Str} {py spos : Pos} (own : List (Str × Nat)) (t : CT) (g : Gd X) (hy : X.N[i]? = some y) (hyl : X.env.scope.names.lookup y = some .local)
    (hsw : swapsWith (.ListComp elt [⟨tg, iter, ifs, 0⟩] scope pos) (some (.Name y py)) spos.line X.env = pure true) (hi : GI X Wx tg iter mi) (ok : BlkOk X.N X.env.scope scope own)
    (hg : ∀ s H C cl fp, Gd (Bk X scope s H C cl fp) → PG (Bk X scope s H C cl fp) tg (gct X.K t)) (ht : ∀ s H C cl fp, Gd (Bk X scope s H C cl fp) → GTs (Bk X scope s H C cl fp) WF ifs tt)
    (he : ∀ s H C cl fp, Gd (Bk X scope s H C cl fp) → GE (Bk X scope s H C cl fp) WF elt te) (hin : ctIn t (own.map (·.2)) = true := by rfl) (hs : ∀ x, foldedSetIterable iter X.env x = pure x := by intro _; rfl) :
    GS X Wx (.Assign [.Name y py] (.ListComp elt [⟨tg, iter, ifs, 0⟩] scope pos) spos) (sAsg (mLc mi t tt te (own.map (·.2))) (tgName i)) := by
  refine PS.imp (ps_setLc (tt := rdT (nv X) WF tt) (te := rd (nv X) WF te) g.calm g.nd hy hyl hsw hi ok (fun s H C cl fp => hg s H C cl fp g.blk) (fun s H C cl fp => ht s H C cl fp g.blk) (fun s H C cl fp => he s H C cl fp g.blk) hs) fun D sh H ⟨W, sl, st, hr, hs, p⟩ => ?_
  refine lc_read (Q := fun v H1 => gName i v sh H1 D.nx) hin hr hs (post_asg hs p) fun ys st2 W1 H1 Dd xs x1 h1 hD hn0 hn hF l p1 => ?_
  have h2 := HR.keepF h1 hD hn hF
  have x2 : Ext W H ⟨upd W1.F Dd (.lst xs), W1.rho⟩ H1 := by
    refine ⟨fun b o e => ?_, x1.rh, x1.out, x1.non, fun b o e => ?_⟩
    · show upd W1.F Dd (.lst xs) b = some o
      by_cases hb : b = Dd
      · subst hb; rw [x1.fr _ _ e] at hF; cases hF
      · rw [upd_ne hb]; exact x1.fr _ _ e
    · have e' : upd W1.F Dd (.lst xs) b = some o := e
      by_cases hb : b = Dd
      · subst hb; exact .inr hn0
      · rw [upd_ne hb] at e'; exact x1.nf _ _ e'
  refine p1 _ (.ref Dd) H1 x2 h2 ⟨Dd, xs, rfl, upd_same, repL_mono (W := W1) (W' := ⟨upd W1.F Dd (.lst xs), W1.rho⟩) (fun b o e => ?_) (fun _ _ z => z) ys l⟩
  show upd W1.F Dd (.lst xs) b = some o
  by_cases hb : b = Dd
  · subst hb; rw [hF] at e; cases e
  · rw [upd_ne hb]; exact e
theorem gs_setLcM {i : Nat} {y : Str} {py spos : Pos} (own : List (Str × Nat)) (t : CT) (g : Gd X) (hy : X.N[i]? = some y) (hyl : X.env.scope.names.lookup y = some .local)
    (hsw : swapsWith (.ListComp elt [⟨tg, iter, ifs, 0⟩] scope pos) (some (.Name y py)) spos.line X.env = pure true) (hi : GI X Wx tg iter mi) (ok : BlkOk X.N X.env.scope scope own)
    (hg : ∀ s H C cl fp, Gd (Bk X scope s H C cl fp) → PG (Bk X scope s H C cl fp) tg (gct X.K t)) (ht : ∀ s H C cl fp, Gd (Bk X scope s H C cl fp) → GTs (Bk X scope s H C cl fp) WF ifs tt)
    (he : ∀ s H C cl fp, Gd (Bk X scope s H C cl fp) → GE (Bk X scope s H C cl fp) WF elt te) (hin : ctIn t (own.map (·.2)) = true := by rfl) (hs : ∀ x, foldedSetIterable iter X.env x = pure x := by intro _; rfl) :
    GS X Wx (.Assign [.Name y py] (.ListComp elt [⟨tg, iter, ifs, 0⟩] scope pos) spos) (sAsg (mLcM mi t tt te (own.map (·.2))) (tgName i)) := by
  refine PS.imp (ps_setLc (tt := rdT (nv X) WF tt) (te := rd (nv X) WF te) g.calm g.nd hy hyl hsw hi ok (fun s H C cl fp => hg s H C cl fp g.blk) (fun s H C cl fp => ht s H C cl fp g.blk) (fun s H C cl fp => he s H C cl fp g.blk) hs) fun D sh H ⟨W, sl, st, hr, hs, p⟩ => ?_
  refine lc_read (Q := fun v H1 => gName i v sh H1 D.nx) hin hr hs (post_asg hs p) fun ys st2 W1 H1 Dd xs x1 h1 hD hn0 hn hF l p1 => ?_
  obtain ⟨a, b, c⟩ := lcM_fin x1 h1 hD hn0 hn hF l
  exact p1 _ (.ref Dd) H1 b a c
end
end
end Pv
set_option Elab.async false
set_option linter.all false
set_option maxRecDepth 100000
set_option maxHeartbeats 4000000
namespace Pv
open PySem PySem.Spec L2
open PyProof.Rows hiding St

/-! ### at a def's end: the objects that it made become data -/
mutual
def fz (g : Nat → Option Pv.D) : Pv.D → Option Pv.D
  | .list ds => (fzL g ds).map .list
  | .tuple ds => (fzL g ds).map .tuple
  | .dict [(.int i, .none)] => g i.toNat
  | .dict [(.none, .tuple ds)] => (fzL g ds).map Gc
  | .dict [(.none, .list ds)] => (fzL g ds).map Gs
  | .dict _ => none
  | .none => some .none
  | .bool b => some (.bool b)
  | .int i => some (.int i)
  | .str x => some (.str x)
def fzL (g : Nat → Option Pv.D) : List Pv.D → Option (List Pv.D)
  | [] => some []
  | d :: ds => (fz g d).bind fun e => (fzL g ds).map (e :: ·)
end
def lookF : Nat → Nat → Sto → Nat → Option Pv.D
  | k, n, st, r => if r < n then some (Rf r) else match k with
    | 0 => none
    | k + 1 => match st[r]? with
      | some (.lst ds) => (fzL (lookF k n st) ds).map .list
      | _ => none
def fzP {κ : Type} (g : Nat → Option Pv.D) : List (κ × Pv.D) → Option (List (κ × Pv.D))
  | [] => some []
  | p :: ps => (fz g p.2).bind fun e => (fzP g ps).map ((p.1, e) :: ·)
def fzO (g : Nat → Option Pv.D) : MO → Option MO
  | .lst ds => (fzL g ds).map .lst
  | .ro ds => (fzL g ds).map .ro
  | .dct kvs => (fzP g kvs).map .dct
  | .dctT kvs => (fzP g kvs).map .dctT
def fzS (g : Nat → Option Pv.D) : Sto → Option Sto
  | [] => some []
  | m :: ms => (fzO g m).bind fun e => (fzS g ms).map (e :: ·)
def finR (n : Nat) (r : R Pv.D) : R Pv.D :=
  match r with
  | .ok d st => if st.length = n then .ok d st else (match fz (lookF 6 n st) d, fzS (lookF 6 n st) (st.take n) with | some d', some st' => .ok d' st' | _, _ => .bad)
  | .exc x st => if st.length = n then .exc x st else (match fzP (lookF 6 n st) x.2, fzS (lookF 6 n st) (st.take n) with | some fs, some st' => .exc (x.1, fs) st' | _, _ => .bad)
  | .bad => .bad
section
variable {K : PySem.W.Frag} {W W' W1 W2 : Wd} {H H1 : Hp} {st st1 : Sto} {g : Nat → Option Pv.D}
mutual
theorem fz_rep (hg : ∀ r a e, W1.rho[r]? = some a → g r = some e → rep K W2 (.ref a) e) (hF : ∀ b o, W1.F b = some o → W2.F b = some o) : ∀ (d : Pv.D) (v : V) (e : Pv.D), rep K W1 v d → fz g d = some e → rep K W2 v e
  | .none, _, _, h, q => by cases q; exact h
  | .bool _, _, _, h, q => by cases q; exact h
  | .int _, _, _, h, q => by cases q; exact h
  | .str _, _, _, h, q => by cases q; exact h
  | .list ds, _, _, ⟨a, xs, e1, e2, l⟩, q => by
    obtain ⟨es, q1, q2⟩ := Option.map_eq_some_iff.mp q
    subst q2
    exact ⟨a, xs, e1, hF _ _ e2, fzL_rep hg hF ds xs es l q1⟩
  | .tuple ds, _, _, ⟨a, xs, e1, e2, l⟩, q => by
    obtain ⟨es, q1, q2⟩ := Option.map_eq_some_iff.mp q
    subst q2
    exact ⟨a, xs, e1, hF _ _ e2, fzL_rep hg hF ds xs es l q1⟩
  | .dict [(.int i, .none)], _, _, ⟨r, a, e1, e2, e3⟩, q => by
    subst e1; subst e2
    exact hg r a _ e3 q
  | .dict [(.none, .tuple ds)], _, _, ⟨a, xs, e1, e2, l⟩, q => by
    obtain ⟨es, q1, q2⟩ := Option.map_eq_some_iff.mp q
    subst q2
    exact ⟨a, xs, e1, e2, fzL_rep hg hF ds xs es l q1⟩
  | .dict [(.none, .list ds)], _, _, ⟨a, xs, e1, e2, l⟩, q => by
    obtain ⟨es, q1, q2⟩ := Option.map_eq_some_iff.mp q
    subst q2
    exact ⟨a, xs, e1, sqL_mono hF e2, fzL_rep hg hF ds xs es l q1⟩
theorem fzL_rep (hg : ∀ r a e, W1.rho[r]? = some a → g r = some e → rep K W2 (.ref a) e) (hF : ∀ b o, W1.F b = some o → W2.F b = some o) : ∀ (ds : List Pv.D) (vs : List V) (es : List Pv.D), repL K W1 vs ds → fzL g ds = some es → repL K W2 vs es
  | [], _, _, h, q => by cases q; exact h
  | d :: ds, _, _, ⟨v, us, e1, r, l⟩, q => by
    obtain ⟨e, q1, q2⟩ := Option.bind_eq_some_iff.mp q
    obtain ⟨es, q3, q4⟩ := Option.map_eq_some_iff.mp q2
    subst q4
    exact ⟨v, us, e1, fz_rep hg hF d v e r q1, fzL_rep hg hF ds us es l q3⟩
end
theorem fzP_rep {κ : Type} (hg : ∀ r a e, W1.rho[r]? = some a → g r = some e → rep K W2 (.ref a) e) (hF : ∀ b o, W1.F b = some o → W2.F b = some o) {ks : List (κ × V)} {kvs es : List (κ × Pv.D)} (h : repP K W1 ks kvs) (q : fzP g kvs = some es) : repP K W2 ks es := by
  induction h generalizing es with
  | nil => cases q; exact .nil
  | cons h _ ih =>
    obtain ⟨e, q1, q2⟩ := Option.bind_eq_some_iff.mp q
    obtain ⟨es', q3, q4⟩ := Option.map_eq_some_iff.mp q2
    subst q4
    exact .cons ⟨h.1, fz_rep hg hF _ _ _ h.2 q1⟩ (ih q3)
theorem fzO_rep (hg : ∀ r a e, W1.rho[r]? = some a → g r = some e → rep K W2 (.ref a) e) (hF : ∀ b o, W1.F b = some o → W2.F b = some o) {a : Addr} {m m' : MO} (h : repO K W1 H a m) (q : fzO g m = some m') : repO K W2 H a m' := by
  cases m with
  | lst ds => obtain ⟨es, q1, q2⟩ := Option.map_eq_some_iff.mp q; subst q2; obtain ⟨xs, h1, h2⟩ := h; exact ⟨xs, h1, fzL_rep hg hF _ _ _ h2 q1⟩
  | ro ds => obtain ⟨es, q1, q2⟩ := Option.map_eq_some_iff.mp q; subst q2; obtain ⟨o, xs, h1, h2⟩ := h; exact ⟨o, xs, h1, fzL_rep hg hF _ _ _ h2 q1⟩
  | dct ds => obtain ⟨es, q1, q2⟩ := Option.map_eq_some_iff.mp q; subst q2; obtain ⟨xs, h1, h2⟩ := h; exact ⟨xs, h1, fzP_rep hg hF h2 q1⟩
  | dctT ds => obtain ⟨es, q1, q2⟩ := Option.map_eq_some_iff.mp q; subst q2; obtain ⟨xs, h1, h2⟩ := h; exact ⟨xs, h1, fzP_rep hg hF h2 q1⟩
theorem fzS_get {ms ms' : Sto} (q : fzS g ms = some ms') : ms'.length = ms.length ∧ ∀ (r : Nat) (m' : MO), ms'[r]? = some m' → ∃ m, ms[r]? = some m ∧ fzO g m = some m' := by
  induction ms generalizing ms' with
  | nil => cases q; exact ⟨rfl, fun r m' h => by simp at h⟩
  | cons m ms ih =>
    obtain ⟨e, q1, q2⟩ := Option.bind_eq_some_iff.mp q
    obtain ⟨es, q3, q4⟩ := Option.map_eq_some_iff.mp q2
    subst q4
    obtain ⟨l, f⟩ := ih q3
    refine ⟨by simp [l], fun r m' h => ?_⟩
    cases r with
    | zero => simp at h; subst h; exact ⟨m, rfl, q1⟩
    | succ r => exact f r m' (by simpa using h)
/-- the world behind a def's end -/
def finW (n : Nat) (H : Hp) (W : Wd) : Wd := ⟨fun b => if b ∈ W.rho.drop n then H b else W.F b, W.rho.take n⟩
theorem finW_F (h : HR K W1 H1 st1) {n : Nat} : ∀ b o, W1.F b = some o → (finW n H1 W1).F b = some o := fun b o e => by
  show (if b ∈ W1.rho.drop n then H1 b else W1.F b) = some o
  split
  · exact h.sub _ _ e
  · exact e
theorem lookF_rep (h : HR K W1 H1 st1) {n : Nat} : ∀ (k : Nat) (r : Nat) (a : Addr) (e : Pv.D), W1.rho[r]? = some a → lookF k n st1 r = some e → rep K (finW n H1 W1) (.ref a) e := by
  intro k
  induction k with
  | zero =>
    intro r a e hr q
    unfold lookF at q
    split at q
    · rename_i hlt
      cases q
      exact ⟨r, a, rfl, rfl, by show (W1.rho.take n)[r]? = some a; rw [List.getElem?_take_of_lt hlt]; exact hr⟩
    · cases q
  | succ k ih =>
    intro r a e hr q
    unfold lookF at q
    split at q
    · rename_i hlt
      cases q
      exact ⟨r, a, rfl, rfl, by show (W1.rho.take n)[r]? = some a; rw [List.getElem?_take_of_lt hlt]; exact hr⟩
    · rename_i hlt
      simp only at q
      split at q
      · rename_i ds hd
        obtain ⟨es, q1, q2⟩ := Option.map_eq_some_iff.mp q
        subst q2
        obtain ⟨hF, xs, h1, h2⟩ := h.obj r a _ hr hd
        refine ⟨a, xs, rfl, ?_, fzL_rep ih (finW_F h) ds xs es h2 q1⟩
        show (if a ∈ W1.rho.drop n then H1 a else W1.F a) = _
        rw [if_pos]
        · exact h1
        · rw [List.mem_iff_getElem?]
          exact ⟨r - n, by rw [List.getElem?_drop]; rw [show n + (r - n) = r by omega]; exact hr⟩
      · cases q
/-- the end: what was made since the beginning is data now -/
theorem fin_hr {st' : Sto} (h : HR K W1 H1 st1) (x : Ext W H W1 H1) (n : Nat) (hn : W.rho.length = n) (k : Nat) (q : fzS (lookF k n st1) (st1.take n) = some st') : HR K (finW n H1 W1) H1 st' ∧ Ext W H (finW n H1 W1) H1 := by
  obtain ⟨l, f⟩ := fzS_get q
  obtain ⟨t, ht, hnew⟩ := x.rh
  have htake : W1.rho.take n = W.rho := by rw [ht, ← hn]; simp
  have hdrop : W1.rho.drop n = t := by rw [ht, ← hn]; simp
  refine ⟨⟨?_, h.nd.sublist (List.take_sublist _ _), fun b o e => ?_, fun r a m e1 e2 => ?_⟩, ⟨fun b o e => finW_F h b o (x.fr b o e), ⟨[], by show W1.rho.take n = _; rw [htake]; simp, fun _ z => by cases z⟩, x.out, x.non, fun b o e => ?_⟩⟩
  · show (W1.rho.take n).length = _
    rw [l, List.length_take, List.length_take, h.len]
  · have e' : (if b ∈ W1.rho.drop n then H1 b else W1.F b) = some o := e
    split at e'
    · exact e'
    · exact h.sub _ _ e'
  · have e1' : (W1.rho.take n)[r]? = some a := e1
    have hlt : r < n := by
      have := (List.getElem?_eq_some_iff.mp e1').1
      rw [List.length_take] at this; omega
    rw [List.getElem?_take_of_lt hlt] at e1'
    obtain ⟨m0, g1, g2⟩ := f r m e2
    rw [List.getElem?_take_of_lt hlt] at g1
    obtain ⟨p, o⟩ := h.obj r a m0 e1' g1
    refine ⟨?_, fzO_rep (lookF_rep h k) (finW_F h) o g2⟩
    show (if a ∈ W1.rho.drop n then H1 a else W1.F a) = none
    rw [if_neg]
    · exact p
    · intro hm
      obtain ⟨j, hj⟩ := List.mem_iff_getElem?.mp hm
      rw [List.getElem?_drop] at hj
      have := (List.getElem?_inj (List.getElem?_eq_some_iff.mp e1').1 h.nd).mp (e1'.trans hj.symm)
      omega
  · have e' : (if b ∈ W1.rho.drop n then H1 b else W1.F b) = some o := e
    split at e'
    · rename_i hm; rw [hdrop] at hm; exact .inr (hnew b hm)
    · exact x.nf _ _ e'
theorem fin_post {N : Nv} {Q : VK} {E : XK} {r : R Pv.D} (hr : HR N.K W H st) (p : Post N W H Q E (finR st.length r)) : Post N W H Q E r := by
  cases r with
  | bad => exact p
  | ok d st1 =>
    intro W1 v H1 x1 h1 r1
    unfold finR at p
    simp only at p
    split at p
    · exact p W1 v H1 x1 h1 r1
    · split at p
      · rename_i d' st' q1 q2
        obtain ⟨a, b⟩ := fin_hr h1 x1 st.length hr.len 6 q2
        exact p _ v H1 b a (fz_rep (lookF_rep h1 6) (finW_F h1) d v d' r1 q1)
      · exact p.elim
  | exc x st1 =>
    intro W1 c dd H1 x1 h1 r1
    unfold finR at p
    simp only at p
    split at p
    · exact p W1 c dd H1 x1 h1 r1
    · split at p
      · rename_i fs st' q1 q2
        obtain ⟨a, b⟩ := fin_hr h1 x1 st.length hr.len 6 q2
        obtain ⟨C, e1, e2, d, gs, e3, e4, e5⟩ := r1
        exact p _ c dd H1 b a ⟨C, e1, e2, d, gs, e3, e4, fzP_rep (lookF_rep h1 6) (finW_F h1) e5 q1⟩
      · exact p.elim
end

/-! ### a def's promise -/
abbrev Fn := List Pv.D → Sto → R Pv.D
def startD (n : Nat) (ds : List Pv.D) : Sl := ds.map some ++ List.replicate (n - ds.length) none
/-- the body run, its objects kept (fnK) or made data (fnP) -/
def endR (r : RS) : R Pv.D :=
  match r with
  | .nx _ st => .ok .none st
  | .rt d st => .ok d st
  | .exc x st => .exc x st
  | .bk _ _ => .bad
  | .ct _ _ => .bad
  | .bad => .bad
def fnK (n : Nat) (body : MS) : Fn := fun ds st => endR (body (startD n ds) st)
def fnP (n : Nat) (body : MS) : Fn := fun ds st => finR st.length (endR (body (startD n ds) st))
def spF (N : Nv) (n : Nat) (F : Fn) : Sp := fun vs H Q E => ∃ W ds st, HR N.K W H st ∧ repL N.K W vs ds ∧ ds.length = n ∧ Post N W H Q E (F ds st)
/-- as FnOk, around callers none of whom is held by a guard -/
structure FnG (P : Program) (w : World) (K : PySem.W.Frag) (mg : Str → Option Value) (base : Heap) (k : Nat) (f : Addr) (fd : FuncData) (ps : List Str) (F : Fn) : Prop where
  run : ∀ (A : Around) (outer : List Env) (s : Shared) (H : Hp) (args : Args) (us : List Value) (vs : List V) (Q : VK) (E : XK), Room k A → A.guards = some [] → Env0 P w K mg base A outer s H → BindsTo s fd args (ps.zip us) → Vals vs us → spF ⟨K, mg⟩ ps.length F vs H Q E →
    codeAny (model P w) A (.call (.ref f) args) (CR (L2.CX P w) outer P w H s Q E) s
theorem FnG.mono {P : Program} {w : World} {K : PySem.W.Frag} {mg : Str → Option Value} {base : Heap} {j k : Nat} {f : Addr} {fd : FuncData} {ps : List Str} {F : Fn} (g : FnG P w K mg base j f fd ps F) (h : j ≤ k) : FnG P w K mg base k f fd ps F :=
  ⟨fun A outer s H args us vs Q E hr => g.run A outer s H args us vs Q E (hr.mono h)⟩
theorem start_rep {K : PySem.W.Frag} {W : Wd} {Ns : List Str} {vs : List V} {ds : List Pv.D} (l : repL K W vs ds) : SR K W (L2.start Ns vs) (startD Ns.length ds) := by
  have e := repL_length l
  refine ⟨by unfold L2.start startD; simp [e], fun i d h => ?_⟩
  unfold startD at h
  unfold L2.start
  by_cases hi : i < ds.length
  · rw [List.getElem?_append_left (by simpa using hi), List.getElem?_map] at h
    rw [List.getElem?_append_left (by simpa [e] using hi), List.getElem?_map]
    cases q : ds[i]? with
    | none => rw [q] at h; cases h
    | some d' =>
      rw [q] at h
      cases h
      obtain ⟨v, a, b⟩ := repL_get i l q
      exact ⟨v, by rw [a]; rfl, b⟩
  · rw [List.getElem?_append_right (by simpa using hi), List.getElem?_replicate] at h
    split at h <;> cases h
theorem gd_of {X : Cx} {k : Nat} (hc : X.calm = true) (nd : X.N.Nodup) (r : Room k X.A) (gu : X.A.guards = some []) : Gd X := ⟨hc, nd, by have := r.un; omega, gu⟩
/-- the body's end, read back -/
theorem end_posts {N : Nv} {W : Wd} {H : Hp} {Q : VK} {E : XK} {n : Nat} {r : RS} (p : Post N W H Q E (endR r)) : PostS N n (fun cls dd _ H' => E cls dd H') W H { nx := fun _ H' => Q .non H', rt := Q } r := by
  cases r with
  | nx sl st => exact fun W1 sh H1 l x h s => p W1 .non H1 x h rfl
  | rt d st => exact fun W1 v H1 x h r => p W1 v H1 x h r
  | exc x st => exact fun W1 sh c dd H1 l e h r => p W1 c dd H1 e h r
  | bk _ _ => exact p.elim
  | ct _ _ => exact p.elim
  | bad => exact p.elim
section
variable {P : Program} {w : World} {K : PySem.W.Frag} {mg : Str → Option Value} {base : Heap}
/-- a body's context -/
abbrev Cb (P : Program) (w : World) (K : PySem.W.Frag) (mg : Str → Option Value) (base : Heap) (Ns : List Str) (qual : Str) (st : Stmt) (f : Addr) (cdv : Value) (A : Around) (outer : List Env) (s : Shared) (H : Hp) (E : XK) : Cx :=
  cxOf (L2.CX P w) P w K mg base Ns qual (defScope st) f cdv A outer s H E
abbrev Ew (E : XK) : WX := fun cls dd _ H' => E cls dd H'
theorem fnG_of {x qual : Str} {st : Stmt} {f : Addr} {fd : FuncData} {Ns ps : List Str} {k : Nat} {m : MS} {F : Fn} (h : Fun K x qual st f fd) (S : FnScope Ns ps (defScope st))
    (hF : F = fnK Ns.length m ∨ F = fnP Ns.length m)
    (hb : ∀ cdv A outer s H E, Gd (Cb P w K mg base Ns qual st f cdv A outer s H E) → Room k (Cb P w K mg base Ns qual st f cdv A outer s H E).A → Takes (Cb P w K mg base Ns qual st f cdv A outer s H E) (Ew E) →
      PassesOwn (model P w) (Cb P w K mg base Ns qual st f cdv A outer s H E).A (Cb P w K mg base Ns qual st f cdv A outer s H E).env (Cb P w K mg base Ns qual st f cdv A outer s H E).xe →
      GSs (Cb P w K mg base Ns qual st f cdv A outer s H E) (Ew E) (defBody st) m) : FnG P w K mg base (k + 1) f fd ps F := by
  obtain ⟨oc, od, kV, doc, pm, an, cdv, ct, osl, rfl, lk, hcd⟩ := h.ex
  constructor
  intro A outer s H args us vs Q E hr hgu e0 hbn rv hsp
  obtain ⟨W, ds, st0, hR, hL, hl, hP⟩ := hsp
  have hlv : vs.length = ps.length := (repL_length hL).trans hl
  have kin := e0.mod.kin.keeps fun b o e => (e0.bs b o e).1
  have nolim := e0.mod.nolimit.keeps fun b o e => (e0.bs b o e).1
  have kinds : ∀ y ∈ ps.zip us, (defScope st).names.lookup y.1 = some .local ∨ ((defScope st).names.lookup y.1 = some .cell ∧ ((cellsFrom (s.heap.objs.size + 1) (defScope st).names []).lookup y.1).isSome = true) := by
    intro y hy
    obtain ⟨nm, u⟩ := y
    cases S.par nm (List.of_mem_zip hy).1 with
    | inl q => exact Or.inl q
    | inr q => exact Or.inr ⟨q, PySem.W.cellsFrom_some _ _ _ (Or.inl q)⟩
  have rest : Room k (A.deeper (envOfC qual (defScope st) s.heap.objs.size f cdv)) := hr.deeper _
  refine codeAny_call_function hr.depth (kin _ _ lk) rfl S.co S.gen rfl (PySem.W.codeRec_of kin hcd) (hbn _ _ _ _ (wpAny_newFunctionEnv_cells S.kind kinds ?_))
  intro env hen s1 xin
  subst hen
  refine ⟨nolim.keeps xin.toInCall.keep, codeAny_func ?_⟩
  have G : Gd (Cb P w K mg base Ns qual st f cdv A outer s H E) := gd_of (k := k) rfl S.nd rest hgu
  have B := hb cdv A outer s H E G rest (takes_of rfl rfl rfl rfl) (passes_of rfl)
  have I := inv_start (CX := L2.CX P w) (w := w) (cd := cdv) (E := E) S hr.hd e0 hlv rv xin
  have hP' : Post ⟨K, mg⟩ W H Q E (endR (m (startD Ns.length ds) st0)) := by
    rcases hF with q | q
    · subst q; exact hP
    · subst q; exact fin_post hR hP
  have J := B.run [] s1 (L2.start Ns vs) H { nx := fun _ H' => Q .non H', rt := Q } I ⟨W, _, st0, hR, start_rep hL, end_posts hP'⟩
  refine wpAny_mono J ?_ fun e s' z => z
  intro fl s' z
  cases fl with
  | ret u => obtain ⟨v, σ', H', I', q1, q2⟩ := z; exact ⟨v, H', I'.os, I'.bare, I'.base, I'.hok, q1, q2⟩
  | next => obtain ⟨σ', H', I', q2⟩ := z; exact ⟨V.non, H', I'.os, I'.bare, I'.base, I'.hok, rfl, q2⟩
  | brk => obtain ⟨_, _, _, z⟩ := z; exact z.elim
  | cont => obtain ⟨_, _, _, z⟩ := z; exact z.elim
end

/-! ### calls of own defs -/
def mCall (fn : Fn) (ms : Ms) : M := fun sl st => (ms sl st).bind fn
/-- a def as the text's bodies call it -/
structure Df (P : Program) (w : World) (K : PySem.W.Frag) (mg : Str → Option Value) (base : Heap) (k : Nat) (x : Str) (f : Addr) (fd : FuncData) (ps : List Str) (F : Fn) : Prop where
  fn : FnG P w K mg base k f fd ps F
  mg : mg x = some (.ref f)
  kp : PySem.W.keepIn K (.ref f) = true
  bd : Binds K fd ps []
theorem Df.mono {P : Program} {w : World} {K : PySem.W.Frag} {mg : Str → Option Value} {base : Heap} {j k : Nat} {x : Str} {f : Addr} {fd : FuncData} {ps : List Str} {F : Fn} (d : Df P w K mg base j x f fd ps F) (h : j ≤ k) : Df P w K mg base k x f fd ps F :=
  ⟨d.fn.mono h, d.mg, d.kp, d.bd⟩
section
variable {X : Cx} {Wx : WX} {k j : Nat} {f : Addr} {fd : FuncData} {ps : List Str} {F : Fn} {x : Str} {p pos : Pos} {e : Expr} {es : List Expr} {ms : Ms}
theorem run_G {pins : List (Addr × Obj)} {H : Hp} {s : Shared} {Q : VK} {args : Args} {us : List Value} {vs : List V} {sh : L2.St} (fn : FnG X.prog X.w X.K X.mg X.base k f fd ps F) (hr : Room k X.A) (g : Gd X) (tk : Takes X Wx)
    (I : Inv X pins sh H s) (b : BindsTo s fd args (ps.zip us)) (r : Vals vs us) (h : spF ⟨X.K, X.mg⟩ ps.length F vs H Q (fun cls dd H' => Wx cls dd sh H')) : wpAny (model X.prog X.w) X.A (call (.ref f) args.pos args.kw) (EP X pins sh Q) X.xe s := by
  have c := fn.run X.A X.stack s H args us vs Q _ hr g.gu I.env0 b r h
  refine wpAny_call (codeAny_mono c ?_)
  intro rr s' z
  cases rr with
  | error u => exact passAt tk sh pins H s u s' I z
  | ok fl => cases fl with
    | ret u => exact I.after z
    | next => exact z.elim
    | brk => exact z.elim
    | cont => exact z.elim
theorem ms_read {ms : Ms} {N : Nv} {W : Wd} {H : Hp} {sl : Sl} {st : Sto} {sh : L2.St} {n : Nat} {Q : VK} (hn : ∀ sl st ds st', ms sl st = .ok ds st' → ds.length = n) (hr : HR N.K W H st) (hs : SR N.K W sh sl) (p : Post N W H Q (fun cls dd H' => Wx cls dd sh H') (mCall F ms sl st)) :
    rdL N Wx ms sh H fun vs H1 => spF N n F vs H1 Q fun cls dd H' => Wx cls dd sh H' :=
  rdL_bind hr hs p fun ds st1 W1 vs H1 e1 x1 h1 s1 l1 p1 => ⟨W1, ds, st1, h1, l1, hn _ _ _ _ e1, p1⟩
/-- f(e, ..) -/
theorem ge_call (d : Df X.prog X.w X.K X.mg X.base k x f fd ps F) (hr : Room k X.A) (g : Gd X) (tk : Takes X Wx) (ha : GA X Wx (e :: es) ms) (hn : ∀ sl st ds st', ms sl st = .ok ds st' → ds.length = ps.length) (hg : Gl X x := by rfl) (hdb : (x == ("__debug__" : Str)) = false := by decide +kernel)
    (he : starEach (e :: es) X.env = (false, eval e X.env) :: starEach es X.env := by rfl) (hpl : (backTo pos (starEach es X.env)).any (·.1) = false := by rfl) : GE X Wx (.Call (.Name x p) (e :: es) [] pos) (mCall F ms) := by
  refine ⟨fun pins s sh H Q I ⟨W, sl, st, hr', hs, q⟩ => wpAny_Call_Name_kw (ld_glob I hg d.mg ?_ hdb)⟩
  refine PySem.W.callWith_K (h₀ := X.base) I.ok.mod.kin d.kp (thn (ha.run pos pins s sh H _ I (ms_read hn hr' hs q)) ?_) he hpl
  intro us s1 ⟨vs, H1, I1, r, q1⟩
  obtain ⟨_, ds, _, _, l1, l2, _⟩ := id q1
  have hl : us.length = ps.length := by rw [← r.length, repL_length l1, l2]
  have b := d.bd s1 us I1.kIn (by rw [List.append_nil]; exact hl)
  rw [List.append_nil] at b
  exact ⟨I1.kIn, run_G (args := ⟨us, []⟩) d.fn hr g tk I1 b r q1⟩
/-- f() -/
theorem ge_call0 (d : Df X.prog X.w X.K X.mg X.base k x f fd [] F) (hr : Room k X.A) (g : Gd X) (tk : Takes X Wx) (hg : Gl X x := by rfl) (hdb : (x == ("__debug__" : Str)) = false := by decide +kernel) : GE X Wx (.Call (.Name x p) [] [] pos) (mCall F msNil) := by
  refine ⟨fun pins s sh H Q I ⟨W, sl, st, hr', hs, q⟩ => wpAny_Call_Name_kw (ld_glob I hg d.mg ?_ hdb)⟩
  have b := d.bd s [] I.kIn rfl
  exact PySem.W.callWith_K0 I.kIn d.kp (run_G (args := ⟨[], []⟩) (us := []) (vs := []) d.fn hr g tk I b .nil ⟨W, [], st, hr', rfl, rfl, q⟩)
/-- keywords' values -/
def GK (X : Cx) (Wx : WX) (kws : List Keyword) (ms : Ms) : Prop := PK X kws (rdL (nv X) Wx ms)
theorem gk_nil : GK X Wx [] msNil := ⟨fun pos pins s sh H Q I ⟨W, sl, st, hr, hs, q⟩ => pk_nil.run pos pins s sh H Q I (PostL.now (vs := []) hr q rfl)⟩
theorem gk_cons {nm : Option Str} {kpos : Pos} {kws : List Keyword} {m : M} (ha : GE X Wx e m) (hr : GK X Wx kws ms) : GK X Wx (⟨nm, e, kpos⟩ :: kws) (msCons m ms) := by
  refine ⟨fun pos pins s sh H Q I ⟨W, sl, st, hr', hs, q⟩ => (pk_cons ha hr).run pos pins s sh H Q I ?_⟩
  refine rd_bindL hr' hs q fun d1 st1 W1 v1 H1 e1 x1 h1 s1 r1 p1 => ?_
  refine rdL_bindL h1 s1 p1 fun ds st2 W2 vs H2 e2 x2 h2 s2 r2 p2 => ?_
  exact PostL.now h2 p2 ⟨v1, vs, rfl, x2.rep r1, r2⟩
/-- how a call by keywords alone binds -/
structure BindsK (K : PySem.W.Frag) (fd : FuncData) (ps ks : List Str) (g : {α : Type} → List α → List α) : Prop where
  to : ∀ (s : Shared) (ws : List Value), K.In s.heap → ws.length = ks.length → BindsTo s fd ⟨[], ks.zip ws⟩ (ps.zip (g ws))
  rep : ∀ {K : PySem.W.Frag} {W : Wd} {vs : List V} {ds : List Pv.D}, repL K W vs ds → vs.length = ks.length → repL K W (g vs) (g ds)
  rel : ∀ {vs : List V} {us : List Value}, Vals vs us → vs.length = ks.length → Vals (g vs) (g us)
  len : ∀ {ds : List Pv.D}, ds.length = ks.length → (g ds).length = ps.length
/-- f(k = v, ..) -/
theorem ge_callK0 {ks : List Str} {g' : {α : Type} → List α → List α} {kws : List Keyword} (d : Df X.prog X.w X.K X.mg X.base k x f fd ps F) (b : BindsK X.K fd ps ks g') (hr : Room k X.A) (g : Gd X) (tk : Takes X Wx) (ha : GK X Wx kws ms) (hn : ∀ sl st ds st', ms sl st = .ok ds st' → ds.length = ks.length)
    (hall : (backToKw pos (keywordEach kws X.env)).all (·.1.isSome) = true := by rfl) (hks : (backToKw pos (keywordEach kws X.env)).filterMap (·.1) = ks := by rfl) (hg : Gl X x := by rfl) (hdb : (x == ("__debug__" : Str)) = false := by decide +kernel)
    (hpl : ((backTo pos (starEach [] X.env)).any (·.1) || (backToKw pos (keywordEach kws X.env)).any (·.1.isNone)) = false := by rfl) : GE X Wx (.Call (.Name x p) [] kws pos) (mCall (fun ds => F (g' ds)) ms) := by
  refine ⟨fun pins s sh H Q I ⟨W, sl, st, hr', hs, q⟩ => wpAny_Call_Name_kw (ld_glob I hg d.mg ?_ hdb)⟩
  refine PySem.W.callWith_KW0 (h₀ := X.base) I.ok.mod.kin d.kp hall (thn (ha.run pos pins s sh H _ I (ms_read (n := ks.length) hn hr' hs q)) ?_) hpl
  intro us s1 ⟨vs, H1, I1, r, q1⟩
  obtain ⟨W1, ds, st1, h1, l1, l2, p1⟩ := q1
  have hv : vs.length = ks.length := (repL_length l1).trans l2
  rw [hks]
  refine ⟨I1.kIn, run_G (args := ⟨[], ks.zip us⟩) d.fn hr g tk I1 (b.to s1 us I1.kIn (r.length.symm.trans hv)) (b.rel r hv) ⟨W1, g' ds, st1, h1, b.rep l1 hv, b.len l2, p1⟩⟩
end

/-! ### the law's head -/
theorem head_G {P : Program} {w : World} {K : PySem.W.Frag} {mg mb : Str → Option Value} {k : Nat} {fa a : Addr} {fd : FuncData} {x : Str} {F : Fn} {s₁ : Shared} {vs : List Value} {ns : List Int}
    (KX : K.In s₁.heap) (hns : s₁.heap.Ns mainGlobals mg) (hb : s₁.heap.Ns builtinsNs mb) (hbb : ∀ x : Str, x ≠ "__name__" → mb x = bootBuiltins x) (hlim : s₁.heap.NoLimit) (hg : s₁.gens = #[])
    (ha : s₁.heap.get? a = some { cls := .type "list", data := .seq vs.toArray }) (hi : IntsAre vs ns) (hl : ns.length ≤ sizeLine) (hr : Room k callerA)
    (hF : ∀ base : Heap, K.In base → base.Ns mainGlobals mg → FnG P w K mg base k fa fd [x] F) (hbind : ∀ (s : Shared) (u : Value), BindsTo s fd ⟨[u], []⟩ [(x, u)])
    (law : ∃ st, F [Gs (ns.map .int)] [] = .ok (.bool true) st) :
    codeAny (model P w) callerA (.call (.ref fa) ⟨[.ref a], []⟩) (fun r s' => r = .ok (.ret (.bool true)) ∧ OldK s₁.heap s'.heap ∧ s'.os = s₁.os ∧ AllBare s'.gens) s₁ := by
  have lenV := hi.length
  have rels := vals_ints hi
  have go : ∀ H : Hp, Only H → SqL K H a (ns.map V.int) → HOk P w H s₁.heap → (∀ b, H b ≠ none → b = a) → (H a ≠ none → K.lookup a = none) →
      codeAny (model P w) callerA (.call (.ref fa) ⟨[.ref a], []⟩) (fun r s' => r = .ok (.ret (.bool true)) ∧ OldK s₁.heap s'.heap ∧ s'.os = s₁.os ∧ AllBare s'.gens) s₁ := by
    intro H only sq ok one free
    have nodict : ∀ {b : Addr} {o : Obj} {es : Array DictEntry} {ep : Nat}, s₁.heap.get? b = some o → o.data = .dict es ep → H b = none := by
      intro b o es ep e q
      cases hb : H b with
      | none => rfl
      | some u =>
        have eb := one b (by rw [hb]; exact fun z => nomatch z)
        subst eb
        rw [ha] at e
        cases e
        exact nomatch (show Data.seq vs.toArray _ = Data.dict es ep from q)
    have nsB : ∀ {b : Addr} {m : Str → Option Value}, s₁.heap.Ns b m → (hidT s₁.heap H).Ns b m := by
      intro b m ⟨o, es, ep, e, q, r⟩
      exact ⟨o, es, ep, hidT_get e (nodict e q), q, r⟩
    have kB : K.In (hidT s₁.heap H) := by
      intro b o e
      refine hidT_get (KX b o e) ?_
      cases hb : H b with
      | none => rfl
      | some u =>
        have eb := one b (by rw [hb]; exact fun z => nomatch z)
        subst eb
        rw [free (by rw [hb]; exact fun z => nomatch z)] at e
        cases e
    have limB : (hidT s₁.heap H).NoLimit := by
      obtain ⟨mc, h1, h2⟩ := hlim
      exact ⟨mc, nsB h1, h2⟩
    have env : Env0 P w K mg (hidT s₁.heap H) callerA [] s₁ H :=
      { frames := rfl, mod := ⟨kB, nsB hns, ⟨mb, nsB hb, hbb⟩, limB⟩, bs := fun b o e => of_hidT e, bsz := Nat.le_of_eq (hidT_size _ _), funs := trivial, frf := fun b hb => (absurd (show b ∈ ([] : List Addr) from hb) (by simp)), hok := ok, bare := .of_eq hg }
    obtain ⟨st, hlaw⟩ := law
    have base : HR K ⟨H, []⟩ H [] := ⟨rfl, .nil, fun _ _ e => e, fun r a m e => by simp at e⟩
    have nums : ∀ ns : List Int, repL K ⟨H, []⟩ (ns.map V.int) (ns.map .int) := by
      intro ns
      induction ns with
      | nil => rfl
      | cons n ns ih => exact ⟨_, _, rfl, rfl, ih⟩
    have prom : spF ⟨K, mg⟩ 1 F [.ref a] H (fun v _ => v = .bl true) fun _ _ _ => False :=
      ⟨⟨H, []⟩, [Gs (ns.map .int)], [], base, ⟨_, _, rfl, ⟨a, _, rfl, sq, nums ns⟩, rfl⟩, rfl, by rw [hlaw]; exact fun W' v H' _ _ r => r⟩
    refine codeAny_mono ((hF _ kB (nsB hns)).run callerA [] s₁ H ⟨[.ref a], []⟩ [.ref a] [.ref a] _ _ hr rfl env (hbind s₁ (.ref a)) (.cons rfl .nil) prom) ?_
    intro r s' z
    cases r with
    | error e => obtain ⟨_, _, _, _, _, _, _, _, _, _, _, _, q⟩ := z; exact q.elim
    | ok fl => cases fl with
      | ret u =>
        obtain ⟨v, H', os, bare, un, ok', rv, q⟩ := z
        cases (show v = .bl true from q)
        cases (show u = Value.bool true from rv)
        refine ⟨rfl, OldK.of_keep fun b o e => ?_, os, bare⟩
        cases hb : H b with
        | none => exact un.keep b o e hb (fun z => nomatch z) (fun z => nomatch z)
        | some u =>
          rcases only b with z | ⟨ob, xs, z⟩
          · rw [hb] at z; cases z
          · obtain ⟨e1, _⟩ := ok b _ z
            obtain ⟨e2, _⟩ := ok' b _ (un.frzs b ob _ z)
            rw [e] at e1
            cases e1
            exact e2
      | next => exact z.elim
      | brk => exact z.elim
      | cont => exact z.elim
  cases hk : K.lookup a with
  | some o =>
    have e := KX a o hk
    rw [ha] at e
    cases e
    refine go (fun _ => none) (fun _ => Or.inl rfl) (Or.inr ⟨_, vs.toArray, _, hk, rfl, rfl, rfl, ?_, ?_⟩) (fun b u z => nomatch z) (fun b z => absurd rfl z) (fun z => absurd rfl z)
    · rw [List.size_toArray, lenV]; exact hl
    · simpa using rels
  | none =>
    refine go (fun b => if b = a then some (.frz { cls := .type "list", data := .seq vs.toArray } (.lst (ns.map V.int))) else none) ?_ (Or.inl (Or.inr ⟨_, if_pos rfl⟩)) ?_ ?_ (fun _ => hk)
    · intro b
      by_cases q : b = a
      · exact Or.inr ⟨_, _, if_pos q⟩
      · exact Or.inl (if_neg q)
    · intro b u z
      by_cases q : b = a
      · have z2 := (if_pos q).symm.trans z
        cases z2
        subst q
        exact ⟨ha, by rw [List.length_map]; exact hl, vs, _, rels, ha⟩
      · have z2 := (if_neg q).symm.trans z
        cases z2
    · intro b z
      by_cases q : b = a
      · exact q
      · exact absurd (if_neg q) z
/-- the end theorem's walk, from the law's def and the plain law -/
theorem walk_G {l : PySem.W.OpenLaw} {n k : Nat} {q : Program} {loose : List Str} {XP : (Str → Option Value) → Heap → Prop} {YP : World → Heap → Prop} {d : DefRec} {K : Params → PySem.W.Frag} {x : Str} {F : Fn}
    (hn : l.most = some n) (hn2 : n ≤ sizeLine) (hdf : d.params.defaults = []) (hr : Room k callerA) (hY : ∀ (w : World) (h : Heap), YP w h → (K w.params).In h)
    (hF : ∀ (w : World) (mg : Str → Option Value) (fa : Addr) (h : Heap), (K w.params).In h → h.Ns mainGlobals mg → mg d.name = some (.ref fa) →
      ∃ fd : FuncData, (∀ (s : Shared) (u : Value), BindsTo s fd ⟨[u], []⟩ [(x, u)]) ∧ ∀ base : Heap, (K w.params).In base → base.Ns mainGlobals mg → FnG l.prog w (K w.params) mg base k fa fd [x] F)
    (law : ∀ ns : List Int, ns.length ≤ n → ∃ st, F [Gs (ns.map .int)] [] = .ok (.bool true) st) : PySem.W.WalkO q loose XP YP l.row.toRowW d [] (fun f vs => PySem.call f vs) := by
  refine Att.attach_call hn hdf ?_
  intro w s₀ s₁ mg mb fa o pm cd doc a vs ns G Y ho hd hcd hmg hobj hints hlen hg
  obtain ⟨fd, b, f⟩ := hF w mg fa _ (hY w _ Y) G.T.g hmg
  exact head_G (hY w _ Y) G.T.g G.T.b G.T.builtins G.T.nolimit hg hobj hints (Nat.le_trans hlen hn2) hr f b (law ns hlen)
end Pv
set_option Elab.async false
set_option linter.all false
set_option maxRecDepth 100000
set_option maxHeartbeats 4000000
namespace Pv
open PySem PySem.Spec L2
open PyProof.Rows hiding St

/-! ### isinstance, a built-in type -/
inductive Ty where
  | non | bool | int | str | list | tuple | dict
  deriving DecidableEq
def Ty.name : Ty → String
  | .non => "NoneType"
  | .bool => "bool"
  | .int => "int"
  | .str => "str"
  | .list => "list"
  | .tuple => "tuple"
  | .dict => "dict"
def Ty.sub : Ty → Ty → Bool
  | .non, .non => true
  | .bool, .bool => true
  | .bool, .int => true
  | .int, .int => true
  | .str, .str => true
  | .list, .list => true
  | .tuple, .tuple => true
  | .dict, .dict => true
  | _, _ => false
theorem kit_all (a b : Ty) : kitB a.name b.name = some (a.sub b) := by cases a <;> cases b <;> decide +kernel
def tyD (st : Sto) (d : Pv.D) : Option Ty :=
  match d with
  | .none => some .non
  | .bool _ => some .bool
  | .int _ => some .int
  | .str _ => some .str
  | .list _ => some .list
  | .tuple _ => some .tuple
  | .dict [(.int r, .none)] => (match st[r.toNat]? with | some (.lst _) => some .list | some (.ro _) => some .list | some (.dct _) => some .dict | some (.dctT _) => some .dict | none => none)
  | _ => none
section
variable {X : Cx} {Wx : WX} {ea eb e : Expr} {ma mb : M} {pos p p2 : Pos} {K : PySem.W.Frag} {W : Wd} {H : Hp} {st : Sto} {v : V} {d : Pv.D}
theorem ty_rep {t : Ty} (hr : HR K W H st) (h : rep K W v d) (e : tyD st d = some t) : TyX K H v (.type t.name) := by
  cases d with
  | none => cases e; cases h; exact .base .non
  | bool b => cases e; cases h; exact .base (.bl b)
  | int i => cases e; cases h; exact .base (.int i)
  | str x => cases e; cases h; exact .base (.str x)
  | list ds => cases e; obtain ⟨a, xs, e1, e2, l⟩ := h; subst e1; exact .base (.lst (hr.sub _ _ e2))
  | tuple ds => cases e; obtain ⟨a, xs, e1, e2, l⟩ := h; subst e1; exact .base (.tup (hr.sub _ _ e2))
  | dict kvs =>
    unfold tyD at e
    split at e
    all_goals (first | (rename_i q; cases q; done) | skip)
    · rename_i i q
      rcases rep_dict h with ⟨r, a, e1, e2, e3⟩ | ⟨ds', a, xs, e1, _, _⟩ | ⟨ds', a, xs, e1, _, _⟩
      rotate_left
      · subst e1; cases q
      · subst e1; cases q
      subst e1
      cases q
      rw [Int.toNat_natCast] at e
      obtain ⟨m, hm, _, ho⟩ := hr.at e3
      rw [hm] at e
      subst e2
      cases m with
      | lst ds => cases e; obtain ⟨xs, f, _⟩ := ho; exact .base (.lst f)
      | ro ds => cases e; obtain ⟨o, xs, f, _⟩ := ho; exact .base (.frz f)
      | dct ds => cases e; obtain ⟨xs, f, _⟩ := ho; exact .base (.dK f)
      | dctT ds => cases e; obtain ⟨xs, f, _⟩ := ho; exact .base (.dT f)
    · cases e
def mIsi (T : Ty) (m : M) : M := fun sl st => (m sl st).bind fun d st => lift ((tyD st d).map fun t => .bool (t.sub T)) st
theorem ge_isi {y : Str} (T : Ty) (hm : X.mg "isinstance" = none) (hmy : X.mg y = none) (ha : GE X Wx ea ma) (hv : bootBuiltins y = some (.type T.name) := by decide +kernel) (hg : Gl X "isinstance" := by rfl) (hgy : Gl X y := by rfl) (hn : y ≠ "__name__" := by decide +kernel) (hd : (y == ("__debug__" : Str)) = false := by decide +kernel)
    (he : starEach [ea, .Name y p2] X.env = (false, eval ea X.env) :: starEach [.Name y p2] X.env := by rfl) (he2 : starEach [.Name y p2] X.env = (false, eval (.Name y p2) X.env) :: starEach [] X.env := by rfl) (hpl : (backTo pos (starEach [.Name y p2] X.env)).any (·.1) = false := by rfl) : GE X Wx (.Call (.Name "isinstance" p) [ea, .Name y p2] [] pos) (mIsi T ma) := by
  have hy : PE X (.Name y p2) (tC (.ty T.name)) := pe_bltn hgy hmy hv rfl hn hd
  refine PE.imp (pe_callB (call_isi (X := X)) hg hm (by decide +kernel) (pa_cons ha (pa_cons hy pa_nil he2) he) (by decide +kernel) (by decide +kernel) he hpl) fun sh H Q ⟨W, sl, st, hr, hs, q⟩ => ?_
  refine rd_bind hr hs q fun d1 st1 W1 v1 H1 e1 x1 h1 s1 r1 p1 => ?_
  cases ht : tyD st1 d1 with
  | none => rw [ht] at p1; exact p1.elim
  | some t =>
    rw [ht] at p1
    exact ⟨v1, .ty T.name, _, _, _, rfl, .ty _, ty_rep h1 r1 ht, kit_ty (kit_all t T), p1.val h1 rfl⟩

/-! ### repr -/
def reprD (st : Sto) (d : Pv.D) : Option Pv.D := if (deref st d).canLay0 = true ∧ (deref st d).showable = true ∧ (deref st d).depth ≤ 100 ∧ (deref st d).shown.length ≤ sizeLine then some (.str (deref st d).shown) else none
theorem call_reprD (g : Gd X) : CallR X (.builtin "repr") (fun xs H Q => ∃ v d, xs = [v] ∧ Dp X.K H v d ∧ d.canLay0 = true ∧ d.showable = true ∧ d.depth ≤ 100 ∧ d.shown.length ≤ sizeLine ∧ Q (.str d.shown) H) := by
  intro pins s sh H xs us Q I r ⟨v, d, ex, hd, hc, hs, hdp, hz, q⟩
  subst ex
  obtain ⟨u, rfl, ru⟩ := vals1 r
  have hu := g.un
  have read : ∀ (a : Addr), v = .ref a → wpAny (model X.prog X.w) X.A (call (.builtin "repr") [u]) (EP X pins sh Q) X.xe s := by
    intro a ev
    subst ev
    obtain ⟨as, rd⟩ := Dp.reads I d _ u hd ru
    cases (show u = Value.ref a from ru)
    exact repr_of_reads' rd hs (PyData.noDict_hsm (PyData.hasDict_of_canLay d hc)) g.gu (by omega) (fun _ _ e => e) (fun h' t tk k => ⟨.str d.shown, H, I.kept k, ⟨t, rfl⟩, q⟩) hz
  cases hd with
  | non => cases ru; exact PySem.P.repr_of_none ⟨.str _, H, I.tok _, ⟨_, rfl⟩, q⟩
  | bl b => cases ru; exact PySem.P.repr_of_bool ⟨.str _, H, I.tok _, ⟨_, rfl⟩, by cases b <;> exact q⟩
  | int i => obtain ⟨t, rfl⟩ := ru; exact PySem.P.repr_of_int (by simpa [PyData.showable] using hs) ⟨.str _, H, I.tok _, ⟨_, rfl⟩, q⟩
  | str x => obtain ⟨t, rfl⟩ := ru; exact PySem.P.repr_of_str ⟨.str _, H, I.tok _, ⟨_, rfl⟩, q⟩ hz
  | lst _ _ => exact read _ rfl
  | tup _ _ => exact read _ rfl
def mRepr (m : M) : M := fun sl st => (m sl st).bind fun d st => lift (reprD st d) st
theorem ge_repr (g : Gd X) (hm : X.mg "repr" = none) (ha : GE X Wx ea ma) (hg : Gl X "repr" := by rfl)
    (he : starEach (ea :: []) X.env = (false, eval ea X.env) :: starEach [] X.env := by rfl) (hpl : (backTo pos (starEach [] X.env)).any (·.1) = false := by rfl) : GE X Wx (.Call (.Name "repr" p) [ea] [] pos) (mRepr ma) := by
  refine PE.imp (pe_callB (call_reprD g) hg hm (by decide +kernel) (pa_cons ha pa_nil he) (by decide +kernel) (by decide +kernel) he hpl) fun sh H Q ⟨W, sl, st, hr, hs, q⟩ => ?_
  refine rd_bind hr hs q fun d1 st1 W1 v1 H1 e1 x1 h1 s1 r1 p1 => ?_
  unfold reprD at p1
  split at p1
  · rename_i hc
    exact ⟨v1, _, rfl, rep_dpR h1 r1 rfl hc.1, hc.1, hc.2.1, hc.2.2.1, hc.2.2.2, p1.val h1 rfl⟩
  · exact p1.elim

/-! ### a tuple, a list several times -/
def dMulS : Pv.D → Pv.D → Option Pv.D
  | .int i, .int j => if (-(2 ^ 64) < i ∧ i < 2 ^ 64) ∨ (-(2 ^ 64) < j ∧ j < 2 ^ 64) then some (.int (i * j)) else none
  | .tuple ds, .int k => if ds ≠ [] ∧ 2 ≤ k ∧ k ≤ 1000 ∧ ds.length ≤ 1000 then some (.tuple (List.replicate k.toNat ds).flatten) else none
  | .list ds, .int k => if -(2 ^ 63) ≤ k ∧ k < 2 ^ 63 ∧ ds.length * k.toNat ≤ sizeLine then some (.list (List.replicate k.toNat ds).flatten) else none
  | _, _ => none
theorem repL_rep {vs : List V} {ds : List Pv.D} (h : repL K W vs ds) : ∀ n : Nat, repL K W (List.replicate n vs).flatten (List.replicate n ds).flatten
  | 0 => rfl
  | n + 1 => by rw [List.replicate_succ, List.replicate_succ, List.flatten_cons, List.flatten_cons]; exact repL_append h (repL_rep h n)
def mMulS : M → M → M := mOp2 (onD2 dMulS)
theorem ge_mulS (ha : GE X Wx ea ma) (hb : GE X Wx eb mb) : GE X Wx (.BinOp ea .Mult eb pos) (mMulS ma mb) := by
  refine ge_op2 onD2_nx ?_ (pe_op ((op_mul.or op_repT).or op_rep) ha hb)
  intro W H st x y dx dy Q hr rx ry p
  obtain ⟨d, e, p⟩ := onD2_post p
  unfold dMulS at e
  split at e
  · rename_i i j e1 e2
    split at e
    · rename_i hc
      cases e
      exact .inl (.inl ⟨i, j, rep_dint hr rx e1, rep_dint hr ry e2, hc, p.val hr rfl⟩)
    · cases e
  · rename_i ds k e1 e2
    split at e
    · rename_i hc
      cases e
      obtain ⟨a, xs, f1, f2, l⟩ := rep_dtuple hr rx e1
      have hl := repL_length l
      refine .inl (.inr ⟨a, k, xs, f1, rep_dint hr ry e2, f2, fun z => ?_, hc.2.1, hc.2.2.1, by rw [hl]; exact hc.2.2.2, p.tup hr (repL_rep l _)⟩)
      subst z
      exact hc.1 (List.length_eq_zero_iff.mp hl.symm)
    · cases e
  · rename_i ds k e1 e2
    split at e
    · rename_i hc
      cases e
      obtain ⟨a, xs, f1, f2, l⟩ := rep_dlist hr rx e1
      exact .inr ⟨a, k, xs, f1, rep_dint hr ry e2, f2, hc.1, hc.2.1, by rw [repL_length l]; exact hc.2.2, p.lst hr (repL_rep l _)⟩
    · cases e
  · cases e

/-! ### x[::-1] -/
end
section
variable {prog : Program} {w : World} {A : Around} {E : Value → Shared → Prop} {s : Shared}
theorem applied_back {sl : Addr} {t : Tok} {n : Nat} {Q : Int × Int × Nat → Shared → Prop} (hs : s.heap.IsSliceOf sl .none .none (.int (-1) t)) (h : Q ((n : Int) - 1, -1, n) s) :
    wpAny (model prog w) A (Builtin.Slice.sliceApplied (.ref sl) (pure (n : Int))) Q E s := by
  obtain ⟨ob, hob, _, hf⟩ := id hs
  unfold Builtin.Slice.sliceApplied Builtin.Slice.sliceFields
  have f0 : ∀ {Q : Value → Shared → Prop}, Q .none s → wpAny (model prog w) A (field (.ref sl) 0) Q E s := fun q => wpAny_field hob hf rfl q
  have f1 : ∀ {Q : Value → Shared → Prop}, Q .none s → wpAny (model prog w) A (field (.ref sl) 1) Q E s := fun q => wpAny_field hob hf rfl q
  have f2 : ∀ {Q : Value → Shared → Prop}, Q (.int (-1) t) s → wpAny (model prog w) A (field (.ref sl) 2) Q E s := fun q => wpAny_field hob hf rfl q
  refine wpAny_bind (wpAny_bind (f0 (wpAny_bind (f1 (wpAny_bind (f2 (wpAny_pure (wpAny_bind (slicePart_int ?_)))))))))
  show wpAny _ _ (if ((-1 : Int) == 0) = true then _ else _) _ _ s
  rw [if_neg (by decide)]
  refine wpAny_bind (slicePart_none (wpAny_bind (slicePart_none (wpAny_bind (wpAny_pure ?_)))))
  have e : Builtin.Slice.slicePlaces ((n : Int) - 1) (-1) (-1) = n := by
    unfold Builtin.Slice.slicePlaces
    rw [if_neg (by decide)]
    simp only [Int.neg_neg, Int.ediv_one]
    split <;> omega
  show wpAny _ _ (pure ((n : Int) - 1, (-1 : Int), Builtin.Slice.slicePlaces ((n : Int) - 1) (-1) (-1))) _ _ s
  rw [e]
  exact wpAny_pure h
theorem fm_congr {α β : Type} {f g : α → Option β} : ∀ {l : List α}, (∀ k ∈ l, f k = g k) → l.filterMap f = l.filterMap g
  | [], _ => rfl
  | a :: l, h => by rw [List.filterMap_cons, List.filterMap_cons, h a List.mem_cons_self, fm_congr fun k hk => h k (List.mem_cons_of_mem _ hk)]
theorem pick_back (xs : List Value) : ((List.range xs.length).filterMap fun (k : Nat) => xs.toArray[(((xs.length : Nat) : Int) - 1 + (k : Int) * (-1)).toNat]?) = xs.reverse := by
  have e : ∀ k ∈ List.range xs.length, xs.toArray[(((xs.length : Nat) : Int) - 1 + (k : Int) * (-1)).toNat]? = xs.reverse[k]? := by
    intro k hk
    have hk' : k < xs.length := List.mem_range.mp hk
    rw [List.getElem?_reverse hk', List.getElem?_toArray]
    congr 1
    omega
  rw [fm_congr e]
  have g : ∀ (ys : List Value) (n : Nat), (List.range n).filterMap (fun k => ys[k]?) = ys.take n := by
    intro ys n
    induction n with
    | zero => rfl
    | succ n ih =>
      rw [List.range_succ, List.filterMap_append, ih, List.take_succ]
      have e1 : List.filterMap (fun k => ys[k]?) [n] = (ys[n]?).toList := by
        rw [List.filterMap_cons]
        cases ys[n]? <;> rfl
      rw [e1]
  rw [g, ← List.length_reverse, List.take_length]
theorem item_back {a sl : Addr} {its : List Value} {t : Tok} {Q : Value → Shared → Prop} (ht : IsTup s.heap a its.toArray) (hs : s.heap.IsSliceOf sl .none .none (.int (-1) t)) (hz : its.length ≤ sizeLine)
    (h : Q (.ref s.heap.objs.size) { s with heap := s.heap.push { cls := .type "tuple", data := .seq its.reverse.toArray } }) : wpAny (model prog w) A (getItem (.ref a) (.ref sl)) Q E s := by
  have room : sizeOk (.seq its.reverse.toArray) := by
    show its.reverse.toArray.size ≤ sizeLine
    rw [List.size_toArray, List.length_reverse]; exact hz
  obtain ⟨ob, hob, hcl, _⟩ := id hs
  have isSl : s.TypeIs (.ref sl) "slice" := ⟨ob, hob, hcl⟩
  unfold getItem
  try with_reducible refine wpAny_holding ?_
  first | (refine wpAny_bind (wpAny_pure ?_)) | skip
  refine wpAny_bind (wpAny_sequenceKey ht.typeIs (by decide) (wpAny_bind (wpAny_callSpecial?_slot (name := Str.ofString "__getitem__") ht.typeIs PyProof.Rows.slot_tuple_getitem (wpAny_call_entry PyProof.Rows.slot_tuple_getitem ht.typeIs entry_tuple_getitem ?_ (args_tuple_getitem _ _)))))
  show wpAny _ _ (Builtin.Tuple.tupleItemsOf (.ref a) >>= _) _ _ s
  refine wpAny_bind (tupleItemsOf_ ht (wpAny_bind (wpAny_typeOf isSl ?_)))
  rw [if_pos (by decide)]
  have hn : ((its.toArray.size : Nat) : Int) = ((its.length : Nat) : Int) := by rw [List.size_toArray]
  rw [hn]
  refine wpAny_bind (applied_back hs ?_)
  have no : ¬ ((((its.length : Nat) : Int) - 1 == 0 && (-1 : Int) == 1 && its.length == its.toArray.size) = true) := by
    intro q
    rw [Bool.and_eq_true, Bool.and_eq_true] at q
    exact absurd q.1.2 (by decide)
  show wpAny _ _ (if ((((its.length : Nat) : Int) - 1 == 0 && (-1 : Int) == 1 && its.length == its.toArray.size) = true) then _ else _) _ _ s
  rw [if_neg no, pick_back]
  first
    | exact wpAny_bind (m := Builtin.Tuple.tupleExact _) (wpAny_newObj_type (wpAny_pure ⟨_, rfl, wpAny_pure h⟩) room)
    | exact wpAny_bind (m := Builtin.Tuple.tupleExact _) (wpAny_newObj_type (wpAny_bind (wpAny_pure (wpAny_pure ⟨_, rfl, wpAny_pure h⟩))) room)
    | exact wpAny_bind (wpAny_bind (m := Builtin.Tuple.tupleExact _) (wpAny_newObj_type (wpAny_pure (wpAny_pure ⟨_, rfl, wpAny_pure h⟩)) room))
    | exact wpAny_bind (wpAny_bind (m := Builtin.Tuple.tupleExact _) (wpAny_newObj_type (wpAny_pure ⟨_, rfl, wpAny_pure h⟩) room))
end
section
variable {X : Cx} {Wx : WX} {ea eb e : Expr} {ma mb : M} {pos p p1 p2 p3 : Pos} {K : PySem.W.Frag} {W : Wd} {H : Hp} {st : Sto} {v : V} {d : Pv.D} {k : Nat}
def tRevT (K : PySem.W.Frag) (te : TE) : TE := fun sh H Q => te sh H fun x H1 => ∃ a xs, x = .ref a ∧ SqT K H1 a xs ∧ ∀ q, H1 q = none → Q (.ref q) (upd H1 q (.tup xs.reverse))
theorem pe_revT {te : TE} (he : PE X e te) : PE X (.Subscript e (.Slice none none (some (.UnaryOp .USub (.Constant (.int 1) k p1) p2)) p3) pos) (tRevT X.K te) := by
  refine ⟨fun pins s sh H Q I h => Subscript_ (thn (he.run pins s sh H _ I h) ?_)⟩
  intro v s1 ⟨x, H1, I1, r1, a, xs, ex, hx, q⟩
  subst ex
  cases r1
  have step : PO X (some (.UnaryOp .USub (.Constant (.int 1) k p1) p2)) (tPart (tUn (rU fun i => .int (-i)) (tC (.int 1)))) := po_some (pe_un un_neg pe_int)
  refine wpAny_Slice (thn (po_none.run pins s1 sh H1 (fun o H2 => o = none ∧ H2 = H1) I1 ⟨rfl, rfl⟩) ?_)
  intro vl s2 ⟨l, H2, I2, pl, el, e2⟩
  subst el e2
  refine thn (po_none.run pins s2 sh H2 (fun o H3 => o = none ∧ H3 = H2) I2 ⟨rfl, rfl⟩) ?_
  intro vu s3 ⟨u, H3, I3, pu, eu, e3⟩
  subst eu e3
  refine thn (step.run pins s3 sh H3 (fun o H4 => o = some (-1) ∧ H4 = H3) I3 ⟨1, rfl, -1, rfl, rfl, rfl⟩) ?_
  intro vs s4 ⟨o, H4, I4, ps, eo, e4⟩
  subst eo e4
  cases pl
  cases pu
  cases ps with
  | int i t =>
    have I5 : Inv X pins sh H4 { s4 with heap := s4.heap.push { cls := .type "slice", data := .fields #[.none, .none, .int (-1) t] } } := I4.kept (t' := s4.toks) fun b ob z => Heap.get?_push_of_some _ z
    obtain ⟨its, r, ht, hz⟩ := I5.tuple hx
    have hlen := r.length
    show wpAny (model X.prog X.w) X.A (subscriptTail e (.Slice none none (some (.UnaryOp .USub (.Constant (.int 1) k p1) p2)) p3) (.ref a) (.ref s4.heap.objs.size)) (EP X pins sh Q) X.xe { s4 with heap := s4.heap.push { cls := .type "slice", data := .fields #[.none, .none, .int (-1) t] } }
    refine tail_any (ops := [.ref a, .ref s4.heap.objs.size]) ht.typeIs PyProof.Rows.slot_tuple_getitem.lookup (item_back ht (Heap.IsSliceOf.new _ .none .none (.int (-1) t)) (by omega) ?_) (by with_unfolding_all rfl)
    refine ⟨.ref _, _, I5.laid (t' := s4.toks) (o := .tup xs.reverse) (fun b ob z => Heap.get?_push_of_some _ z) (Nat.le_refl _) ?_, rfl, q _ (I5.hok.fresh (Nat.le_refl _))⟩
    exact ⟨by rw [List.length_reverse]; exact hz, _, r.reverse, ⟨_, Heap.get?_push_size _ rfl, rfl, _, rfl⟩⟩
def dRev : Pv.D → Option Pv.D
  | .list ds => some (.list ds.reverse)
  | .tuple ds => some (.tuple ds.reverse)
  | _ => none
def mRev : M → M := mOp1 (onD1 dRev)
theorem ge_rev (ha : GE X Wx ea ma) : GE X Wx (.Subscript ea (.Slice none none (some (.UnaryOp .USub (.Constant (.int 1) k p1) p2)) p3) pos) (mRev ma) := by
  refine PE.imp (PE.or (pe_revL ha) (pe_revT ha)) fun sh H Q ⟨W, sl, st, hr, hs, q⟩ => ?_
  have bothways : ∀ (d1 : Pv.D) (st1 : Sto), ma sl st = .ok d1 st1 → (∃ ds, deref st1 d1 = .list ds) ∨ ∃ ds, deref st1 d1 = .tuple ds := by
    intro d1 st1 e1
    unfold mRev mOp1 at q
    rw [e1] at q
    simp only [R.bind_ok] at q
    obtain ⟨d, e, _⟩ := onD1_post q
    cases hx : deref st1 d1 with
    | list ds => exact .inl ⟨ds, rfl⟩
    | tuple ds => exact .inr ⟨ds, rfl⟩
    | _ => rw [hx] at e; cases e
  cases e0 : ma sl st with
  | bad => unfold mRev mOp1 at q; rw [e0] at q; exact q.elim
  | exc x s2 =>
    refine .inl (rd_bind hr hs q fun d1 st1 W1 v1 H1 e1 => ?_)
    rw [e0] at e1; cases e1
  | ok d0 st0 =>
    rcases bothways d0 st0 e0 with ⟨ds, hx⟩ | ⟨ds, hx⟩
    · refine .inl (rd_bind hr hs q fun d1 st1 W1 v1 H1 e1 x1 h1 s1 r1 p1 => ?_)
      rw [e0] at e1; cases e1
      obtain ⟨d, e, p1⟩ := onD1_post p1
      rw [hx] at e; cases e
      obtain ⟨a, xs, f1, f2, l⟩ := rep_dlist h1 r1 hx
      exact ⟨a, xs, f1, .inl (.inl f2), p1.lst h1 (repL_reverse l)⟩
    · refine .inr (rd_bind hr hs q fun d1 st1 W1 v1 H1 e1 x1 h1 s1 r1 p1 => ?_)
      rw [e0] at e1; cases e1
      obtain ⟨d, e, p1⟩ := onD1_post p1
      rw [hx] at e; cases e
      obtain ⟨a, xs, f1, f2, l⟩ := rep_dtuple h1 r1 hx
      exact ⟨a, xs, f1, f2, p1.tup h1 (repL_reverse l)⟩
end
end Pv
set_option Elab.async false
set_option linter.all false
set_option maxRecDepth 100000
set_option maxHeartbeats 4000000
namespace Pv
open PySem PySem.Spec L2
open PyProof.Rows hiding St

/-! ### enumerate of a tuple -/
section
variable {prog : Program} {w : World} {A : Around} {E : Value → Shared → Prop} {s : Shared}
set_option maxHeartbeats 1000000 in
theorem enum_new1 {v : Value} {o : Obj} {H : Heap → Prop} (B : Begins v o H) : Meets (Builtin.«enumerate.__new__» ⟨[.type "enumerate", v], []⟩) (fun _ R s => H s.heap ∧
      R (.ok (.ret (.ref (s.heap.push o).objs.size))) { s with heap := (s.heap.push o).push { cls := .type "enumerate", data := .fields #[.none, .bool false, .ref s.heap.objs.size, rawInt 0, .none, .none] } }) :=
  .of_wp fun prog w A R s h => by
    obtain ⟨hp, g, d, tk, os⟩ := s
    obtain ⟨h1, h⟩ := h
    have subE := sub_enumerate
    have iter : ∀ {A' : Around} {E : Value → Shared → Prop} {Q : Value → Shared → Prop}, Q (.ref hp.objs.size) ⟨hp.push o, g, d, tk, os⟩ → wpAny (model prog w) A' (pyIter v) Q E ⟨hp, g, d, tk, os⟩ :=
      fun z => B.iter prog w _ _ ⟨hp, g, d, tk, os⟩ _ h1 z
    wp_walk using iter
    refine wpAny_stack_any (fun st => wpAny_pure ?_)
    split
    · rename_i c _ _ _ _ _
      cases (c == Value.type "enumerate") <;> (wp_walk using iter; exact ⟨_, rfl, h⟩)
    · wp_walk using iter
      exact ⟨_, rfl, h⟩
theorem enum_call1 {v : Value} {o : Obj} {H : Heap → Prop} {Q : Value → Shared → Prop} (B : Begins v o H) (h1 : H s.heap)
    (h : ∀ h', IsEnum h' (s.heap.objs.size + 1) s.heap.objs.size 0 .none → h'.get? s.heap.objs.size = some o → (∀ b o, s.heap.get? b = some o → h'.get? b = some o) → Q (.ref (s.heap.objs.size + 1)) { s with heap := h' }) :
    wpAny (model prog w) A (call (.type "enumerate") [v]) Q E s := by
  have size1 : (s.heap.push o).objs.size = s.heap.objs.size + 1 := Heap.size_push ..
  refine callType_new F.called_enumerate (by decide) (F.typeCall_enumerate_1 _) (F.newCall_enumerate_1 _) (fun obj => F.args_object_init_2 obj _) F.entry_enumerate_new (enum_new1 B) ⟨h1, ?_⟩
  show _ ∧ _
  rw [size1]
  have isE : IsEnum ((s.heap.push o).push { cls := .type "enumerate", data := .fields #[.none, .bool false, .ref s.heap.objs.size, rawInt 0, .none, .none] }) (s.heap.objs.size + 1) s.heap.objs.size 0 .none := by
    rw [← size1]
    exact Heap.get?_push_size (s.heap.push o) rfl
  exact ⟨⟨_, isE, rfl⟩, h _ isE (Heap.get?_push_of_some _ (Heap.get?_push_size _ B.free)) fun b o x => Heap.get?_push_of_some _ (Heap.get?_push_of_some _ x)⟩
end
def IteT (K : PySem.W.Frag) (a : Addr) : It :=
  ⟨fun i H => ∃ (xs : List V) (x : V), SqT K H a xs ∧ xs[i]? = some x, fun i H v H' => ∃ T x, v = .ref T ∧ H T = none ∧ H' = upd H T (.tup [.int (i : Nat), x]) ∧ ∀ xs, SqT K H a xs → xs[i]? = some x, fun i H => ∃ xs : List V, SqT K H a xs ∧ xs.length ≤ i⟩
theorem turn_enumT {P : Program} {w : World} {K : PySem.W.Frag} {elts : List Expr} {kk : Nat} {tpos : Pos} (a e it : Addr) :
    Turn P w K (.Tuple elts kk tpos) (IteT K a) [e, it] e (fun i h => (∃ old, IsEnum h e it ((i : Nat) : Int) old) ∧ h.IsTupleIter it a i ∧ e ≠ it ∧ a ≠ it ∧ e ≠ a) where
  mem := by simp
  obj := by
    intro i h st b hb
    obtain ⟨⟨old, he⟩, ⟨o, ho, hc, hd⟩, _⟩ := st
    rcases (show b = e ∨ b = it by simpa using hb) with z | z
    · subst z; exact ⟨_, he, fun v q => nomatch q⟩
    · subst z; exact ⟨o, ho, fun v q => by rw [hd] at q; cases q⟩
  keep := by
    intro i h h' ⟨⟨old, he⟩, hi, ne⟩ k
    exact ⟨⟨old, k e (by simp) _ he⟩, hi.at fun o q => k it (by simp) o q, ne⟩
  item := by
    intro X hP hw hK hc i pins s sh H E I hf ⟨⟨old, he⟩, hit, hne, hai, hea⟩ ⟨xs, x, hq, hx⟩
    subst hP hw hK
    obtain ⟨its, rv, p, hz⟩ := I.tuple hq
    obtain ⟨u, hu, ru⟩ := rv.get hx
    have le : e < s.heap.objs.size := Heap.lt_size he
    have li : it < s.heap.objs.size := let ⟨_, q, _⟩ := hit; Heap.lt_size q
    have Dr : Draws X.prog X.w X.A.in1 it [it, a] its.toArray.size (fun i v => its.toArray[i]? = some v) (fun i h => h.IsTupleIter it a i ∧ h.IsTuple a its.toArray) :=
      .tuple (A := X.A.in1) (show X.A.in1.handled = none from I.ok.hd hc) it a hai its.toArray
    have hlt : i < its.toArray.size := by rw [List.size_toArray]; exact (List.getElem?_eq_some_iff.mp hu).1
    refine wpAny_pyNext_enum_itemD Dr he ⟨hit, p⟩ hlt hne (by simp [hne, hea]) ?_
    intro x1 h' tk hx1 ho ⟨hit', _⟩ hT hsz hk
    have ex1 : x1 = u := by
      have hx1' : its[i]? = some x1 := by simpa using hx1
      rw [hu] at hx1'; cases hx1'; rfl
    subst ex1
    refine ⟨_, rfl, wpAny_letOwnedTupleGo_enum (s := { s with heap := h', toks := tk + 1 }) ho ?_⟩
    intro h'' he' sb
    have hT2 : h''.get? s.heap.objs.size = some { cls := .type "tuple", data := .seq #[.int i tk, x1] } := (sb.2 _ (Nat.ne_of_gt le)).trans hT
    have new : ObjOk X.prog X.w (upd H s.heap.objs.size (.tup [.int (i : Nat), x])) h'' s.heap.objs.size (.tup [.int (i : Nat), x]) :=
      ⟨(by decide : (2 : Nat) ≤ sizeLine), [.int i tk, x1], .cons ⟨_, rfl⟩ (.cons ru .nil), ⟨_, hT2, rfl, _, rfl⟩⟩
    have keep2 : ∀ b ob, b ∉ [e, it] → s.heap.get? b = some ob → h''.get? b = some ob := by
      intro b ob hb q
      have hb1 : b ≠ e := fun z => hb (by simp [z])
      have hb2 : b ≠ it := fun z => hb (by simp [z])
      exact (sb.2 b hb1).trans (hk b ob hb1 hb2 q)
    have I1 : Inv X pins sh (upd H s.heap.objs.size (.tup [.int (i : Nat), x])) { s with heap := h'', toks := tk + 1 } := I.turnedNew (ch := [e, it]) keep2 hf (Nat.le_refl _) new
    refine ⟨.ref s.heap.objs.size, _, I1, rfl, ⟨_, x, rfl, I.hok.fresh (Nat.le_refl _), rfl, fun ys hy => by rw [I.tuple_inj hy hq]; exact hx⟩, ⟨⟨x1, ?_⟩, hit'.at fun o q => (sb.2 it (Ne.symm hne)).trans q, hne, hai, hea⟩, ?_⟩
    · rw [show ((i + 1 : Nat) : Int) = (i : Int) + 1 by omega]; exact he'
    · intro b hb
      have lb : b < s.heap.objs.size := by
        rcases (show b = e ∨ b = it by simpa using hb) with z | z <;> (subst z; assumption)
      rw [upd_ne (Nat.ne_of_lt lb)]
      exact (hf b hb).1
  done := by
    intro X hP hw hK hc i pins s sh H E I hf ⟨⟨old, he⟩, hit, hne, hai, hea⟩ ⟨xs, hq, hx⟩
    subst hP hw hK
    obtain ⟨its, rv, p, hz⟩ := I.tuple hq
    have hl := rv.length
    have out : its.toArray[i]? = none := by simp; omega
    obtain ⟨f0, f1, f2, f3, f4, f5⟩ := hf it (by simp)
    unfold pyNext
    have hT : s.TypeIs (.ref e) "enumerate" := ⟨_, he, rfl⟩
    refine wpAny_bind (wpAny_attempt (wpAny_callSpecial?_slot (name := Str.ofString "__next__") hT F.slot_enumerate_next (wpAny_call_entry F.slot_enumerate_next hT F.entry_enumerate_next ?_ (F.args_enumerate_next_1 _))))
    show wpAny _ _ (field (.ref e) 2 >>= _) _ _ _
    refine wpAny_bind (wpAny_field he rfl (x := .ref it) rfl (wpAny_bind (wpAny_nextOf_tuple_end (I.ok.hd hc) hit p out ?_)))
    intro h' x eb ⟨o, ho, hcl⟩
    exact wpAny_bind (wpAny_isInstance (T := "StopIteration") (b := true) ⟨o, ho, hcl⟩ isSubtype_stop (wpAny_pure ⟨rfl, I.turned (t' := s.toks) (fun b o hb q => eb b o hb q) f0 f1 f3 f4 f5⟩))
  self := fun A i s Q E ⟨⟨_, he⟩, _⟩ h => wpAny_pyIter_enum he h
def iEnumT (K : PySem.W.Frag) (ta : TA) : TI := fun sh H R => ta sh H fun vs H1 => ∃ a xs, vs = [.ref a] ∧ SqT K H1 a xs ∧ R (IteT K a) H1
theorem pi_enumT {X : Cx} {e : Expr} {ta : TA} {p pos tpos : Pos} {elts : List Expr} {kk : Nat} (hg : Gl X "enumerate") (hm : X.mg "enumerate" = none) (ha : PA X [e] ta) (hs : starEach [e] X.env = [(false, eval e X.env)] := by rfl) :
    PI X (.Tuple elts kk tpos) (.Call (.Name "enumerate" p) [e] [] pos) (iEnumT X.K ta) := by
  refine ⟨fun pins s sh H R I h => Call_ (ld_blt I hg hm boot_enumerate (PyProof.Rows.callWith_type1 (thn (ha.run pos pins s sh H _ I h) ?_) hs rfl))⟩
  intro us s1 ⟨vs, H1, I1, r1, a, xs, ex, hq, q⟩
  subst ex
  obtain ⟨u, rfl, r⟩ := r1.one
  cases (show u = Value.ref a from r)
  obtain ⟨its, rv, p', hz⟩ := I1.tuple hq
  have la : a < s1.heap.objs.size := let ⟨_, z, _⟩ := p'; Heap.lt_size z
  refine enum_call1 (begins_tuple a its.toArray) p' ?_
  intro h' he hit hk
  refine wpAny_pyIter_enum he ?_
  have I2 : Inv X pins sh H1 { s1 with heap := h' } := I1.kept (t' := s1.toks) hk
  refine ⟨s1.heap.objs.size + 1, [s1.heap.objs.size + 1, s1.heap.objs.size], _, _, H1, rfl, I2, turn_enumT a (s1.heap.objs.size + 1) s1.heap.objs.size, ⟨⟨.none, he⟩, ⟨_, hit, rfl, rfl⟩, Nat.succ_ne_self _, Nat.ne_of_lt la, Nat.ne_of_gt (Nat.lt_succ_of_lt la)⟩, ?_, q⟩
  intro b hb
  have lb : s1.heap.objs.size ≤ b := by
    rcases (show b = s1.heap.objs.size + 1 ∨ b = s1.heap.objs.size by simpa using hb) with z | z <;> (rw [z]; omega)
  exact I1.fpOk lb (I1.hok.fresh lb)

/-! ### what enumerate walks -/
def numD : Nat → List Pv.D → List Pv.D
  | _, [] => []
  | i, d :: ds => .tuple [.int (i : Int), d] :: numD (i + 1) ds
theorem numD_get : ∀ (ds : List Pv.D) (k i : Nat), (numD k ds)[i]? = (ds[i]?).map fun d => .tuple [.int ((k + i : Nat) : Int), d]
  | [], k, i => by simp [numD]
  | d :: ds, k, 0 => by simp [numD]
  | d :: ds, k, i + 1 => by
    show (numD (k + 1) ds)[i]? = (ds[i]?).map _
    rw [numD_get ds (k + 1) i, show k + 1 + i = k + (i + 1) by omega]
theorem numD_length : ∀ (ds : List Pv.D) (k : Nat), (numD k ds).length = ds.length
  | [], _ => rfl
  | d :: ds, k => by simp [numD, numD_length ds]
def enumOf (d : Pv.D) (st : Sto) : R Src := (srcOf d st).bind fun s st => .ok ⟨numD 0 s.items, s.keep⟩ st
def mEnum (m : M) : MI := fun sl st => (m sl st).bind fun d st => match d with | .str _ => .bad | d => enumOf d st
section
variable {X : Cx} {Wx : WX} {W W' : Wd} {H H' : Hp} {st : Sto} {sl : Sl} {sh : L2.St} {pos p : Pos} {N : Nv}
theorem walk_num {K : PySem.W.Frag} {J0 J : It} {ds : List Pv.D} {keep : Sto → Prop} (hw : WalkK K J0 W ⟨ds, keep⟩) (hstop : ∀ H, J0.stop ds.length H → J.stop ds.length H)
    (hgo : ∀ i H d W1 st1, HR K W1 H st1 → ds[i]? = some d → J0.go i H → (∀ x H', J0.yld i H x H' → ∃ W2, Ext W1 H W2 H' ∧ HR K W2 H' st1 ∧ rep K W2 x d) → J.go i H ∧ ∀ v H', J.yld i H v H' → ∃ T x, v = .ref T ∧ H T = none ∧ H' = upd H T (.tup [.int (i : Nat), x]) ∧ J0.yld i H x H) : WalkK K J W ⟨numD 0 ds, keep⟩ := by
  intro W1 H1 st1 h1 f r k
  obtain ⟨a, b⟩ := hw W1 H1 st1 h1 f r k
  refine ⟨by rw [show (Src.mk (numD 0 ds) keep).items.length = ds.length from numD_length ds 0]; exact hstop H1 a, fun i d hd => ?_⟩
  have hd' : (ds[i]?).map (fun d => PyData.tuple [.int ((0 + i : Nat) : Int), d]) = some d := by rw [← numD_get ds 0 i]; exact hd
  obtain ⟨d0, e0, e1⟩ := Option.map_eq_some_iff.mp hd'
  subst e1
  obtain ⟨g, y⟩ := b i d0 e0
  obtain ⟨g', y'⟩ := hgo i H1 d0 W1 st1 h1 e0 g y
  refine ⟨g', fun v H' yy => ?_⟩
  obtain ⟨T, x, ev, hT, eH, y0⟩ := y' v H' yy
  subst ev; subst eH
  obtain ⟨W2, x2, h2, r2⟩ := y x H1 y0
  obtain ⟨h3, x3⟩ := h2.new (o := .tup [.int (i : Nat), x]) hT
  refine ⟨_, x2.trans x3, h3, T, _, rfl, upd_same, .int (i : Nat), [x], rfl, by show V.int _ = V.int _; rw [Nat.zero_add], x, [], rfl, x3.rep r2, rfl⟩
theorem walk_numL {K : PySem.W.Frag} {a : Addr} {ds : List Pv.D} {keep : Sto → Prop} (hw : WalkK K (Itl K a) W ⟨ds, keep⟩) : WalkK K (Ite K a) W ⟨numD 0 ds, keep⟩ :=
  walk_num hw (fun H h => h) fun i H d W1 st1 h1 hd g y => ⟨g, fun v H' ⟨T, x, e1, e2, e3, e4⟩ => ⟨T, x, e1, e2, e3, rfl, e4⟩⟩
theorem walk_numT {K : PySem.W.Frag} {a : Addr} {ds : List Pv.D} {keep : Sto → Prop} (hw : WalkK K (Itt K a) W ⟨ds, keep⟩) : WalkK K (IteT K a) W ⟨numD 0 ds, keep⟩ :=
  walk_num hw (fun H h => h) fun i H d W1 st1 h1 hd g y => ⟨g, fun v H' ⟨T, x, e1, e2, e3, e4⟩ => ⟨T, x, e1, e2, e3, rfl, e4⟩⟩

theorem gi_enum {ea : Expr} {ma : M} {elts : List Expr} {kk : Nat} {tpos : Pos} (hm : X.mg "enumerate" = none) (ha : GE X Wx ea ma) (hg : Gl X "enumerate" := by rfl) (hs : starEach [ea] X.env = [(false, eval ea X.env)] := by rfl)
    (hs1 : starEach (ea :: []) X.env = (false, eval ea X.env) :: starEach [] X.env := by rfl) : GI X Wx (.Tuple elts kk tpos) (.Call (.Name "enumerate" p) [ea] [] pos) (mEnum ma) := by
  refine PI.imp (PI.or (pi_enum hg hm (pa_cons ha pa_nil hs1) hs) (pi_enumT hg hm (pa_cons ha pa_nil hs1) hs)) fun sh H R ⟨W, sl, st, hr, hs, p⟩ => ?_
  have L : ∀ {d1 st1 W1 v1 H1}, Ext W H W1 H1 → HR X.K W1 H1 st1 → rep X.K W1 v1 d1 → (∀ z, d1 ≠ .str z) → (∀ ds, d1 ≠ .tuple ds) → (∀ ds, d1 ≠ Gc ds) → PostI (nv X) sh Wx W1 H1 R (enumOf d1 st1) → ∃ a xs, [v1] = [V.ref a] ∧ SqL X.K H1 a xs ∧ R (Ite X.K a) H1 := by
    intro d1 st1 W1 v1 H1 x1 h1 r1 n1 n2 n3 p1
    cases d1 with
    | list ds => obtain ⟨a, xs, q1, q2, l⟩ := r1; subst q1; exact ⟨a, xs, rfl, .inl (.inl (h1.sub _ _ q2)), p1 W1 H1 _ .refl h1 (walk_numL (walk_list (.inl (.inl q2)) l))⟩
    | dict kvs =>
      rcases rep_dict r1 with ⟨r, a, f1, f2, f3⟩ | ⟨ds', a, xs, f1, f2, f3, f4⟩ | ⟨ds', a, xs, f1, f2, f3, f4⟩
      · subst f1; subst f2
        unfold enumOf srcOf at p1
        simp only [Int.toNat_natCast] at p1
        obtain ⟨m, hm, _, ho⟩ := h1.at f3
        rw [hm] at p1
        cases m with
        | lst ds => obtain ⟨xs, g1, g2⟩ := ho; exact ⟨a, xs, rfl, .inl (.inl g1), p1 W1 H1 _ .refl h1 (walk_numL (walk_ref f3))⟩
        | ro _ => exact p1.elim
        | dct _ => exact p1.elim
        | dctT _ => exact p1.elim
      · subst f1; exact absurd rfl (n3 ds')
      · subst f1; subst f2; exact ⟨a, xs, rfl, sqL_mono h1.sub f3, p1 W1 H1 _ .refl h1 (walk_numL (walk_list f3 f4))⟩
    | str z => exact absurd rfl (n1 z)
    | tuple ds => exact absurd rfl (n2 ds)
    | none => exact p1.elim
    | bool _ => exact p1.elim
    | int _ => exact p1.elim
  cases e1 : ma sl st with
  | bad => unfold mEnum at p; rw [e1] at p; exact p.elim
  | exc x s2 =>
    refine .inl (rd_bindI hr hs p fun d1 st1 W1 v1 H1 e2 => ?_)
    rw [e1] at e2; cases e2
  | ok d st1 =>
    by_cases n1 : ∃ z, d = .str z
    · obtain ⟨z, n1⟩ := n1; subst n1; unfold mEnum at p; rw [e1] at p; exact p.elim
    · have pp : PostI (nv X) sh Wx W H R ((ma sl st).bind enumOf) := by
        unfold mEnum at p
        rw [e1] at p ⊢
        simp only [Pv.R.bind_ok] at p ⊢
        split at p
        · exact p.elim
        · exact p
      by_cases n2 : ∃ ds, d = .tuple ds
      · obtain ⟨ds, n2⟩ := n2
        subst n2
        refine .inr (rd_bindI hr hs pp fun d1 st1' W1 v1 H1 e2 x1 h1 s1 r1 p1 => ?_)
        rw [e1] at e2; cases e2
        obtain ⟨a, xs, q1, q2, l⟩ := r1
        subst q1
        exact ⟨a, xs, rfl, .inl (.inl (h1.sub _ _ q2)), p1 W1 H1 _ .refl h1 (walk_numT (walk_tup (fun W2 H2 st2 h2 f => .inl (.inl (h2.sub _ _ (f _ _ q2)))) l))⟩
      · by_cases n3 : ∃ ds, d = Gc ds
        · obtain ⟨ds, n3⟩ := n3
          subst n3
          refine .inr (rd_bindI hr hs pp fun d1 st1' W1 v1 H1 e2 x1 h1 s1 r1 p1 => ?_)
          rw [e1] at e2; cases e2
          obtain ⟨a, xs, f2, f3, f4⟩ := r1
          subst f2
          exact ⟨a, xs, rfl, sqT_mono (fun _ _ z => by cases z) f3, p1 W1 H1 _ .refl h1 (walk_numT (walk_tup (fun W2 H2 st2 h2 f => sqT_mono (fun _ _ z => by cases z) f3) f4))⟩
        · refine .inl (rd_bindI hr hs pp fun d1 st1' W1 v1 H1 e2 x1 h1 s1 r1 p1 => ?_)
          rw [e1] at e2; cases e2
          exact L x1 h1 r1 (fun z q => n1 ⟨z, q⟩) (fun z q => n2 ⟨z, q⟩) (fun z q => n3 ⟨z, q⟩) p1
end
end Pv
set_option Elab.async false
set_option linter.all false
set_option maxRecDepth 100000
set_option maxHeartbeats 4000000
namespace Pv
open PySem PySem.Spec L2
open PyProof.Rows hiding St
section
variable {X : Cx} {Wx : WX} {W W' : Wd} {H H' : Hp} {st : Sto} {sl : Sl} {sh : L2.St} {pos p apos : Pos} {N : Nv} {K : PySem.W.Frag}

/-! ### xs.append(e) -/
def fApp (o d : Pv.D) (st : Sto) : R Pv.D :=
  match o with
  | .dict [(.int r, .none)] => (match st[r.toNat]? with | some (.lst ds) => if ds.length < sizeLine then .ok .none (st.set r.toNat (.lst (ds ++ [d]))) else .bad | _ => .bad)
  | _ => .bad
def isLst (st : Sto) (o : Pv.D) : Bool :=
  match o with
  | .dict [(.int r, .none)] => (match st[r.toNat]? with | some (.lst _) => true | _ => false)
  | _ => false
theorem isLst_rep {v : V} {o : Pv.D} (hr : HR K W H st) (h : rep K W v o) (e : isLst st o = true) : ∃ (r : Nat) (a : Addr) (ds : List Pv.D) (xs : List V), o = Rf r ∧ v = .ref a ∧ W.rho[r]? = some a ∧ st[r]? = some (.lst ds) ∧ H a = some (.lst xs) ∧ repL K W xs ds := by
  unfold isLst at e
  split at e
  · rename_i i
    rcases rep_dict h with ⟨r, a, e1, e2, e3⟩ | ⟨ds', a, xs, e1, _, _⟩ | ⟨ds', a, xs, e1, _, _⟩
    rotate_left
    · cases e1
    · cases e1
    have ei : i = (r : Int) := by injection e1 with q1 _; injection q1 with q2 _; injection q2
    subst ei
    rw [Int.toNat_natCast] at e
    obtain ⟨m, hm, _, ho⟩ := hr.at e3
    rw [hm] at e
    cases m with
    | lst ds => obtain ⟨xs, g1, g2⟩ := ho; exact ⟨r, a, ds, xs, rfl, e2, e3, hm, g1, g2⟩
    | ro _ => cases e
    | dct _ => cases e
    | dctT _ => cases e
  · cases e
/-- a method of a list of the store: the receiver, then the argument -/
def mLm (f : F2) (a b : M) : M := fun sl st => (a sl st).bind fun o st => if isLst st o = true then (b sl st).bind fun d st => f o d st else .bad
def mApp : M → M → M := mLm fApp
theorem ge_append {ea eb : Expr} {ma mb : M} (ha : GE X Wx ea ma) (hb : GE X Wx eb mb) (hbase : attributeBase ea "append" X.env (eval ea X.env) = eval ea X.env := by rfl)
    (hfew : ((backTo pos (starEach (eb :: []) X.env)).all (fun x => !x.1) && (backToKw pos (keywordEach [] X.env)).all (fun x => x.1.isSome) && decide ((eb :: ([] : List Expr)).length + ([] : List Keyword).length + (if ([] : List Keyword).isEmpty then 0 else 1) < 30)) = true := by rfl)
    (hline : (apos.endLine == pos.line) = true := by rfl) (hs : starEach (eb :: []) X.env = (false, eval eb X.env) :: starEach [] X.env := by rfl) (hplain : (backTo pos (starEach [] X.env)).any (·.1) = false := by rfl) :
    GE X Wx (.Call (.Attribute ea "append" apos) [eb] [] pos) (mApp ma mb) := by
  refine PE.imp (pe_bm PySem.F.plainAttrs_list PySem.F.slot_list_append PySem.F.type_list_append mt_append ha (pa_cons hb pa_nil hs) hbase hfew hline hs hplain) fun sh H Q ⟨W, sl, st, hr, hs, q⟩ => ?_
  refine rd_bind hr hs q fun d1 st1 W1 v1 H1 e1 x1 h1 s1 r1 p1 => ?_
  split at p1
  · rename_i hl
    obtain ⟨r, a, ds, xs, eo, ev, hrho, hst, hH, hL⟩ := isLst_rep h1 r1 hl
    subst eo; subst ev
    refine ⟨.inl ⟨rfl, xs, .inl (.inl hH)⟩, ?_⟩
    refine rd_bind h1 s1 p1 fun d2 st2 W2 v2 H2 e2 x2 h2 s2 r2 p2 => ?_
    have p2 : Post (nv X) W2 H2 Q (fun cls dd H' => Wx cls dd sh H') (match st2[r]? with | some (.lst ds) => if ds.length < sizeLine then .ok .none (st2.set r (.lst (ds ++ [d2]))) else .bad | _ => .bad) := p2
    split at p2
    · rename_i ds2 hd2
      split at p2
      · rename_i hz
        obtain ⟨b, hb, _, xs2, g1, g2⟩ := h2.at' hd2
        rw [x2.at r a hrho] at hb
        cases hb
        refine ⟨a, xs2, v2, rfl, rfl, g1, by rw [repL_length g2]; exact hz, ?_⟩
        obtain ⟨h3, x3⟩ := h2.set (o := .lst (xs2 ++ [v2])) (m := .lst (ds2 ++ [d2])) (x2.at r a hrho) ⟨_, upd_same, repL_append g2 (repL_one r2)⟩
        exact p2 W2 .non _ x3 h3 rfl
      · exact p2.elim
    · exact p2.elim
  · exact p1.elim
/-! ### a dict's display -/
abbrev Mk2 := List (M × M)
def pairsM : Mk2 → Sl → Sto → R (List (Key × Pv.D))
  | [], _, st => .ok [] st
  | (k, v) :: r, sl, st => (k sl st).bind fun kd st => (v sl st).bind fun vd st => match keyOf kd with
    | some kk => (pairsM r sl st).bind fun ps st => .ok ((kk, vd) :: ps) st
    | none => .bad
def mergeD (kvs more : List (Key × Pv.D)) : List (Key × Pv.D) := more.foldl (fun acc kv => putD acc kv.1 kv.2) kvs
def mDct (ps : Mk2) : M := fun sl st => (pairsM ps sl st).bind fun kvs st => if kvs.length ≤ 15 then .ok (Rf st.length) (st ++ [.dct (mergeD [] kvs)]) else .bad
/-- the pairs' expressions, told -/
inductive GP (X : Cx) (Wx : WX) : List (Option Expr) → List Expr → Mk2 → Prop where
  | nil : GP X Wx [] [] []
  | cons {k v : Expr} {ks : List (Option Expr)} {vs : List Expr} {mk mv : M} {ps : Mk2} (hk : GE X Wx k mk) (hv : GE X Wx v mv) (hr : GP X Wx ks vs ps) : GP X Wx (some k :: ks) (v :: vs) ((mk, mv) :: ps)
def trsOf (N : Nv) (Wx : WX) : Mk2 → List (TE × TE)
  | [] => []
  | (k, v) :: r => (rd N Wx k, rd N Wx v) :: trsOf N Wx r
theorem GP.pps {ks : List (Option Expr)} {vs : List Expr} {ps : Mk2} (h : GP X Wx ks vs ps) : PPs X pos ks vs (trsOf (nv X) Wx ps) := by
  induction h with
  | nil => exact pps_nil
  | cons hk hv _ ih => exact pps_cons hk hv ih
theorem pairs_read : ∀ {ps : Mk2} {W : Wd} {H : Hp} {st : Sto} {Q : VK} {f : List (Key × Pv.D) → Sto → R Pv.D} {Q2 : List (V × V) → Hp → Prop}, HR N.K W H st → SR N.K W sh sl → Post N W H Q (fun cls dd H' => Wx cls dd sh H') ((pairsM ps sl st).bind f) →
    (∀ kvs st1 W1 H1 ks, pairsM ps sl st = .ok kvs st1 → Ext W H W1 H1 → HR N.K W1 H1 st1 → repP N.K W1 ks kvs → Q2 (ks.map fun kv => (kV kv.1, kv.2)) H1) → tPairs (trsOf N Wx ps) sh H Q2
  | [], W, H, st, Q, f, Q2, hr, hs, p, k => k [] st W H [] rfl .refl hr .nil
  | (mk, mv) :: r, W, H, st, Q, f, Q2, hr, hs, p, k => by
    have e : (pairsM ((mk, mv) :: r) sl st).bind f = (mk sl st).bind fun kd st => (mv sl st).bind fun vd st => match keyOf kd with
        | some kk => (pairsM r sl st).bind fun ps st => f ((kk, vd) :: ps) st
        | none => .bad := by
      show ((mk sl st).bind _).bind f = _
      cases mk sl st with
      | ok kd s1 =>
        show ((mv sl s1).bind _).bind f = (mv sl s1).bind _
        cases mv sl s1 with
        | ok vd s2 =>
          show (match keyOf kd with | some kk => (pairsM r sl s2).bind fun ps st => R.ok ((kk, vd) :: ps) st | none => .bad : R _).bind f = _
          cases keyOf kd with
          | none => rfl
          | some kk =>
            show ((pairsM r sl s2).bind _).bind f = (pairsM r sl s2).bind _
            cases pairsM r sl s2 <;> rfl
        | exc _ _ => rfl
        | bad => rfl
      | exc _ _ => rfl
      | bad => rfl
    rw [e] at p
    refine rd_bind hr hs p fun d1 st1 W1 v1 H1 e1 x1 h1 s1 r1 p1 => ?_
    refine rd_bind h1 s1 p1 fun d2 st2 W2 v2 H2 e2 x2 h2 s2 r2 p2 => ?_
    cases hk : keyOf d1 with
    | none => rw [hk] at p2; exact p2.elim
    | some kk =>
      rw [hk] at p2
      refine pairs_read h2 s2 p2 fun kvs st3 W3 H3 ks e3 x3 h3 r3 => ?_
      have := k ((kk, d2) :: kvs) st3 W3 H3 ((kk, v2) :: ks) (by unfold pairsM; rw [e1]; simp only [Pv.R.bind_ok]; rw [e2]; simp only [Pv.R.bind_ok, hk]; rw [e3]; rfl) ((x1.trans x2).trans x3) h3 (.cons ⟨rfl, x3.rep r2⟩ r3)
      rw [keyOf_rep r1 hk]
      exact this
theorem merge_rep {W : Wd} : ∀ {ms : List (Key × V)} {ds : List (Key × Pv.D)} {ks : List (Key × V)} {kvs : List (Key × Pv.D)}, repP K W ms ds → repP K W ks kvs → repP K W (mergeK ks ms) (mergeD kvs ds) := by
  intro ms ds ks kvs h
  induction h generalizing ks kvs with
  | nil => exact fun q => q
  | @cons a b _ _ h _ ih =>
    intro q
    have s := put_rep q b.1 h.2
    show repP K W (mergeK (putK ks a.1 a.2) _) (mergeD (putD kvs b.1 b.2) _)
    rw [h.1]
    exact ih s
/-- an object beside the store -/
theorem HR.beside {o : HO} {a : Addr} (h : HR K W H st) (hp : H a = none) : HR K W (upd H a o) st ∧ Ext W H W (upd H a o) := by
  have hn := h.free hp
  refine ⟨⟨h.len, h.nd, fun b u e => ?_, fun r b m e1 e2 => ?_⟩, ⟨fun _ _ e => e, ⟨[], by simp, fun _ z => by cases z⟩, fun b u e _ => ?_, fun b e => ?_, fun _ _ e => .inl e⟩⟩
  · have hb : b ≠ a := fun z => by subst z; rw [h.freeF hp] at e; cases e
    rw [upd_ne hb]; exact h.sub _ _ e
  · have hb : b ≠ a := fun z => hn (by rw [← z]; exact List.mem_of_getElem? e1)
    obtain ⟨p, q⟩ := h.obj r b m e1 e2
    exact ⟨p, repO_mono (W := W) (fun _ _ z => z) (fun _ _ z => z) (fun u z => by rw [upd_ne hb]; exact z) q⟩
  · have hb : b ≠ a := fun z => by subst z; rw [hp] at e; cases e
    rw [upd_ne hb]; exact e
  · by_cases hb : b = a
    · subst hb; exact hp
    · rw [upd_ne hb] at e; exact e
/-- an object beside the store is written, and is one of the store now -/
theorem HR.adopt {o o' : HO} {a : Addr} {m : MO} {W0 : Wd} {H0 : Hp} (h : HR K W H st) (x : Ext W0 (upd H0 a o') W H) (hp : H0 a = none) (hn : a ∉ W0.rho) (hF : W0.F a = none) (hm : ∀ H1, H1 a = some o → repO K ⟨W.F, W.rho ++ [a]⟩ H1 a m) :
    HR K ⟨W.F, W.rho ++ [a]⟩ (upd H a o) (st ++ [m]) ∧ Ext W0 H0 ⟨W.F, W.rho ++ [a]⟩ (upd H a o) := by
  have now : (upd H0 a o') a = some o' := upd_same
  have hH : H a = some o' := x.out a o' now hn
  have hnW : a ∉ W.rho := by
    obtain ⟨r, hr, hnew⟩ := x.rh
    rw [hr]
    intro z
    rcases List.mem_append.mp z with z | z
    · exact hn z
    · rw [hnew a z] at now; cases now
  have hFW : W.F a = none := by
    cases q : W.F a with
    | none => rfl
    | some u =>
      rcases x.nf _ _ q with z | z
      · rw [hF] at z; cases z
      · rw [now] at z; cases z
  have ne : ∀ {b u}, W.F b = some u → b ≠ a := fun e z => by subst z; rw [hFW] at e; cases e
  refine ⟨⟨by simp [h.len], List.nodup_append.mpr ⟨h.nd, by simp, fun y hy z hz => by
      have : z = a := by simpa using hz
      rw [this]; exact fun q => hnW (q ▸ hy)⟩, fun b u e => by rw [upd_ne (ne e)]; exact h.sub _ _ e, fun r b m' e1 e2 => ?_⟩, ⟨x.fr, ?_, fun b u e hb => ?_, fun b e => ?_, fun b u e => ?_⟩⟩
  · by_cases hr : r < W.rho.length
    · rw [List.getElem?_append_left hr] at e1
      rw [List.getElem?_append_left (by rw [← h.len]; exact hr)] at e2
      have hb : b ≠ a := fun z => hnW (by rw [← z]; exact List.mem_of_getElem? e1)
      obtain ⟨p, q⟩ := h.obj r b m' e1 e2
      refine ⟨p, repO_mono (W := W) (fun _ _ z => z) (fun r c z => ?_) (fun u z => by rw [upd_ne hb]; exact z) q⟩
      show (W.rho ++ [a])[r]? = some c
      rw [List.getElem?_append_left (List.getElem?_eq_some_iff.mp z).1]; exact z
    · rw [List.getElem?_append_right (by omega)] at e1
      rw [List.getElem?_append_right (by rw [← h.len]; omega)] at e2
      rw [h.len] at e1
      cases hk : r - st.length with
      | zero =>
        rw [hk] at e1 e2
        simp at e1 e2
        subst e1; subst e2
        exact ⟨hFW, hm _ upd_same⟩
      | succ k => rw [hk] at e1; simp at e1
  · obtain ⟨r, hr, hnew⟩ := x.rh
    refine ⟨r ++ [a], by show W.rho ++ [a] = _; rw [hr, List.append_assoc], fun b hb => ?_⟩
    rcases List.mem_append.mp hb with z | z
    · have nb := hnew b z
      by_cases q : b = a
      · subst q; exact hp
      · rw [upd_ne q] at nb; exact nb
    · have : b = a := by simpa using z
      rw [this]; exact hp
  · have hb' : b ≠ a := fun z => by subst z; rw [hp] at e; cases e
    rw [upd_ne hb']
    exact x.out b u (by rw [upd_ne hb']; exact e) hb
  · by_cases q : b = a
    · subst q; exact hp
    · rw [upd_ne q] at e
      have := x.non b e
      rw [upd_ne q] at this; exact this
  · rcases x.nf b u e with z | z
    · exact .inl z
    · by_cases q : b = a
      · subst q; rw [upd_same] at z; cases z
      · rw [upd_ne q] at z; exact .inr z
theorem ge_dct {keys : List (Option Expr)} {values : List Expr} {ps : Mk2} (h : GP X Wx keys values ps) (hall : keys.all (·.isSome) = true := by rfl) (hl : keys.length = values.length := by rfl) (h0 : keys ≠ [] := by exact List.cons_ne_nil _ _) (h15 : keys.length ≤ 15 := by decide) :
    GE X Wx (.Dict keys values pos) (mDct ps) := by
  refine PE.imp (pe_disp h.pps hall hl h0 h15) fun sh H Q ⟨W, sl, st, hr, hs, q⟩ => ?_
  intro a ha
  obtain ⟨h1, x1⟩ := hr.beside (o := .dK []) ha
  refine pairs_read (f := fun kvs st => if kvs.length ≤ 15 then .ok (Rf st.length) (st ++ [.dct (mergeD [] kvs)]) else .bad) h1 (hs.ext x1) (Post.ext x1 q) fun kvs st1 W1 H1 ks e2 x2 h2 r2 => ?_
  unfold mDct at q
  rw [e2] at q
  simp only [Pv.R.bind_ok] at q
  split at q
  · rename_i hz
    have hn := hr.free ha
    obtain ⟨h3, x3⟩ := h2.adopt (o := .dK (mergeK [] ks)) (m := .dct (mergeD [] kvs)) x2 ha hn (hr.freeF ha) (fun H9 e => ⟨_, e, repP_mono (W := W1) (fun _ _ z => z) (fun r c z => by
      show (W1.rho ++ [a])[r]? = some c
      rw [List.getElem?_append_left (List.getElem?_eq_some_iff.mp z).1]; exact z) (merge_rep r2 .nil)⟩)
    refine ⟨x2.out a _ upd_same hn, ks, rfl, by rw [repP_length r2]; exact hz, ?_⟩
    refine q _ (.ref a) _ x3 h3 ⟨st1.length, a, rfl, rfl, ?_⟩
    show (W1.rho ++ [a])[st1.length]? = some a
    rw [← h2.len]; simp
  · exact q.elim
end
end Pv
set_option Elab.async false
set_option linter.all false
set_option maxRecDepth 100000
set_option maxHeartbeats 4000000
namespace Pv
open PySem PySem.Spec L2
open PyProof.Rows hiding St

/-! ### words for the printed part -/
/-- so many values come out -/
abbrev Ln (ms : Ms) (n : Nat) : Prop := ∀ sl st ds st', ms sl st = .ok ds st' → ds.length = n
theorem ln_nil : Ln msNil 0 := fun sl st ds st' h => by cases h; rfl
theorem ln_cons {m : M} {ms : Ms} {n : Nat} (h : Ln ms n) : Ln (msCons m ms) (n + 1) := fun sl st ds st' e => by
  unfold msCons at e
  cases q : m sl st with
  | ok d s1 =>
    rw [q] at e
    simp only [R.bind_ok] at e
    cases q2 : ms sl s1 with
    | ok es s2 => rw [q2] at e; cases e; simp [h _ _ _ _ q2]
    | exc _ _ => rw [q2] at e; cases e
    | bad => rw [q2] at e; cases e
  | exc _ _ => rw [q] at e; cases e
  | bad => rw [q] at e; cases e
/-- a def of the text as it stands behind the top -/
def DefAt (K : PySem.W.Frag) (mg : Str → Option Value) (x : Str) (st : Stmt) (ps : List Str) : Prop := ∃ f fd, Fun K x x st f fd ∧ mg x = some (.ref f) ∧ Binds K fd ps []
/-- .. that is called by keywords alone, in the parameters' order -/
def DefAtK (K : PySem.W.Frag) (mg : Str → Option Value) (x : Str) (st : Stmt) (ps : List Str) : Prop := ∃ f fd, Fun K x x st f fd ∧ mg x = some (.ref f) ∧ Binds K fd ps [] ∧ BindsK K fd ps ps (fun l => l)
theorem DefAtK.plain {K : PySem.W.Frag} {mg : Str → Option Value} {x : Str} {st : Stmt} {ps : List Str} (h : DefAtK K mg x st ps) : DefAt K mg x st ps := let ⟨f, fd, a, b, c, _⟩ := h; ⟨f, fd, a, b, c⟩
/-- the law's def: its own binding, of every heap -/
def DefAtL (K : PySem.W.Frag) (mg : Str → Option Value) (x : Str) (st : Stmt) (p : Str) : Prop := ∃ f fd, Fun K x x st f fd ∧ mg x = some (.ref f) ∧ ∀ (s : Shared) (u : Value), BindsTo s fd ⟨[u], []⟩ [(p, u)]
def Has (P : Program) (w : World) (K : PySem.W.Frag) (mg : Str → Option Value) (base : Heap) (k : Nat) (x : Str) (ps : List Str) (F : Fn) : Prop := ∃ f fd, Df P w K mg base k x f fd ps F
def HasK (P : Program) (w : World) (K : PySem.W.Frag) (mg : Str → Option Value) (base : Heap) (k : Nat) (x : Str) (ps : List Str) (F : Fn) : Prop := ∃ f fd, Df P w K mg base k x f fd ps F ∧ BindsK K fd ps ps (fun l => l)
theorem HasK.plain {P : Program} {w : World} {K : PySem.W.Frag} {mg : Str → Option Value} {base : Heap} {k : Nat} {x : Str} {ps : List Str} {F : Fn} (h : HasK P w K mg base k x ps F) : Has P w K mg base k x ps F := let ⟨f, fd, a, _⟩ := h; ⟨f, fd, a⟩
/-- a constant of the module -/
def GcAt (K : PySem.W.Frag) (mg : Str → Option Value) (x : Str) (d : D) : Prop := ∃ u v, mg x = some u ∧ RelV v u ∧ GlobIs ⟨K, mg⟩ v d
theorem bk_of {K : PySem.W.Frag} {x qual : Str} {st : Stmt} {f : Addr} {fd : FuncData} {ps : List Str} (F : Fun K x qual st f fd)
    (h : ∀ (kV doc pm : Value) (an : Option Addr) (cdv ct : Value) (ws : List Value), ws.length = ps.length → bindArgs (PySem.W.fnOf x qual (defArgs st) (defBody st) (defScope st) .none kV doc pm an cdv ct) ⟨[], ps.zip ws⟩ = pure (ps.zip ws)) : BindsK K fd ps ps (fun l => l) := by
  obtain ⟨oc, od, kV, doc, pm, an, cdv, ct, osl, rfl, lk, hcd⟩ := F.ex
  exact ⟨fun s ws _ hl => .of_eq (h kV doc pm an cdv ct ws hl), fun l _ => l, fun r _ => r, fun l => l⟩
theorem bl_of {K : PySem.W.Frag} {x qual p : Str} {st : Stmt} {f : Addr} {fd : FuncData} (F : Fun K x qual st f fd)
    (h : ∀ (kV doc pm : Value) (an : Option Addr) (cdv ct u : Value), bindArgs (PySem.W.fnOf x qual (defArgs st) (defBody st) (defScope st) .none kV doc pm an cdv ct) ⟨[u], []⟩ = pure [(p, u)]) (s : Shared) (u : Value) : BindsTo s fd ⟨[u], []⟩ [(p, u)] := by
  obtain ⟨oc, od, kV, doc, pm, an, cdv, ct, osl, rfl, lk, hcd⟩ := F.ex
  exact .of_eq (h kV doc pm an cdv ct u)
/-- nothing runs at level 0 -/
theorem fnG_bad {P : Program} {w : World} {K : PySem.W.Frag} {mg : Str → Option Value} {base : Heap} {k : Nat} {f : Addr} {fd : FuncData} {ps : List Str} : FnG P w K mg base k f fd ps (fun _ _ => .bad) :=
  ⟨fun A outer s H args us vs Q E hr gu e0 b r ⟨_, _, _, _, _, _, z⟩ => z.elim⟩
theorem fnG_bad' {P : Program} {w : World} {K : PySem.W.Frag} {mg : Str → Option Value} {base : Heap} {k : Nat} {f : Addr} {fd : FuncData} {ps : List Str} {F : Fn} (h : F = fun _ _ => .bad) : FnG P w K mg base k f fd ps F := by
  subst h; exact fnG_bad
end Pv
set_option Elab.async false
set_option linter.all false
set_option maxRecDepth 100000
set_option maxHeartbeats 4000000
namespace Pv
open PySem PySem.Spec L2
open PyProof.Rows hiding St

/-! ### reckoning by simp -/
section
variable {sl : Sl} {st : Sto} {d x y : Pv.D} {i : Nat} {a b c : M} {t u : MT} {ms : Ms}
@[simp] theorem e_var : mVar i sl st = (match sl[i]? with | some (some d) => .ok d st | _ => .bad) := rfl
@[simp] theorem e_c : mC d sl st = .ok d st := rfl
@[simp] theorem e_add : mAdd a b sl st = (a sl st).bind fun x st => (b sl st).bind fun y st => fAdd x y st := rfl
@[simp] theorem e_sub : mSub a b sl st = (a sl st).bind fun x st => (b sl st).bind fun y st => onD2 (dInt2 (fun _ _ => true) fun i j => .int (i - j)) x y st := rfl
@[simp] theorem e_mod : mMod a b sl st = (a sl st).bind fun x st => (b sl st).bind fun y st => onD2 (dInt2 (fun _ j => decide (0 < j)) fun i j => .int (i % j)) x y st := rfl
@[simp] theorem e_fdiv : mFdiv a b sl st = (a sl st).bind fun x st => (b sl st).bind fun y st => onD2 (dInt2 (fun _ j => decide (0 < j ∧ j < 1073741824)) fun i j => .int (i / j)) x y st := rfl
@[simp] theorem e_pow : mPow a b sl st = (a sl st).bind fun x st => (b sl st).bind fun y st => onD2 (dInt2 (fun i j => decide (0 ≤ j ∧ j ≤ 1000000 ∧ i.natAbs < 2 ^ 64)) fun i j => .int (i ^ j.toNat)) x y st := rfl
@[simp] theorem e_mul : mMulS a b sl st = (a sl st).bind fun x st => (b sl st).bind fun y st => onD2 dMulS x y st := rfl
@[simp] theorem e_neg : mNeg a sl st = (a sl st).bind fun x st => onD1 dNeg x st := rfl
@[simp] theorem e_cmp {op : CmpOp} : mCmp op a b sl st = (a sl st).bind fun x st => (b sl st).bind fun y st => onD2 (dCmp op) x y st := rfl
@[simp] theorem e_isN : mIsN a sl st = (a sl st).bind fun x st => .ok (.bool (isNone x)) st := rfl
@[simp] theorem e_notN : mNotN a sl st = (a sl st).bind fun x st => .ok (.bool (!isNone x)) st := rfl
@[simp] theorem e_chain {op op' : CmpOp} : mChain op op' a b c sl st = (a sl st).bind fun x st => (b sl st).bind fun y st => (match onD2 (dCmp op) x y st with
  | .ok (.bool true) st => (c sl st).bind fun z st => onD2 (dCmp op') y z st
  | .ok (.bool false) st => .ok (.bool false) st
  | _ => .bad) := rfl
@[simp] theorem e_tru : mTru a sl st = (a sl st).bind fun d st => lift (truD st d) st := rfl
@[simp] theorem e_tb : mTb a sl st = (a sl st).bind fun d st => (match d with | .bool b => .ok b st | _ => .bad) := rfl
@[simp] theorem e_notT : mNotT t sl st = (t sl st).bind fun b st => .ok (!b) st := rfl
@[simp] theorem e_andT : mAndT t u sl st = (t sl st).bind fun b st => if b = true then u sl st else .ok false st := rfl
@[simp] theorem e_orT : mOrT t u sl st = (t sl st).bind fun b st => if b = true then .ok true st else u sl st := rfl
@[simp] theorem e_and : mAnd a b sl st = (a sl st).bind fun x st => (match truD st x with | some true => b sl st | some false => .ok x st | none => .bad) := rfl
@[simp] theorem e_or : mOr a b sl st = (a sl st).bind fun x st => (match truD st x with | some true => .ok x st | some false => b sl st | none => .bad) := rfl
@[simp] theorem e_not : mNot a sl st = (a sl st).bind fun x st => (match truD st x with | some k => .ok (.bool (!k)) st | none => .bad) := rfl
@[simp] theorem e_if : mIf t a b sl st = (t sl st).bind fun k st => if k = true then a sl st else b sl st := rfl
@[simp] theorem e_msNil : msNil sl st = .ok [] st := rfl
@[simp] theorem e_msCons : msCons a ms sl st = (a sl st).bind fun x st => (ms sl st).bind fun xs st => .ok (x :: xs) st := rfl
@[simp] theorem e_tup : mTup ms sl st = (ms sl st).bind mkTup := rfl
@[simp] theorem e_lst : mLst ms sl st = (ms sl st).bind mkLst := rfl
@[simp] theorem e_lstM : mLstM ms sl st = (ms sl st).bind mkLstM := rfl
@[simp] theorem e_ix : mIx a b sl st = (a sl st).bind fun x st => (b sl st).bind fun y st => fIx x y st := rfl
@[simp] theorem e_moNone : moNone sl st = .ok none st := rfl
@[simp] theorem e_moSome : moSome a sl st = (a sl st).bind fun d st => (match d with | .int i => .ok (some i) st | _ => .bad) := rfl
@[simp] theorem e_sl {lo hi : MO?} : mSl a lo hi sl st = (a sl st).bind fun x st => (lo sl st).bind fun l st => (hi sl st).bind fun h st => fSl l h x st := rfl
@[simp] theorem e_len : mLen a sl st = (a sl st).bind fun x st => onD1 dLen x st := rfl
@[simp] theorem e_int : mInt a sl st = (a sl st).bind fun x st => onD1 dInt x st := rfl
@[simp] theorem e_tuple : mTuple a sl st = (a sl st).bind fun x st => fTuple x st := rfl
@[simp] theorem e_list : mList a sl st = (a sl st).bind fun x st => onD1 dList x st := rfl
@[simp] theorem e_all : mAll a sl st = (a sl st).bind fun x st => onD1 dAll x st := rfl
@[simp] theorem e_any : mAny a sl st = (a sl st).bind fun x st => onD1 dAny x st := rfl
@[simp] theorem e_isi {T : Ty} : mIsi T a sl st = (a sl st).bind fun d st => lift ((tyD st d).map fun t => .bool (t.sub T)) st := rfl
@[simp] theorem e_repr : mRepr a sl st = (a sl st).bind fun d st => lift (reprD st d) st := rfl
@[simp] theorem e_rev : mRev a sl st = (a sl st).bind fun x st => onD1 dRev x st := rfl
@[simp] theorem e_call {F : Fn} : mCall F ms sl st = (ms sl st).bind F := rfl
@[simp] theorem e_seq {p q : MS} : sSeq p q sl st = (p sl st).bind q := rfl
@[simp] theorem e_snil : sNil sl st = .nx sl st := rfl
@[simp] theorem e_asg {g : MG} : sAsg a g sl st = (a sl st).thenS fun d st => (g d sl st).thenS .nx := rfl
@[simp] theorem e_par2 {j : Nat} : sPar2 i j ms sl st = (ms sl st).thenS (set2 i j sl) := rfl
@[simp] theorem e_par3 {j l : Nat} : sPar3 i j l ms sl st = (ms sl st).thenS (set3 i j l sl) := rfl
@[simp] theorem e_expr : sExpr a sl st = (a sl st).thenS fun _ st => .nx sl st := rfl
@[simp] theorem e_brk : sBrk sl st = .bk sl st := rfl
@[simp] theorem e_cont : sCont sl st = .ct sl st := rfl
@[simp] theorem e_ret : sRet a sl st = (a sl st).thenS fun d st => .rt d st := rfl
@[simp] theorem e_retN : sRetN sl st = .rt .none st := rfl
@[simp] theorem e_sif {p q : MS} : sIf t p q sl st = (t sl st).thenS fun k st => if k = true then p sl st else q sl st := rfl
@[simp] theorem e_tgName : tgName i d sl st = .ok (sl.set i (some d)) st := rfl
@[simp] theorem e_tgTup {n : Nat} {g : MGs} {ds : List Pv.D} : tgTup n g (.tuple ds) sl st = if ds.length = n then g ds sl st else .bad := rfl
@[simp] theorem e_tgCons {g : MG} {r : MGs} {ds : List Pv.D} : tgCons g r (d :: ds) sl st = (g d sl st).bind (r ds) := rfl
@[simp] theorem e_tgNil : tgNil [] sl st = .ok sl st := rfl
@[simp] theorem e_tgSub : tgSub a b d sl st = (a sl st).bind fun o st => (b sl st).bind fun i st => (match setO st o i d with | some st' => .ok sl st' | none => .bad) := rfl
@[simp] theorem e_iter : mIter a sl st = (a sl st).bind srcOf := rfl
@[simp] theorem e_for {fg : List Nat} {mi : MI} {g : MG} {p : MS} : sFor fg mi g p sl st = (mi sl st).thenS fun s st => forL s.keep g p fg s.items (wipeD sl fg) st := rfl
@[simp] theorem e_app : mApp a b sl st = (a sl st).bind fun o st => if isLst st o = true then (b sl st).bind fun d st => fApp o d st else .bad := rfl
@[simp] theorem e_tyes : tYesM sl st = .ok true st := rfl
end
section
variable {α : Type} {sl : Sl} {st : Sto} {ds : List Pv.D} {d : Pv.D} {x : XV}
@[simp] theorem rs_nx {f : Sl → Sto → RS} : (RS.nx sl st).bind f = f sl st := rfl
@[simp] theorem rs_rt {f : Sl → Sto → RS} : (RS.rt d st).bind f = .rt d st := rfl
@[simp] theorem rs_exc {f : Sl → Sto → RS} : (RS.exc x st).bind f = .exc x st := rfl
@[simp] theorem rs_bk {f : Sl → Sto → RS} : (RS.bk sl st).bind f = .bk sl st := rfl
@[simp] theorem rs_ct {f : Sl → Sto → RS} : (RS.ct sl st).bind f = .ct sl st := rfl
@[simp] theorem th_ok {a : α} {f : α → Sto → RS} : (R.ok a st).thenS f = f a st := rfl
@[simp] theorem th_exc {f : α → Sto → RS} : (R.exc x st : R α).thenS f = .exc x st := rfl
@[simp] theorem end_nx : endR (.nx sl st) = .ok .none st := rfl
@[simp] theorem end_rt : endR (.rt d st) = .ok d st := rfl
@[simp] theorem end_exc : endR (.exc x st) = .exc x st := rfl
theorem fin_same {n : Nat} (h : st.length = n) : finR n (.ok d st) = .ok d st := by unfold finR; simp [h]
@[simp] theorem fin_now : finR st.length (.ok d st) = .ok d st := fin_same rfl
theorem fnP_e {n : Nat} {p : MS} : fnP n p ds st = finR st.length (endR (p (startD n ds) st)) := rfl
theorem fnK_e {n : Nat} {p : MS} : fnK n p ds st = endR (p (startD n ds) st) := rfl
@[simp] theorem tru_b {b : Bool} : truD st (.bool b) = some b := rfl
@[simp] theorem tru_n : truD st .none = some false := rfl
@[simp] theorem tru_i {i : Int} : truD st (.int i) = some (i != 0) := rfl
@[simp] theorem tru_l {xs : List Pv.D} : truD st (.list xs) = some (!xs.isEmpty) := rfl
@[simp] theorem tru_t {xs : List Pv.D} : truD st (.tuple xs) = some (!xs.isEmpty) := rfl
@[simp] theorem on1 {g : Pv.D → Option Pv.D} {y : Pv.D} : onD1 g y st = lift (g (deref st y)) st := rfl
@[simp] theorem on2 {g : Pv.D → Pv.D → Option Pv.D} {y z : Pv.D} : onD2 g y z st = lift (g (deref st y) (deref st z)) st := rfl
@[simp] theorem add_tt {xs ys : List Pv.D} : fAdd (.tuple xs) (.tuple ys) st = lift (dAddT xs ys) st := rfl
theorem add_ll {xs ys : List Pv.D} : fAdd (.list xs) (.list ys) st = lift (dAdd (.list xs) (.list ys)) st := rfl
@[simp] theorem add_ii {i j : Int} : fAdd (.int i) (.int j) st = .ok (.int (i + j)) st := rfl
@[simp] theorem ty_n : tyD st .none = some .non := rfl
@[simp] theorem ty_b {b : Bool} : tyD st (.bool b) = some .bool := rfl
@[simp] theorem ty_i {i : Int} : tyD st (.int i) = some .int := rfl
@[simp] theorem ty_s {z : Str} : tyD st (.str z) = some .str := rfl
@[simp] theorem ty_l {xs : List Pv.D} : tyD st (.list xs) = some .list := rfl
@[simp] theorem ty_t {xs : List Pv.D} : tyD st (.tuple xs) = some .tuple := rfl
end
end Pv
set_option Elab.async false
set_option linter.all false
set_option maxRecDepth 100000
set_option maxHeartbeats 4000000
namespace Pv
open PySem PySem.Spec L2
open PyProof.Rows hiding St

/-! ### how long a datum's repr is -/
mutual
def wt : Pv.D → Nat
  | .none => 8
  | .bool _ => 8
  | .int i => if i.natAbs < 10 ^ 62 then 64 else 2 ^ 30
  | .str z => 10 * z.length + 4
  | .list ds => wtL ds + 4
  | .tuple ds => wtL ds + 4
  | .dict _ => 2 ^ 30
def wtL : List Pv.D → Nat
  | [] => 0
  | d :: ds => wt d + 4 + wtL ds
end
theorem int_len {i : Int} (h : i.natAbs < 10 ^ 62) : (Str.ofString (toString i)).length ≤ 63 := by
  cases i with
  | ofNat n =>
    have : ((Int.ofNat n)) < 10 ^ 62 := by have h' : n < 10 ^ 62 := h; simp only [Int.ofNat_eq_natCast]; omega
    exact Nat.le_succ_of_le (toString_length_le (v := Int.ofNat n) (Int.natCast_nonneg n) (by decide) this)
  | negSucc m =>
    have h' : m + 1 < 10 ^ 62 := h
    have e : toString (Int.negSucc m) = "-" ++ toString ((m + 1 : Nat) : Int) := rfl
    have q : (Str.ofString (toString ((m + 1 : Nat) : Int))).length ≤ 62 := toString_length_le (Int.natCast_nonneg _) (by decide) (by omega)
    rw [e]
    have e2 : (Str.ofString ("-" ++ toString ((m + 1 : Nat) : Int))).length = 1 + (Str.ofString (toString ((m + 1 : Nat) : Int))).length := by
      rw [PyProof.Rows.ofString_length, PyProof.Rows.ofString_length, String.toList_append, List.length_append]
      rfl
    omega
theorem listText_le (ts : List Str) : (listText ts).length ≤ piled ts + 2 := by
  cases ts with
  | nil => exact (by decide : ((listText [])).length ≤ 2)
  | cons t r =>
    have h := textFrom_length_pos r 1 (("[" : Str) ++ (if (0 : Nat) > 0 then ", " else "" : String) ++ t) (Nat.succ_pos 0)
    have e : ((("[" : Str) ++ (if (0 : Nat) > 0 then ", " else "" : String) ++ t)).length = 1 + t.length := by
      rw [strLen_append, strLen_append]; rfl
    unfold listText
    rw [strLen_append]
    show (textFrom 1 (("[" : Str) ++ (if (0 : Nat) > 0 then ", " else "" : String) ++ t) r).length + 1 ≤ _
    rw [h, e, piled_cons]; omega
theorem tupleText_le (ts : List Str) : (tupleText ts).length ≤ piled ts + 4 := by
  unfold tupleText
  rw [strLen_append, strLen_append]
  have e1 : ((("(" : String) : Str)).length = 1 := rfl
  have e3 : (((if ts.length == 1 then ",)" else ")" : String) : Str)).length ≤ 2 := by split <;> decide
  cases ts with
  | nil => rw [e1]; have : (Str.join ", " []).length = 0 := rfl; omega
  | cons t r => have := join_length_add (t :: r) (by simp); omega
mutual
theorem wt_shown : ∀ d : Pv.D, d.canLay0 = true → wt d < 2 ^ 30 → d.showable = true ∧ d.shown.length ≤ wt d
  | .none, _, _ => ⟨rfl, (by decide : (("None" : Str)).length ≤ 8)⟩
  | .bool b, _, _ => ⟨rfl, by cases b <;> exact (by decide)⟩
  | .int i, _, h => by
    unfold wt at h ⊢
    split at h
    · rename_i hi
      rw [if_pos hi]
      refine ⟨?_, Nat.le_succ_of_le (int_len hi)⟩
      simp only [PyData.showable, decide_eq_true_eq]
      by_cases hz : i.natAbs = 0
      · rw [hz]; decide
      · have l1 : i.natAbs.log2 < 207 := (Nat.log2_lt hz).mpr (Nat.lt_of_lt_of_le hi (by decide))
        omega
    · omega
  | .str z, hc, h => by
    refine ⟨rfl, ?_⟩
    have hc' : z.cps.all (· < 0x110000) = true := by simpa only [PyData.canLay0, PyData.strOk] using hc
    have := StrLaws.reprText_len z fun c h => by
      have := Array.all_eq_true'.mp hc' c (by simpa using h)
      simp at this; omega
    unfold wt
    show (reprText z).length ≤ _
    omega
  | .list ds, hc, h => by
    unfold wt at h ⊢
    obtain ⟨a, b⟩ := wtL_shown ds (by simpa [PyData.canLay0] using hc) (by omega)
    refine ⟨by simpa [PyData.showable] using a, ?_⟩
    simp only [PyData.shown]
    have := listText_le (PyData.shownAll ds)
    omega
  | .tuple ds, hc, h => by
    unfold wt at h ⊢
    obtain ⟨a, b⟩ := wtL_shown ds (by simpa [PyData.canLay0] using hc) (by omega)
    refine ⟨by simpa [PyData.showable] using a, ?_⟩
    simp only [PyData.shown]
    have := tupleText_le (PyData.shownAll ds)
    omega
  | .dict _, hc, _ => by simp [PyData.canLay0] at hc
theorem wtL_shown : ∀ ds : List Pv.D, PyData.canLayAll0 ds = true → wtL ds < 2 ^ 30 → PyData.showableAll ds = true ∧ piled (PyData.shownAll ds) ≤ wtL ds
  | [], _, _ => ⟨rfl, Nat.le_refl _⟩
  | d :: ds, hc, h => by
    unfold wtL at h ⊢
    simp only [PyData.canLayAll0, Bool.and_eq_true] at hc
    obtain ⟨a, b⟩ := wt_shown d hc.1 (by omega)
    obtain ⟨a2, b2⟩ := wtL_shown ds hc.2 (by omega)
    refine ⟨by simp [PyData.showableAll, a, a2], ?_⟩
    simp only [PyData.shownAll, piled_cons]
    omega
end
mutual
theorem wt_len : ∀ ds : List Pv.D, 4 * ds.length ≤ wtL ds
  | [] => Nat.le_refl _
  | d :: ds => by unfold wtL; have := wt_len ds; rw [List.length_cons]; omega
end
theorem wtL_append (xs ys : List Pv.D) : wtL (xs ++ ys) = wtL xs + wtL ys := by
  induction xs with
  | nil => simp [wtL]
  | cons x xs ih => simp only [List.cons_append, wtL, ih]; omega
theorem wtL_mem {d : Pv.D} : ∀ {ds : List Pv.D}, d ∈ ds → wt d ≤ wtL ds
  | e :: ds, h => by
    unfold wtL
    rcases List.mem_cons.mp h with q | q
    · subst q; omega
    · have := wtL_mem q; omega
theorem wtL_take (n : Nat) (ds : List Pv.D) : wtL (ds.take n) ≤ wtL ds := by
  have h : wtL ds = wtL (ds.take n) + wtL (ds.drop n) := by rw [← wtL_append, List.take_append_drop]
  omega
theorem wtL_drop (n : Nat) (ds : List Pv.D) : wtL (ds.drop n) ≤ wtL ds := by
  have h : wtL ds = wtL (ds.take n) + wtL (ds.drop n) := by rw [← wtL_append, List.take_append_drop]
  omega
theorem layAll_append (xs ys : List Pv.D) : PyData.canLayAll0 (xs ++ ys) = (PyData.canLayAll0 xs && PyData.canLayAll0 ys) := by
  induction xs with
  | nil => simp [PyData.canLayAll0]
  | cons x xs ih => simp [PyData.canLayAll0, ih, Bool.and_assoc]
theorem depthAll_append (xs ys : List Pv.D) : PyData.depthAll (xs ++ ys) = max (PyData.depthAll xs) (PyData.depthAll ys) := by
  induction xs with
  | nil => simp [PyData.depthAll]
  | cons x xs ih => simp [PyData.depthAll, ih, Nat.max_assoc]
theorem layAll_iff (xs : List Pv.D) : PyData.canLayAll0 xs = true ↔ ∀ x ∈ xs, x.canLay0 = true := by
  induction xs with
  | nil => simp [PyData.canLayAll0]
  | cons x xs ih => simp [PyData.canLayAll0, ih]
theorem depthAll_le (xs : List Pv.D) (n : Nat) : PyData.depthAll xs ≤ n ↔ ∀ x ∈ xs, x.depth ≤ n := by
  induction xs with
  | nil => simp [PyData.depthAll]
  | cons x xs ih => simp [PyData.depthAll, ih, Nat.max_le]
/-- data as the laws' papers make them -/
structure Ok (d : Pv.D) (n k : Nat) : Prop where
  lay : d.canLay0 = true
  wt : wt d ≤ n
  dp : d.depth ≤ k
theorem Ok.mono {d : Pv.D} {n k n' k' : Nat} (h : Ok d n k) (hn : n ≤ n') (hk : k ≤ k') : Ok d n' k' := ⟨h.lay, Nat.le_trans h.wt hn, Nat.le_trans h.dp hk⟩
theorem deref_ok {d : Pv.D} (h : d.canLay0 = true) (st : Sto) : deref st d = d := by
  cases d with
  | dict _ => simp [PyData.canLay0] at h
  | _ => rfl
theorem repr_ok {d : Pv.D} {n k : Nat} (h : Ok d n k) (hn : n ≤ 2 ^ 24) (hk : k ≤ 100) (st : Sto) : reprD st d = some (.str d.shown) := by
  obtain ⟨a, b⟩ := wt_shown d h.lay (by have := h.wt; omega)
  unfold reprD
  rw [deref_ok h.lay, if_pos ⟨h.lay, a, Nat.le_trans h.dp hk, by have := h.wt; rw [sizeLine_eq]; omega⟩]
end Pv
set_option Elab.async false
set_option linter.all false
set_option maxRecDepth 100000
set_option maxHeartbeats 4000000
namespace Pv
open PySem PySem.Spec L2
open PyProof.Rows hiding St

theorem char_toNat_inj {a b : Char} (h : a.toNat = b.toNat) : a = b := Char.ext (UInt32.toNat_inj.mp h)
theorem map_toNat_inj : ∀ {a b : List Char}, a.map Char.toNat = b.map Char.toNat → a = b
  | [], [], _ => rfl
  | [], _ :: _, h => by cases h
  | _ :: _, [], h => by cases h
  | x :: xs, y :: ys, h => by
    simp only [List.map_cons, List.cons.injEq] at h
    rw [char_toNat_inj h.1, map_toNat_inj h.2]
@[simp] theorem ofString_eq (a b : String) : (Str.ofString a = Str.ofString b) = (a = b) := by
  apply propext
  constructor
  · intro h
    rw [Str.ofString_eq_toList, Str.ofString_eq_toList] at h
    have h1 : (a.toList.map Char.toNat) = (b.toList.map Char.toNat) := by simpa using h
    exact String.ext (map_toNat_inj h1)
  · intro h; rw [h]
@[simp] theorem ofString_beq (a b : String) : (Str.ofString a == Str.ofString b) = (a == b) := by
  by_cases h : a = b
  · subst h; simp
  · have h2 : ¬ Str.ofString a = Str.ofString b := by rw [ofString_eq]; exact h
    rw [beq_eq_false_iff_ne.mpr h2, beq_eq_false_iff_ne.mpr h]
/-! ### comparisons of plain values -/
section
variable {i j : Int} {a b : Str} {xs ys : List Pv.D}
@[simp] theorem cmp_lt_i : dCmp .Lt (.int i) (.int j) = some (.bool (decide (i < j))) := by
  show some (PyData.bool (cmpR .Lt (cmpD (.int i) (.int j)))) = _
  unfold cmpR cmpD
  congr 2
  by_cases h : i < j
  · simp [h]
  · by_cases h2 : i = j <;> simp [h, h2]
@[simp] theorem cmp_le_i : dCmp .LtE (.int i) (.int j) = some (.bool (decide (i ≤ j))) := by
  show some (PyData.bool (cmpR .LtE (cmpD (.int i) (.int j)))) = _
  unfold cmpR cmpD
  congr 2
  by_cases h : i < j
  · have : i ≤ j := by omega
    simp [h, this]
  · by_cases h2 : i = j
    · simp [h2]
    · have : ¬ i ≤ j := by omega
      simp [h, h2, this]
@[simp] theorem cmp_gt_i : dCmp .Gt (.int i) (.int j) = some (.bool (decide (j < i))) := by
  show some (PyData.bool (cmpR .Gt (cmpD (.int i) (.int j)))) = _
  unfold cmpR cmpD
  congr 2
  by_cases h : i < j
  · have : ¬ j < i := by omega
    simp [h, this]
  · by_cases h2 : i = j
    · simp [h2]
    · have : j < i := by omega
      simp [h, h2, this]
@[simp] theorem cmp_ge_i : dCmp .GtE (.int i) (.int j) = some (.bool (decide (j ≤ i))) := by
  show some (PyData.bool (cmpR .GtE (cmpD (.int i) (.int j)))) = _
  unfold cmpR cmpD
  congr 2
  by_cases h : i < j
  · have : ¬ j ≤ i := by omega
    simp [h, this]
  · have : j ≤ i := by omega
    by_cases h2 : i = j <;> simp [h, h2, this]
@[simp] theorem cmp_eq_i : dCmp .Eq (.int i) (.int j) = some (.bool (decide (i = j))) := by
  show some (PyData.bool (i == j)) = _
  rfl
@[simp] theorem cmp_ne_i : dCmp .NotEq (.int i) (.int j) = some (.bool (!decide (i = j))) := by
  show some (PyData.bool (!(i == j))) = _
  rfl
@[simp] theorem cmp_eq_s : dCmp .Eq (.str a) (.str b) = some (.bool (a == b)) := rfl
@[simp] theorem cmp_ne_s : dCmp .NotEq (.str a) (.str b) = some (.bool (!(a == b))) := rfl
theorem eqB_of {x y : Pv.D} (h : layOk x y = true) : dEqB x y = some (PyData.eqv x y) := by
  unfold dEqB
  split
  · rfl
  · rw [if_pos h]
theorem lay_of {x y : Pv.D} (hx : x.canLay0 = true) (hy : y.canLay0 = true) (hd : x.depth ≤ 64) : layOk x y = true := by
  unfold layOk
  rw [hx, hy]
  simp only [Bool.true_and, decide_eq_true_eq]
  omega
theorem lay_of' {x y : Pv.D} (hx : x.canLay0 = true) (hy : y.canLay0 = true) (hd : y.depth ≤ 64) : layOk x y = true := by
  unfold layOk
  rw [hx, hy]
  simp only [Bool.true_and, decide_eq_true_eq]
  omega
theorem cmp_eq {x y : Pv.D} (h : layOk x y = true) : dCmp .Eq x y = some (.bool (PyData.eqv x y)) := by
  show obD (dEqB x y) = _
  rw [eqB_of h]; rfl
theorem cmp_ne {x y : Pv.D} (h : layOk x y = true) : dCmp .NotEq x y = some (.bool (!PyData.eqv x y)) := by
  show obD ((dEqB x y).map (!·)) = _
  rw [eqB_of h]; rfl
@[simp] theorem eqv_nil_l (xs : List Pv.D) : PyData.eqv (.list xs) (.list []) = xs.isEmpty := by cases xs <;> rfl
@[simp] theorem eqv_nil_t (xs : List Pv.D) : PyData.eqv (.tuple xs) (.tuple []) = xs.isEmpty := by cases xs <;> rfl
theorem lay_nil {y : Pv.D} (hy : y.canLay0 = true) : layOk y (.list []) = true ∧ layOk y (.tuple []) = true := by
  unfold layOk
  rw [hy]
  have h : min y.depth 1 ≤ 64 := by omega
  exact ⟨decide_eq_true h, decide_eq_true h⟩
theorem cmp_eq_nilL (h : PyData.canLayAll0 xs = true) : dCmp .Eq (.list xs) (.list []) = some (.bool xs.isEmpty) := by
  rw [cmp_eq (lay_nil (y := .list xs) h).1, eqv_nil_l]
theorem cmp_ne_nilL (h : PyData.canLayAll0 xs = true) : dCmp .NotEq (.list xs) (.list []) = some (.bool (!xs.isEmpty)) := by
  rw [cmp_ne (lay_nil (y := .list xs) h).1, eqv_nil_l]
@[simp] theorem cmp_ne_nn : dCmp .NotEq (.list []) (.list []) = some (.bool false) := cmp_ne_nilL rfl
@[simp] theorem cmp_eq_nn : dCmp .Eq (.list []) (.list []) = some (.bool true) := cmp_eq_nilL rfl
theorem cmp_eq_nilT (h : PyData.canLayAll0 xs = true) : dCmp .Eq (.tuple xs) (.tuple []) = some (.bool xs.isEmpty) := by
  rw [cmp_eq (lay_nil (y := .tuple xs) h).2, eqv_nil_t]
theorem cmp_ne_nilT (h : PyData.canLayAll0 xs = true) : dCmp .NotEq (.tuple xs) (.tuple []) = some (.bool (!xs.isEmpty)) := by
  rw [cmp_ne (lay_nil (y := .tuple xs) h).2, eqv_nil_t]
end
@[simp] theorem fin_cons {d : Pv.D} {a : MO} {st : Sto} : finR (st.length + 1) (.ok d (a :: st)) = .ok d (a :: st) := fin_same rfl
/-! ### the feed -/
def fd (cs : List Pv.D) (sp lf dr : Int) : MO := .dct [(.inr "cells", .list cs), (.inr "spot", .int sp), (.inr "left", .int lf), (.inr "drawn", .int dr)]
def IntsD (cs : List Pv.D) : Prop := ∀ c ∈ cs, ∃ i, c = .int i
section
variable {cs : List Pv.D} {sp lf dr v : Int} {st : Sto}
theorem ints_lay {cs : List Pv.D} (h : IntsD cs) : PyData.canLayAll0 cs = true := (layAll_iff cs).mpr fun x hx => by obtain ⟨i, e⟩ := h x hx; subst e; rfl
theorem fd_cells : fIx (Rf 0) (.str "cells") (fd cs sp lf dr :: st) = .ok (.list cs) (fd cs sp lf dr :: st) := by
  unfold fIx dlook fd; simp [keyOf, lookD]
theorem fd_spot : fIx (Rf 0) (.str "spot") (fd cs sp lf dr :: st) = .ok (.int sp) (fd cs sp lf dr :: st) := by
  unfold fIx dlook fd; simp [keyOf, lookD]
theorem fd_left : fIx (Rf 0) (.str "left") (fd cs sp lf dr :: st) = .ok (.int lf) (fd cs sp lf dr :: st) := by
  unfold fIx dlook fd; simp [keyOf, lookD]
theorem fd_drawn : fIx (Rf 0) (.str "drawn") (fd cs sp lf dr :: st) = .ok (.int dr) (fd cs sp lf dr :: st) := by
  unfold fIx dlook fd; simp [keyOf, lookD]
theorem set_spot : setO (fd cs sp lf dr :: st) (Rf 0) (.str "spot") (.int v) = some (fd cs v lf dr :: st) := by
  unfold setO fd; simp [keyOf, putD, sizeLine_eq]
theorem set_left : setO (fd cs sp lf dr :: st) (Rf 0) (.str "left") (.int v) = some (fd cs sp v dr :: st) := by
  unfold setO fd; simp [keyOf, putD, sizeLine_eq]
theorem set_drawn : setO (fd cs sp lf dr :: st) (Rf 0) (.str "drawn") (.int v) = some (fd cs sp lf v :: st) := by
  unfold setO fd; simp [keyOf, putD, sizeLine_eq]
/-- a cell at any place -/
theorem at_mod {j : Int} (h : IntsD cs) (hne : cs ≠ []) : ∃ c, fIx (.list cs) (.int (j % (cs.length : Int))) st = .ok (.int c) st := by
  have hp : 0 < (cs.length : Int) := by
    have : cs.length ≠ 0 := fun z => hne (List.length_eq_zero_iff.mp z)
    omega
  have h0 := Int.emod_nonneg j (by omega : (cs.length : Int) ≠ 0)
  have h1 := Int.emod_lt_of_pos j hp
  obtain ⟨k, hk⟩ : ∃ k : Nat, j % (cs.length : Int) = (k : Int) := ⟨_, (Int.toNat_of_nonneg h0).symm⟩
  rw [hk] at h1 ⊢
  have hlt : k < cs.length := by omega
  obtain ⟨c, hc⟩ := h cs[k] (List.getElem_mem hlt)
  refine ⟨c, ?_⟩
  have e : dIx (.list cs) (.int (k : Int)) = some (.int c) := by
    show atI cs (k : Int) = _
    unfold atI ixN
    rw [if_pos (by omega), if_pos (by omega)]
    simp [hlt, hc]
  unfold fIx dlook
  simp [e]
theorem isLst_fd : isLst (fd cs sp lf dr :: st) (Rf 0) = false := by unfold isLst fd; simp
end

/-! ### comprehensions that change nothing -/
theorem lcL_map {keep : Sto → Prop} {t : CT} {tt : MT} {te : M} {sl : Sl} {st : Sto} (f : Pv.D → Pv.D) (p : Pv.D → Bool) (hk : keep st) : ∀ {ds : List Pv.D},
    (∀ d ∈ ds, ∃ sl2, ctSet t d sl = some sl2 ∧ tt sl2 st = .ok (p d) st ∧ (p d = true → te sl2 st = .ok (f d) st)) → lcL keep t tt te sl ds st = .ok ((ds.filter p).map f) st
  | [], _ => by unfold lcL; rw [if_pos hk]; rfl
  | d :: ds, h => by
    obtain ⟨sl2, h1, h2, h3⟩ := h d List.mem_cons_self
    have ih := lcL_map f p hk (ds := ds) fun x hx => h x (List.mem_cons_of_mem _ hx)
    unfold lcL
    rw [if_pos hk, h1]
    simp only [h2]
    cases hp : p d with
    | true => simp only [h3 hp, ih, List.filter_cons, hp, if_true, List.map_cons]
    | false => simp [ih, List.filter_cons, hp]
theorem mLc_map {mi : MI} {t : CT} {tt : MT} {te : M} {vs : List Nat} {sl : Sl} {st : Sto} {ds : List Pv.D} {keep : Sto → Prop} (f : Pv.D → Pv.D) (p : Pv.D → Bool) (hi : mi sl st = .ok ⟨ds, keep⟩ st) (hk : keep st) (hz : ds.length ≤ sizeLine)
    (h : ∀ d ∈ ds, ∃ sl2, ctSet t d (wipeD sl vs) = some sl2 ∧ tt sl2 st = .ok (p d) st ∧ (p d = true → te sl2 st = .ok (f d) st)) : mLc mi t tt te vs sl st = .ok (.list ((ds.filter p).map f)) st := by
  unfold mLc lcR
  rw [hi]
  simp only [R.bind_ok, lcL_map f p hk h]
  rw [if_pos]
  · rfl
  · rw [List.length_map]; exact Nat.le_trans (List.length_filter_le _ _) hz
theorem mLc_all {mi : MI} {t : CT} {te : M} {vs : List Nat} {sl : Sl} {st : Sto} {ds : List Pv.D} {keep : Sto → Prop} (f : Pv.D → Pv.D) (hi : mi sl st = .ok ⟨ds, keep⟩ st) (hk : keep st) (hz : ds.length ≤ sizeLine)
    (h : ∀ d ∈ ds, ∃ sl2, ctSet t d (wipeD sl vs) = some sl2 ∧ te sl2 st = .ok (f d) st) : mLc mi t tYesM te vs sl st = .ok (.list (ds.map f)) st := by
  have := mLc_map (tt := tYesM) f (fun _ => true) hi hk hz fun d hd => let ⟨a, b, c⟩ := h d hd; ⟨a, b, rfl, fun _ => c⟩
  rw [this]
  congr 2
  rw [List.filter_eq_self.mpr fun _ _ => rfl]
theorem boolsOf_map {α : Type} (g : α → Bool) : ∀ l : List α, boolsOf (l.map fun d => PyData.bool (g d)) = some (l.map g)
  | [] => rfl
  | a :: l => by
    show (boolsOf (l.map fun d => PyData.bool (g d))).map (g a :: ·) = _
    rw [boolsOf_map g l]; rfl
theorem all_map {α : Type} (g : α → Bool) (l : List α) : dAll (.list (l.map fun d => PyData.bool (g d))) = some (.bool (l.all g)) := by
  show (boolsOf (l.map fun d => PyData.bool (g d))).map _ = _
  rw [boolsOf_map]
  simp [List.all_map]
theorem Ok.memT {ds : List Pv.D} {d : Pv.D} {n k : Nat} (h : Ok (.tuple ds) n k) (hd : d ∈ ds) : Ok d n k := by
  obtain ⟨a, b, c⟩ := h
  refine ⟨(layAll_iff ds).mp a d hd, ?_, ?_⟩
  · unfold Pv.wt at b; have := wtL_mem hd; omega
  · have c' : PyData.depthAll ds + 1 ≤ k := c
    have := (depthAll_le ds (PyData.depthAll ds)).mp (Nat.le_refl _) d hd
    omega
theorem Ok.memL {ds : List Pv.D} {d : Pv.D} {n k : Nat} (h : Ok (.list ds) n k) (hd : d ∈ ds) : Ok d n k := by
  obtain ⟨a, b, c⟩ := h
  refine ⟨(layAll_iff ds).mp a d hd, ?_, ?_⟩
  · unfold Pv.wt at b; have := wtL_mem hd; omega
  · have c' : PyData.depthAll ds + 1 ≤ k := c
    have := (depthAll_le ds (PyData.depthAll ds)).mp (Nat.le_refl _) d hd
    omega
theorem Ok.str_len {z : Str} {k : Nat} (h : Ok (.str z) (2 ^ 24) k) : z.length ≤ sizeLine := by
  have := h.wt
  unfold Pv.wt at this
  rw [sizeLine_eq]; omega
theorem Ok.len_t {ds : List Pv.D} {k : Nat} (h : Ok (.tuple ds) (2 ^ 24) k) : ds.length ≤ sizeLine := by
  have := h.wt
  unfold Pv.wt at this
  have := wt_len ds
  rw [sizeLine_eq]; omega
theorem Ok.nodict {n k : Nat} {kv : List (Pv.D × Pv.D)} (h : Ok (.dict kv) n k) : False := by
  have := h.lay; simp [PyData.canLay0] at this
@[simp] theorem is_none_n : isNone .none = true := rfl
@[simp] theorem is_none_i {i : Int} : isNone (.int i) = false := rfl
@[simp] theorem is_none_b {b : Bool} : isNone (.bool b) = false := rfl
@[simp] theorem is_none_s {z : Str} : isNone (.str z) = false := rfl
@[simp] theorem is_none_l {xs : List Pv.D} : isNone (.list xs) = false := rfl
@[simp] theorem is_none_t {xs : List Pv.D} : isNone (.tuple xs) = false := rfl
@[simp] theorem len_t {xs : List Pv.D} : dLen (.tuple xs) = some (.int xs.length) := rfl
@[simp] theorem len_l {xs : List Pv.D} : dLen (.list xs) = some (.int xs.length) := rfl
theorem len_s {z : Str} (h : z.length ≤ sizeLine) : dLen (.str z) = some (.int z.length) := by show (if z.length ≤ sizeLine then some (PyData.int z.length) else none) = _; rw [if_pos h]
theorem ix_t {ds : List Pv.D} {j : Nat} {d : Pv.D} {st : Sto} (h : ds[j]? = some d) : fIx (.tuple ds) (.int (j : Int)) st = .ok d st := by
  have hlt := (List.getElem?_eq_some_iff.mp h).1
  have e : dIx (.tuple ds) (.int (j : Int)) = some d := by
    show atI ds (j : Int) = _
    unfold atI ixN
    rw [if_pos (by omega), if_pos (by omega)]
    simpa using h
  unfold fIx dlook
  simp [e]
theorem ix_l {ds : List Pv.D} {j : Nat} {d : Pv.D} {st : Sto} (h : ds[j]? = some d) : fIx (.list ds) (.int (j : Int)) st = .ok d st := by
  have hlt := (List.getElem?_eq_some_iff.mp h).1
  have e : dIx (.list ds) (.int (j : Int)) = some d := by
    show atI ds (j : Int) = _
    unfold atI ixN
    rw [if_pos (by omega), if_pos (by omega)]
    simpa using h
  unfold fIx dlook
  simp [e]
@[simp] theorem ix_t0 {a : Pv.D} {ds : List Pv.D} {st : Sto} : fIx (.tuple (a :: ds)) (.int 0) st = .ok a st := ix_t (j := 0) rfl
@[simp] theorem ix_t1 {a b : Pv.D} {ds : List Pv.D} {st : Sto} : fIx (.tuple (a :: b :: ds)) (.int 1) st = .ok b st := ix_t (j := 1) rfl
@[simp] theorem ix_t2 {a b c : Pv.D} {ds : List Pv.D} {st : Sto} : fIx (.tuple (a :: b :: c :: ds)) (.int 2) st = .ok c st := ix_t (j := 2) rfl
@[simp] theorem ix_t3 {a b c d : Pv.D} {ds : List Pv.D} {st : Sto} : fIx (.tuple (a :: b :: c :: d :: ds)) (.int 3) st = .ok d st := ix_t (j := 3) rfl
@[simp] theorem ix_t4 {a b c d e : Pv.D} {ds : List Pv.D} {st : Sto} : fIx (.tuple (a :: b :: c :: d :: e :: ds)) (.int 4) st = .ok e st := ix_t (j := 4) rfl
@[simp] theorem src_t {ds : List Pv.D} {st : Sto} : srcOf (.tuple ds) st = .ok ⟨ds, always⟩ st := rfl
@[simp] theorem src_l {ds : List Pv.D} {st : Sto} : srcOf (.list ds) st = .ok ⟨ds, always⟩ st := rfl
@[simp] theorem src_s {z : Str} {st : Sto} : srcOf (.str z) st = .ok ⟨signs z, always⟩ st := rfl

/-! ### loops that look for a first thing -/
theorem forL_find {keep : Sto → Prop} {tg : MG} {body : MS} {fg : List Nat} {sl : Sl} {st : Sto} (f : Pv.D → Option Pv.D) (hk : keep st) : ∀ {ds : List Pv.D},
    (∀ (k : Nat) (d : Pv.D), ds[k]? = some d → (∀ (j : Nat) (e : Pv.D), j < k → ds[j]? = some e → f e = none) → (f d = none ∧ ∃ sl', (tg d sl st).thenS body = .nx sl' st ∧ wipeD sl' fg = sl) ∨ ∃ r, f d = some r ∧ (tg d sl st).thenS body = .rt r st) →
    forL keep tg body fg ds sl st = (match ds.findSome? f with | none => .nx sl st | some r => .rt r st)
  | [], _ => by unfold forL; rw [if_pos hk]; rfl
  | d :: ds, h => by
    unfold forL
    rw [if_pos hk]
    rcases h 0 d rfl (fun j e hj => absurd hj (Nat.not_lt_zero j)) with ⟨f0, sl', e1, e2⟩ | ⟨r, f0, e1⟩
    · rw [e1]
      simp only [e2, List.findSome?_cons, f0]
      refine forL_find f hk fun k x hx hb => h (k + 1) x hx fun j e hj he => ?_
      cases j with
      | zero => cases (show some d = some e from he); exact f0
      | succ j => exact hb j e (Nat.lt_of_succ_lt_succ hj) he
    · rw [e1]
      simp only [List.findSome?_cons, f0]
def ltS (a b : Str) : Bool := cmpR .Lt (cmpD (.str a) (.str b))
@[simp] theorem cmp_lt_s {a b : Str} : dCmp .Lt (.str a) (.str b) = some (.bool (ltS a b)) := rfl
@[simp] theorem cmp_ge_s {a b : Str} : dCmp .GtE (.str a) (.str b) = some (.bool (!ltS a b)) := by
  show some (PyData.bool (cmpR .GtE (cmpD (.str a) (.str b)))) = _
  unfold ltS cmpR
  cases cmpD (.str a) (.str b) <;> rfl

theorem in_tup {x : Pv.D} {ns : List Pv.D} (h : x.canLay0 = true) (hn : PyData.canLayAll0 ns = true) (hd : min (PyData.depthAll ns) x.depth ≤ 64) : dCmp .In x (.tuple ns) = some (.bool (ns.any fun z => PyData.eqv z x)) := by
  show obD (dIn x (.tuple ns)) = _
  unfold dIn
  simp only [h, hn, decide_eq_true hd, Bool.and_self, if_true]
  rfl
theorem in_lst {x : Pv.D} {ns : List Pv.D} (h : x.canLay0 = true) (hn : PyData.canLayAll0 ns = true) (hd : min (PyData.depthAll ns) x.depth ≤ 64) : dCmp .In x (.list ns) = some (.bool (ns.any fun z => PyData.eqv z x)) := by
  show obD (dIn x (.list ns)) = _
  unfold dIn
  simp only [h, hn, decide_eq_true hd, Bool.and_self, if_true]
  rfl
end Pv
set_option Elab.async false
set_option linter.all false
set_option maxRecDepth 100000
set_option maxHeartbeats 4000000
namespace Pv
open PySem PySem.Spec L2
open PyProof.Rows hiding St signs cutD

/-! ### the greatest number in a datum -/
mutual
def mx : Pv.D → Nat
  | .int i => i.natAbs
  | .list ds => mxL ds
  | .tuple ds => mxL ds
  | _ => 0
def mxL : List Pv.D → Nat
  | [] => 0
  | d :: ds => max (mx d) (mxL ds)
end
theorem mxL_append (xs ys : List Pv.D) : mxL (xs ++ ys) = max (mxL xs) (mxL ys) := by
  induction xs with
  | nil => simp [mxL]
  | cons x xs ih => simp only [List.cons_append, mxL, ih, Nat.max_assoc]
theorem mxL_mem {d : Pv.D} : ∀ {ds : List Pv.D}, d ∈ ds → mx d ≤ mxL ds
  | e :: ds, h => by
    unfold mxL
    rcases List.mem_cons.mp h with q | q
    · subst q; exact Nat.le_max_left _ _
    · exact Nat.le_trans (mxL_mem q) (Nat.le_max_right _ _)
theorem mxL_le {ds : List Pv.D} {n : Nat} : mxL ds ≤ n ↔ ∀ d ∈ ds, mx d ≤ n := by
  induction ds with
  | nil => simp [mxL]
  | cons d ds ih => simp [mxL, Nat.max_le, ih]
/-- bounded data: weight, depth, numbers -/
structure Bd (d : Pv.D) (n k b : Nat) : Prop where
  lay : d.canLay0 = true
  wt : wt d ≤ n
  dp : d.depth ≤ k
  mx : mx d ≤ b
theorem Bd.ok {d : Pv.D} {n k b : Nat} (h : Bd d n k b) : Ok d n k := ⟨h.lay, h.wt, h.dp⟩
theorem Bd.mono {d : Pv.D} {n k b n' k' b' : Nat} (h : Bd d n k b) (hn : n ≤ n') (hk : k ≤ k') (hb : b ≤ b') : Bd d n' k' b' := ⟨h.lay, Nat.le_trans h.wt hn, Nat.le_trans h.dp hk, Nat.le_trans h.mx hb⟩
/-- a list of bounded data -/
structure BdL (ds : List Pv.D) (n k b : Nat) : Prop where
  lay : PyData.canLayAll0 ds = true
  wt : wtL ds ≤ n
  dp : PyData.depthAll ds ≤ k
  mx : mxL ds ≤ b
theorem Bd.tup {ds : List Pv.D} {n k b : Nat} (h : BdL ds n k b) : Bd (.tuple ds) (n + 4) (k + 1) b := ⟨h.lay, by unfold Pv.wt; have := h.wt; omega, by show PyData.depthAll ds + 1 ≤ k + 1; have := h.dp; omega, h.mx⟩
theorem Bd.lst {ds : List Pv.D} {n k b : Nat} (h : BdL ds n k b) : Bd (.list ds) (n + 4) (k + 1) b := ⟨h.lay, by unfold Pv.wt; have := h.wt; omega, by show PyData.depthAll ds + 1 ≤ k + 1; have := h.dp; omega, h.mx⟩
theorem BdL.nil {k b : Nat} : BdL [] 0 k b := ⟨rfl, Nat.le_refl _, Nat.zero_le _, Nat.zero_le _⟩
theorem BdL.cons {d : Pv.D} {ds : List Pv.D} {n m k b : Nat} (h : Bd d n k b) (t : BdL ds m k b) : BdL (d :: ds) (n + 4 + m) k b :=
  ⟨by show (d.canLay0 && PyData.canLayAll0 ds) = true; rw [h.lay, t.lay]; rfl, by unfold wtL; have := h.wt; have := t.wt; omega, Nat.max_le.mpr ⟨h.dp, t.dp⟩, Nat.max_le.mpr ⟨h.mx, t.mx⟩⟩
theorem BdL.append {xs ys : List Pv.D} {n m k b : Nat} (h : BdL xs n k b) (t : BdL ys m k b) : BdL (xs ++ ys) (n + m) k b :=
  ⟨by rw [layAll_append, h.lay, t.lay]; rfl, by rw [wtL_append]; have := h.wt; have := t.wt; omega, by rw [depthAll_append]; exact Nat.max_le.mpr ⟨h.dp, t.dp⟩, by rw [mxL_append]; exact Nat.max_le.mpr ⟨h.mx, t.mx⟩⟩
theorem BdL.mono {ds : List Pv.D} {n k b n' k' b' : Nat} (h : BdL ds n k b) (hn : n ≤ n') (hk : k ≤ k') (hb : b ≤ b') : BdL ds n' k' b' := ⟨h.lay, Nat.le_trans h.wt hn, Nat.le_trans h.dp hk, Nat.le_trans h.mx hb⟩
theorem BdL.mem {d : Pv.D} {ds : List Pv.D} {n k b : Nat} (h : BdL ds n k b) (hd : d ∈ ds) : Bd d n k b :=
  ⟨(layAll_iff ds).mp h.lay d hd, Nat.le_trans (wtL_mem hd) h.wt, (depthAll_le ds k).mp h.dp d hd, Nat.le_trans (mxL_mem hd) h.mx⟩
theorem BdL.take {ds : List Pv.D} {n k b : Nat} (j : Nat) (h : BdL ds n k b) : BdL (ds.take j) n k b :=
  ⟨(layAll_iff _).mpr fun d hd => (layAll_iff ds).mp h.lay d (List.mem_of_mem_take hd), Nat.le_trans (wtL_take j ds) h.wt, (depthAll_le _ k).mpr fun d hd => (depthAll_le ds k).mp h.dp d (List.mem_of_mem_take hd), mxL_le.mpr fun d hd => mxL_le.mp h.mx d (List.mem_of_mem_take hd)⟩
theorem BdL.drop {ds : List Pv.D} {n k b : Nat} (j : Nat) (h : BdL ds n k b) : BdL (ds.drop j) n k b :=
  ⟨(layAll_iff _).mpr fun d hd => (layAll_iff ds).mp h.lay d (List.mem_of_mem_drop hd), Nat.le_trans (wtL_drop j ds) h.wt, (depthAll_le _ k).mpr fun d hd => (depthAll_le ds k).mp h.dp d (List.mem_of_mem_drop hd), mxL_le.mpr fun d hd => mxL_le.mp h.mx d (List.mem_of_mem_drop hd)⟩
theorem wtL_reverse (ds : List Pv.D) : wtL ds.reverse = wtL ds := by
  induction ds with
  | nil => rfl
  | cons d ds ih => rw [List.reverse_cons, wtL_append, ih]; simp only [wtL]; omega
theorem BdL.reverse {ds : List Pv.D} {n k b : Nat} (h : BdL ds n k b) : BdL ds.reverse n k b :=
  ⟨(layAll_iff _).mpr fun d hd => (layAll_iff ds).mp h.lay d (List.mem_reverse.mp hd), by rw [wtL_reverse]; exact h.wt, (depthAll_le _ k).mpr fun d hd => (depthAll_le ds k).mp h.dp d (List.mem_reverse.mp hd), mxL_le.mpr fun d hd => mxL_le.mp h.mx d (List.mem_reverse.mp hd)⟩
theorem Bd.itemsT {ds : List Pv.D} {n k b : Nat} (h : Bd (.tuple ds) n (k + 1) b) : BdL ds (n - 4) k b :=
  ⟨h.lay, by have := h.wt; unfold Pv.wt at this; omega, by have := h.dp; have e : (PyData.tuple ds).depth = PyData.depthAll ds + 1 := rfl; omega, h.mx⟩
theorem Bd.int {i : Int} {b k : Nat} (h : i.natAbs ≤ b) (hb : b < 10 ^ 62) : Bd (.int i) 64 k b := ⟨rfl, by unfold Pv.wt; rw [if_pos (by omega)]; exact Nat.le_refl _, Nat.zero_le _, h⟩
theorem Bd.str {z : Str} {n b k : Nat} (h : (PyData.str z).canLay0 = true) (hz : 10 * z.length + 4 ≤ n) : Bd (.str z) n k b := ⟨h, by unfold Pv.wt; exact hz, Nat.zero_le _, Nat.zero_le _⟩
theorem lay_cat {a b : Str} (ha : (PyData.str a).canLay0 = true) (hb : (PyData.str b).canLay0 = true) : (PyData.str (a ++ b)).canLay0 = true := by
  have e : ∀ z : Str, (PyData.str z).canLay0 = true ↔ ∀ c ∈ z.cps.toList, c < 0x110000 := by
    intro z
    simp only [PyData.canLay0, PyData.strOk, Array.all_eq_true', decide_eq_true_eq, Array.mem_toList_iff]
  rw [e] at ha hb ⊢
  intro c hc
  have hc' : c ∈ (a.cps ++ b.cps).toList := hc
  rw [Array.toList_append] at hc'
  rcases List.mem_append.mp hc' with q | q
  · exact ha c q
  · exact hb c q
/-! ### data without objects stay -/
mutual
theorem fz_clean {g : Nat → Option Pv.D} : ∀ d : Pv.D, d.canLay0 = true → fz g d = some d
  | .none, _ => rfl
  | .bool _, _ => rfl
  | .int _, _ => rfl
  | .str _, _ => rfl
  | .list ds, h => by show (fzL g ds).map PyData.list = _; rw [fzL_clean ds h]; rfl
  | .tuple ds, h => by show (fzL g ds).map PyData.tuple = _; rw [fzL_clean ds h]; rfl
  | .dict _, h => by simp [PyData.canLay0] at h
theorem fzL_clean {g : Nat → Option Pv.D} : ∀ ds : List Pv.D, PyData.canLayAll0 ds = true → fzL g ds = some ds
  | [], _ => rfl
  | d :: ds, h => by
    have h' : d.canLay0 = true ∧ PyData.canLayAll0 ds = true := by simpa [PyData.canLayAll0] using h
    show (fz g d).bind (fun e => (fzL g ds).map (e :: ·)) = _
    rw [fz_clean d h'.1, fzL_clean ds h'.2]; rfl
end
theorem fd_clean {g : Nat → Option Pv.D} {cs : List Pv.D} {sp lf dr : Int} (h : IntsD cs) : fzO g (fd cs sp lf dr) = some (fd cs sp lf dr) := by
  have e := fzL_clean (g := g) cs (ints_lay h)
  unfold fd
  show (fzP g _).map MO.dct = _
  simp [fzP, e, fz]
/-- a def that leaves its own objects behind, the feed ahead of them -/
theorem fin_fd {cs : List Pv.D} {sp lf dr : Int} {d : Pv.D} {more : Sto} (h : IntsD cs) (hd : d.canLay0 = true) : finR 1 (.ok d (fd cs sp lf dr :: more)) = .ok d [fd cs sp lf dr] := by
  unfold finR
  simp only [List.length_cons]
  split
  · rename_i q
    have : more = [] := List.length_eq_zero_iff.mp (by omega)
    rw [this]
  · rw [fz_clean d hd]
    simp [fzS, fd_clean h]
/-- loops that go to their end -/
theorem forL_inv {keep : Sto → Prop} {tg : MG} {body : MS} {fg : List Nat} (I : Nat → Sl → Sto → Prop) (N : Nat) (hk : ∀ st, keep st) : ∀ {ds : List Pv.D} {k : Nat} {sl : Sl} {st : Sto}, k + ds.length ≤ N → I k sl st →
    (∀ (d : Pv.D) (k : Nat) (sl : Sl) (st : Sto), d ∈ ds → k < N → I k sl st → ∃ sl' st', (tg d sl st).thenS body = .nx sl' st' ∧ I (k + 1) (wipeD sl' fg) st') → ∃ sl' st', forL keep tg body fg ds sl st = .nx sl' st' ∧ I (k + ds.length) sl' st'
  | [], k, sl, st, hn, h, _ => ⟨sl, st, by unfold forL; rw [if_pos (hk st)], h⟩
  | d :: ds, k, sl, st, hn, h, hs => by
    rw [List.length_cons] at hn
    obtain ⟨sl', st', e, i⟩ := hs d k sl st List.mem_cons_self (by omega) h
    obtain ⟨sl2, st2, e2, i2⟩ := forL_inv I N hk (ds := ds) (by omega) i fun x k sl st hx => hs x k sl st (List.mem_cons_of_mem _ hx)
    refine ⟨sl2, st2, ?_, by rw [List.length_cons, show k + (ds.length + 1) = k + 1 + ds.length by omega]; exact i2⟩
    unfold forL
    rw [if_pos (hk st), e]
    exact e2
end Pv
set_option Elab.async false
set_option linter.all false
set_option maxRecDepth 100000
set_option maxHeartbeats 4000000
namespace Gstampahead_k75_logs_told
open PySem PySem.Spec L2 Pv
open PyProof.Rows hiding St
noncomputable def b__law_feed : MS := sRet (mDct ((mC (.str "cells"), mLc (mIter (mSl (mVar 0) (moNone) (moSome (mC (.int 63))))) (.nm 1) (tYesM) (mInt (mVar 1)) [1]) :: (mC (.str "spot"), mC (.int 0)) :: (mC (.str "left"), mC (.int 0)) :: (mC (.str "drawn"), mC (.int 0)) :: []))
noncomputable def F__law_feed : Fn := fnK 2 b__law_feed
noncomputable def b__law_draw : MS := sSeq (sAsg (mAdd (mIx (mVar 0) (mC (.str "drawn"))) (mC (.int 1))) (tgSub (mVar 0) (mC (.str "drawn")))) (sSeq (sIf (mTb (mCmp .Gt (mIx (mVar 0) (mC (.str "left"))) (mC (.int 0)))) (sSeq (sAsg (mMod (mInt (mIx (mVar 0) (mC (.str "left")))) (mVar 1)) (tgName 2)) (sSeq (sAsg (mFdiv (mIx (mVar 0) (mC (.str "left"))) (mVar 1)) (tgSub (mVar 0) (mC (.str "left")))) (sRet (mVar 2)))) (sNil)) (sSeq (sPar2 3 4 (msCons (mIx (mVar 0) (mC (.str "spot"))) (msCons (mIx (mVar 0) (mC (.str "cells"))) (msNil)))) (sSeq (sAsg (mAdd (mVar 3) (mC (.int 1))) (tgSub (mVar 0) (mC (.str "spot")))) (sSeq (sAsg (mIf (mTb (mCmp .NotEq (mVar 4) (mLst (msNil)))) (mIx (mVar 4) (mMod (mInt (mVar 3)) (mLen (mVar 4)))) (mC (.int 399298))) (tgName 5)) (sSeq (sIf (mAndT (mTb (mCmp .GtE (mVar 5) (mPow (mC (.int 10)) (mC (.int 18))))) (mTb (mCmp .Lt (mVar 3) (mLen (mVar 4))))) (sSeq (sAsg (mFdiv (mVar 5) (mVar 1)) (tgSub (mVar 0) (mC (.str "left")))) (sRet (mMod (mInt (mVar 5)) (mVar 1)))) (sNil)) (sSeq (sAsg (mMod (mInt (mAdd (mAdd (mMulS (mMod (mInt (mVar 5)) (mC (.int 1000000739))) (mC (.int 5))) (mMulS (mC (.int 77802)) (mIx (mVar 0) (mC (.str "drawn"))))) (mC (.int 758)))) (mC (.int 2147483179))) (tgName 6)) (sSeq (sAsg (mMod (mInt (mAdd (mAdd (mMulS (mVar 6) (mVar 6)) (mMulS (mC (.int 87510)) (mIx (mVar 0) (mC (.str "drawn"))))) (mC (.int 864)))) (mC (.int 2147483549))) (tgName 6)) (sRet (mMod (mInt (mFdiv (mMod (mInt (mAdd (mMulS (mVar 6) (mVar 6)) (mMulS (mC (.int 747)) (mVar 6)))) (mC (.int 2147483399))) (mC (.int 16)))) (mVar 1))))))))))
noncomputable def F__law_draw : Fn := fnP 7 b__law_draw
noncomputable def b__law_any : MS := sRet (mIx (mVar 1) (mCall F__law_draw (msCons (mVar 0) (msCons (mLen (mVar 1)) (msNil)))))
noncomputable def F__law_any : Fn := fnP 2 b__law_any
noncomputable def l0__law_any_tome : MS := sSeq (sAsg (mTup (msCons (mCall F__law_any (msCons (mVar 0) (msCons (mVar 3) (msNil)))) (msCons (mCall F__law_any (msCons (mVar 0) (msCons (mVar 3) (msNil)))) (msNil)))) (tgName 7)) (sExpr (mApp (mVar 4) (mAdd (mAdd (mTup (msCons (mVar 6) (msNil))) (mVar 7)) (mTup (msCons (mAdd (mC (.int 1)) (mCall F__law_draw (msCons (mVar 0) (msCons (mC (.int 4)) (msNil))))) (msNil))))))
noncomputable def l1__law_any_tome : MS := sIf (mAndT (mTb (mCmp .NotEq (mVar 8) (mVar 6))) (mTb (mCmp .Gt (mCall F__law_draw (msCons (mVar 0) (msCons (mC (.int 3)) (msNil)))) (mC (.int 0))))) (sExpr (mApp (mVar 5) (mTup (msCons (mVar 6) (msCons (mVar 8) (msCons (mCall F__law_any (msCons (mVar 0) (msCons (mLst (msCons (mC (.int 0)) (msCons (mC (.int 0)) (msCons (mC (.int 0)) (msCons (mC (.int 1)) (msCons (mC (.int 2)) (msCons (mC (.int 60)) (msNil)))))))) (msNil)))) (msNil))))))) (sNil)
noncomputable def l2__law_any_tome : MS := sFor [8] (mIter (mVar 2)) (tgName 8) (l1__law_any_tome)
noncomputable def b__law_any_tome : MS := sSeq (sAsg (mLst (msCons (mLst (msCons (mC (.str "amy")) (msCons (mC (.str "bob")) (msCons (mC (.str "cid")) (msCons (mC (.str "dan")) (msNil)))))) (msCons (mLst (msCons (mC (.str "a")) (msCons (mC (.str "ab")) (msCons (mC (.str "abc")) (msCons (mC (.str "b")) (msNil)))))) (msCons (mLst (msCons (mC (.str "clock")) (msCons (mC (.str "cut")) (msCons (mC (.str "road")) (msCons (mC (.str "tell")) (msNil)))))) (msNil))))) (tgName 1)) (sSeq (sAsg (mSl (mCall F__law_any (msCons (mVar 0) (msCons (mAdd (mVar 1) (mLst (msCons (mLst (msCons (mC (.str "host")) (msCons (mC (.str "live")) (msCons (mC (.str "most")) (msCons (mC (.str "zzzzzzzz")) (msNil)))))) (msNil)))) (msNil)))) (moNone) (moSome (mAdd (mC (.int 1)) (mCall F__law_draw (msCons (mVar 0) (msCons (mC (.int 4)) (msNil))))))) (tgName 2)) (sSeq (sPar3 3 4 5 (msCons (mCall F__law_any (msCons (mVar 0) (msCons (mLst (msCons (mLst (msCons (mC (.int 0)) (msCons (mC (.int 0)) (msCons (mC (.int 1)) (msCons (mC (.int 2)) (msNil)))))) (msCons (mLst (msCons (mC (.int 0)) (msCons (mC (.int 1)) (msCons (mC (.int 2)) (msCons (mC (.int 3)) (msNil)))))) (msCons (mLst (msCons (mC (.int 0)) (msCons (mC (.int 1)) (msCons (mC (.int 7)) (msCons (mC (.int 60)) (msNil)))))) (msNil))))) (msNil)))) (msCons (mLstM (msNil)) (msCons (mLstM (msNil)) (msNil))))) (sSeq (sFor [6, 7] (mIter (mVar 2)) (tgName 6) (l0__law_any_tome)) (sSeq (sFor [6, 8] (mIter (mVar 2)) (tgName 6) (l2__law_any_tome)) (sSeq (sAsg (mCall F__law_any (msCons (mVar 0) (msCons (mLst (msCons (mC .none) (msCons (mC (.int 0)) (msCons (mC (.int 1)) (msCons (mC (.int 1)) (msCons (mC (.int 2)) (msCons (mC (.int 4)) (msCons (mC (.int 2000)) (msNil))))))))) (msNil)))) (tgName 9)) (sRet (mTup (msCons (mTuple (mVar 4)) (msCons (mTuple (mVar 5)) (msCons (mVar 9) (msCons (mIf (mTb (mIsN (mVar 9))) (mC (.str "wait")) (mCall F__law_any (msCons (mVar 0) (msCons (mLst (msCons (mC (.str "more")) (msCons (mC (.str "wait")) (msNil)))) (msNil))))) (msNil))))))))))))
noncomputable def F__law_any_tome : Fn := fnP 10 b__law_any_tome
noncomputable def b__law_bent (self_ : Fn) : MS := sSeq (sIf (mAndT (mTru (mIsi .tuple (mVar 1))) (mAndT (mTb (mCmp .NotEq (mVar 1) (mTup (msNil)))) (mTb (mCmp .Gt (mCall F__law_draw (msCons (mVar 0) (msCons (mC (.int 7)) (msNil)))) (mC (.int 0)))))) (sSeq (sAsg (mCall F__law_draw (msCons (mVar 0) (msCons (mLen (mVar 1)) (msNil)))) (tgName 2)) (sRet (mAdd (mAdd (mSl (mVar 1) (moNone) (moSome (mVar 2))) (mTup (msCons (mCall self_ (msCons (mVar 0) (msCons (mIx (mVar 1) (mVar 2)) (msNil)))) (msNil)))) (mSl (mVar 1) (moSome (mAdd (mVar 2) (mC (.int 1)))) (moNone))))) (sNil)) (sSeq (sAsg (mLst (msCons (mC .none) (msCons (mC (.bool true)) (msCons (mC (.int 0)) (msCons (mC (.int 1)) (msCons (mC (.int 2)) (msCons (mNeg (mC (.int 1))) (msCons (mC (.str "")) (msCons (mC (.str "a")) (msCons (mC (.str "b")) (msCons (mC (.str "amy")) (msCons (mC (.str "bob")) (msCons (mC (.str "more")) (msCons (mC (.str "wait")) (msCons (mTup (msNil)) (msCons (mLst (msNil)) (msCons (mTup (msCons (mC (.str "a")) (msNil))) (msNil)))))))))))))))))) (tgName 3)) (sSeq (sAsg (mAdd (mVar 3) (mLst (msCons (mPow (mC (.int 10)) (mC (.int 59))) (msCons (mC (.str "A")) (msCons (mC (.str "0")) (msNil)))))) (tgName 3)) (sSeq (sAsg (mAdd (mVar 3) (mLst (msCons (mTup (msCons (mC (.str "cut")) (msCons (mC (.str "a")) (msCons (mC (.str "b")) (msNil))))) (msCons (mTup (msCons (mC (.str "a")) (msCons (mC (.int 0)) (msCons (mC (.int 0)) (msCons (mC (.int 1)) (msNil)))))) (msCons (mTup (msCons (mC (.str "a")) (msCons (mC (.str "b")) (msCons (mC (.int 0)) (msNil))))) (msCons (mTup (msCons (mC (.str "tell")) (msCons (mC (.str "a")) (msCons (mC (.int 0)) (msCons (mNeg (mC (.int 1))) (msCons (mC .none) (msNil))))))) (msNil))))))) (tgName 3)) (sSeq (sAsg (mAdd (mVar 3) (mLst (msCons (mC (.str "zzzzzzzz")) (msCons (mC (.bool false)) (msNil))))) (tgName 3)) (sSeq (sPar2 4 5 (msCons (mCall F__law_draw (msCons (mVar 0) (msCons (mC (.int 8)) (msNil)))) (msCons (mCall F__law_any (msCons (mVar 0) (msCons (mVar 3) (msNil)))) (msNil)))) (sSeq (sIf (mAndT (mTru (mIsi .tuple (mVar 1))) (mTb (mCmp .Lt (mVar 4) (mC (.int 6))))) (sSeq (sAsg (mCall F__law_draw (msCons (mVar 0) (msCons (mAdd (mLen (mVar 1)) (mC (.int 1))) (msNil)))) (tgName 2)) (sSeq (sIf (mTb (mCmp .Eq (mVar 4) (mC (.int 0)))) (sRet (mList (mVar 1))) (sNil)) (sSeq (sIf (mTb (mCmp .Eq (mVar 4) (mC (.int 1)))) (sRet (mAdd (mSl (mVar 1) (moNone) (moSome (mVar 2))) (mSl (mVar 1) (moSome (mAdd (mVar 2) (mC (.int 1)))) (moNone)))) (sNil)) (sSeq (sIf (mTb (mCmp .Eq (mVar 4) (mC (.int 2)))) (sRet (mAdd (mAdd (mSl (mVar 1) (moNone) (moSome (mVar 2))) (mSl (mVar 1) (moSome (mVar 2)) (moSome (mAdd (mVar 2) (mC (.int 1)))))) (mSl (mVar 1) (moSome (mVar 2)) (moNone)))) (sNil)) (sRet (mIf (mTb (mCmp .Lt (mVar 4) (mC (.int 5)))) (mAdd (mAdd (mSl (mVar 1) (moNone) (moSome (mVar 2))) (mTup (msCons (mVar 5) (msNil)))) (mSl (mVar 1) (moSome (mVar 2)) (moNone))) (mRev (mVar 1)))))))) (sNil)) (sSeq (sIf (mAndT (mTru (mIsi .str (mVar 1))) (mTb (mCmp .Lt (mVar 4) (mC (.int 3))))) (sRet (mAdd (mVar 1) (mCall F__law_any (msCons (mVar 0) (msCons (mLst (msCons (mC (.str "a")) (msCons (mC (.str "A")) (msCons (mC (.str " ")) (msCons (mC (.str "0")) (msCons (mC (.str "zzzzzzzz")) (msNil))))))) (msNil)))))) (sNil)) (sSeq (sIf (mAndT (mTru (mIsi .int (mVar 1))) (mTb (mCmp .Lt (mVar 4) (mC (.int 4))))) (sRet (mAdd (mVar 1) (mCall F__law_any (msCons (mVar 0) (msCons (mLst (msCons (mC (.int 1)) (msCons (mNeg (mC (.int 1))) (msCons (mNeg (mC (.int 1))) (msNil))))) (msNil)))))) (sNil)) (sRet (mVar 5))))))))))
noncomputable def F__law_bent : Nat → Fn
  | 0 => fun _ _ => .bad
  | k + 1 => fnP 6 (b__law_bent (F__law_bent k))
noncomputable def b__law_is_name : MS := sSeq (sIf (mOrT (mNotT (mTru (mIsi .str (mVar 0)))) (mNotT (mTb (mChain .LtE .LtE (mC (.int 1)) (mLen (mVar 0)) (mC (.int 8)))))) (sRet (mC (.bool false))) (sNil)) (sRet (mCmp .Eq (mLc (mIter (mVar 0)) (.nm 1) (mTb (mCmp .NotIn (mVar 1) (mC (.str "abcdefghijklmnopqrstuvwxyz")))) (mVar 1) [1]) (mLst (msNil))))
noncomputable def F__law_is_name : Fn := fnP 2 b__law_is_name
noncomputable def b__law_is_integer : MS := sRet (mAnd (mIsi .int (mVar 0)) (mNot (mIsi .bool (mVar 0))))
noncomputable def F__law_is_integer : Fn := fnP 1 b__law_is_integer
noncomputable def b__law_is_number : MS := sRet (mAnd (mCall F__law_is_integer (msCons (mVar 0) (msNil))) (mCmp .GtE (mVar 0) (mC (.int 0))))
noncomputable def F__law_is_number : Fn := fnP 1 b__law_is_number
noncomputable def b__law_is_event : MS := sSeq (sIf (mOrT (mNotT (mTru (mIsi .tuple (mVar 0)))) (mTb (mCmp .Lt (mLen (mVar 0)) (mC (.int 3))))) (sRet (mC (.bool false))) (sNil)) (sSeq (sIf (mOrT (mNotT (mTru (mIsi .str (mIx (mVar 0) (mC (.int 0)))))) (mNotT (mTru (mCall F__law_is_name (msCons (mIx (mVar 0) (mC (.int 1))) (msNil)))))) (sRet (mC (.bool false))) (sNil)) (sSeq (sIf (mAndT (mTb (mCmp .Eq (mIx (mVar 0) (mC (.int 0))) (mC (.str "tell")))) (mTb (mCmp .Eq (mLen (mVar 0)) (mC (.int 5))))) (sSeq (sAsg (mAnd (mCall F__law_is_integer (msCons (mIx (mVar 0) (mC (.int 2))) (msNil))) (mCall F__law_is_integer (msCons (mIx (mVar 0) (mC (.int 3))) (msNil)))) (tgName 1)) (sRet (mAnd (mVar 1) (mOr (mIsN (mIx (mVar 0) (mC (.int 4)))) (mCall F__law_is_number (msCons (mIx (mVar 0) (mC (.int 4))) (msNil))))))) (sNil)) (sSeq (sIf (mAndT (mTb (mCmp .Eq (mIx (mVar 0) (mC (.int 0))) (mC (.str "clock")))) (mTb (mCmp .Eq (mLen (mVar 0)) (mC (.int 4))))) (sRet (mAnd (mCall F__law_is_number (msCons (mIx (mVar 0) (mC (.int 2))) (msNil))) (mCall F__law_is_number (msCons (mIx (mVar 0) (mC (.int 3))) (msNil))))) (sNil)) (sSeq (sIf (mOrT (mNotT (mTru (mCall F__law_is_name (msCons (mIx (mVar 0) (mC (.int 2))) (msNil))))) (mTb (mCmp .Eq (mIx (mVar 0) (mC (.int 1))) (mIx (mVar 0) (mC (.int 2)))))) (sRet (mC (.bool false))) (sNil)) (sSeq (sIf (mTb (mCmp .Eq (mIx (mVar 0) (mC (.int 0))) (mC (.str "cut")))) (sRet (mCmp .Eq (mLen (mVar 0)) (mC (.int 3)))) (sNil)) (sRet (mAnd (mCmp .Eq (mIx (mVar 0) (mC (.int 0))) (mC (.str "road"))) (mAnd (mCmp .Eq (mLen (mVar 0)) (mC (.int 4))) (mCall F__law_is_number (msCons (mIx (mVar 0) (mC (.int 3))) (msNil)))))))))))
noncomputable def F__law_is_event : Fn := fnP 2 b__law_is_event
noncomputable def b__law_is_tuple : MS := sRet (mAnd (mIsi .tuple (mVar 0)) (mCmp .Eq (mLen (mVar 0)) (mVar 1)))
noncomputable def F__law_is_tuple : Fn := fnP 2 b__law_is_tuple
noncomputable def b__law_is_clock : MS := sSeq (sIf (mOrT (mNotT (mTru (mCall F__law_is_tuple (msCons (mVar 0) (msCons (mC (.int 4)) (msNil)))))) (mOrT (mNotT (mTru (mCall F__law_is_name (msCons (mIx (mVar 0) (mC (.int 0))) (msNil))))) (mNotT (mTru (mCall F__law_is_number (msCons (mIx (mVar 0) (mC (.int 1))) (msNil))))))) (sRet (mC (.bool false))) (sNil)) (sRet (mAnd (mCall F__law_is_number (msCons (mIx (mVar 0) (mC (.int 2))) (msNil))) (mAnd (mCall F__law_is_integer (msCons (mIx (mVar 0) (mC (.int 3))) (msNil))) (mCmp .GtE (mIx (mVar 0) (mC (.int 3))) (mC (.int 1))))))
noncomputable def F__law_is_clock : Fn := fnP 1 b__law_is_clock
noncomputable def b__law_is_way : MS := sSeq (sIf (mOrT (mNotT (mTru (mCall F__law_is_tuple (msCons (mVar 0) (msCons (mC (.int 3)) (msNil)))))) (mOrT (mNotT (mTru (mCall F__law_is_name (msCons (mIx (mVar 0) (mC (.int 0))) (msNil))))) (mNotT (mTru (mCall F__law_is_name (msCons (mIx (mVar 0) (mC (.int 1))) (msNil))))))) (sRet (mC (.bool false))) (sNil)) (sRet (mAnd (mCmp .In (mIx (mVar 0) (mC (.int 0))) (mVar 1)) (mAnd (mCmp .In (mIx (mVar 0) (mC (.int 1))) (mVar 1)) (mAnd (mCmp .NotEq (mIx (mVar 0) (mC (.int 0))) (mIx (mVar 0) (mC (.int 1)))) (mCall F__law_is_number (msCons (mIx (mVar 0) (mC (.int 2))) (msNil)))))))
noncomputable def F__law_is_way : Fn := fnP 2 b__law_is_way
noncomputable def b__law_is_tome : MS := sSeq (sIf (mOrT (mNotT (mTru (mCall F__law_is_tuple (msCons (mVar 0) (msCons (mC (.int 4)) (msNil)))))) (mOrT (mNotT (mTru (mIsi .tuple (mIx (mVar 0) (mC (.int 0)))))) (mNotT (mTru (mIsi .tuple (mIx (mVar 0) (mC (.int 1)))))))) (sRet (mC (.bool false))) (sNil)) (sSeq (sAsg (mVar 0) (tgTup 4 (tgCons (tgName 1) (tgCons (tgName 2) (tgCons (tgName 3) (tgCons (tgName 4) (tgNil))))))) (sSeq (sIf (mOrT (mTb (mCmp .Eq (mVar 1) (mTup (msNil)))) (mTb (mCmp .NotEq (mLc (mIter (mVar 1)) (.nm 6) (mNotT (mTru (mCall F__law_is_clock (msCons (mVar 6) (msNil))))) (mVar 6) [6]) (mLst (msNil))))) (sRet (mC (.bool false))) (sNil)) (sSeq (sAsg (mLc (mIter (mVar 1)) (.nm 6) (tYesM) (mIx (mVar 6) (mC (.int 0))) [6]) (tgName 5)) (sSeq (sIf (mTb (mCmp .NotEq (mLc (mRng2 (mC (.int 1)) (mLen (mVar 5))) (.nm 7) (mTb (mCmp .GtE (mIx (mVar 5) (mSub (mVar 7) (mC (.int 1)))) (mIx (mVar 5) (mVar 7)))) (mVar 7) [7]) (mLst (msNil)))) (sRet (mC (.bool false))) (sNil)) (sSeq (sIf (mTb (mCmp .NotEq (mLc (mIter (mVar 2)) (.nm 6) (mNotT (mTru (mCall F__law_is_way (msCons (mVar 6) (msCons (mVar 5) (msNil)))))) (mVar 6) [6]) (mLst (msNil)))) (sRet (mC (.bool false))) (sNil)) (sSeq (sIf (mTb (mCmp .NotEq (mLc (mRng2 (mC (.int 1)) (mLen (mVar 2))) (.nm 7) (mTb (mCmp .GtE (mSl (mIx (mVar 2) (mSub (mVar 7) (mC (.int 1)))) (moNone) (moSome (mC (.int 2)))) (mSl (mIx (mVar 2) (mVar 7)) (moNone) (moSome (mC (.int 2)))))) (mVar 7) [7]) (mLst (msNil)))) (sRet (mC (.bool false))) (sNil)) (sSeq (sIf (mOrT (mAndT (mTb (mNotN (mVar 3))) (mNotT (mTru (mCall F__law_is_number (msCons (mVar 3) (msNil)))))) (mNotT (mTru (mIsi .str (mVar 4))))) (sRet (mC (.bool false))) (sNil)) (sRet (mOr (mCmp .Eq (mVar 4) (mC (.str "wait"))) (mAnd (mCmp .Eq (mVar 4) (mC (.str "more"))) (mNotN (mVar 3))))))))))))
noncomputable def F__law_is_tome : Fn := fnP 8 b__law_is_tome
noncomputable def b__law_is_diary : MS := sSeq (sIf (mOrT (mNotT (mTru (mIsi .tuple (mVar 0)))) (mOrT (mTb (mCmp .Eq (mVar 0) (mTup (msNil)))) (mTb (mCmp .NotEq (mLc (mIter (mSl (mVar 0) (moSome (mC (.int 1))) (moNone))) (.nm 1) (mNotT (mTru (mCall F__law_is_event (msCons (mVar 1) (msNil))))) (mVar 1) [1]) (mLst (msNil)))))) (sRet (mC (.bool false))) (sNil)) (sSeq (sIf (mOrT (mNotT (mTru (mCall F__law_is_tuple (msCons (mIx (mVar 0) (mC (.int 0))) (msCons (mC (.int 2)) (msNil)))))) (mNotT (mTru (mIsi .str (mIx (mIx (mVar 0) (mC (.int 0))) (mC (.int 0))))))) (sRet (mC (.bool false))) (sNil)) (sRet (mAnd (mCmp .Eq (mIx (mIx (mVar 0) (mC (.int 0))) (mC (.int 0))) (mC (.str "live"))) (mCall F__law_is_tome (msCons (mIx (mIx (mVar 0) (mC (.int 0))) (mC (.int 1))) (msNil))))))
noncomputable def F__law_is_diary : Fn := fnP 2 b__law_is_diary
noncomputable def b_is_name : MS := sRet (mAnd (mIsi .str (mVar 0)) (mAnd (mChain .LtE .LtE (mC (.int 1)) (mLen (mVar 0)) (mC (.int 8))) (mAll (mLc (mIter (mVar 0)) (.nm 1) (tYesM) (mCmp .In (mVar 1) (mC (.str "abcdefghijklmnopqrstuvwxyz"))) [1]))))
noncomputable def F_is_name : Fn := fnP 2 b_is_name
noncomputable def b_is_integer : MS := sRet (mAnd (mIsi .int (mVar 0)) (mNot (mIsi .bool (mVar 0))))
noncomputable def F_is_integer : Fn := fnP 1 b_is_integer
noncomputable def b_is_number : MS := sRet (mAnd (mCall F_is_integer (msCons (mVar 0) (msNil))) (mCmp .GtE (mVar 0) (mC (.int 0))))
noncomputable def F_is_number : Fn := fnP 1 b_is_number
noncomputable def b_is_rate : MS := sRet (mAnd (mCall F_is_number (msCons (mVar 0) (msNil))) (mCmp .Gt (mVar 0) (mC (.int 0))))
noncomputable def F_is_rate : Fn := fnP 1 b_is_rate
noncomputable def b_is_clock : MS := sSeq (sIf (mOrT (mNotT (mTru (mIsi .tuple (mVar 0)))) (mOrT (mTb (mCmp .NotEq (mLen (mVar 0)) (mC (.int 4)))) (mNotT (mTru (mCall F_is_name (msCons (mIx (mVar 0) (mC (.int 0))) (msNil))))))) (sRet (mC (.bool false))) (sNil)) (sRet (mAnd (mCall F_is_number (msCons (mIx (mVar 0) (mC (.int 1))) (msNil))) (mAnd (mCall F_is_number (msCons (mIx (mVar 0) (mC (.int 2))) (msNil))) (mCall F_is_rate (msCons (mIx (mVar 0) (mC (.int 3))) (msNil))))))
noncomputable def F_is_clock : Fn := fnP 1 b_is_clock
noncomputable def b_is_among : MS := sRet (mAnd (mIsi .str (mVar 0)) (mCmp .In (mVar 0) (mVar 1)))
noncomputable def F_is_among : Fn := fnP 2 b_is_among
noncomputable def b_is_link : MS := sSeq (sIf (mOrT (mNotT (mTru (mIsi .tuple (mVar 1)))) (mOrT (mTb (mCmp .NotEq (mLen (mVar 1)) (mC (.int 3)))) (mNotT (mTru (mCall F_is_among (msCons (mIx (mVar 1) (mC (.int 0))) (msCons (mVar 0) (msNil)))))))) (sRet (mC (.bool false))) (sNil)) (sRet (mAnd (mCall F_is_among (msCons (mIx (mVar 1) (mC (.int 1))) (msCons (mVar 0) (msNil)))) (mAnd (mCmp .NotEq (mIx (mVar 1) (mC (.int 0))) (mIx (mVar 1) (mC (.int 1)))) (mCall F_is_number (msCons (mIx (mVar 1) (mC (.int 2))) (msNil))))))
noncomputable def F_is_link : Fn := fnP 2 b_is_link
noncomputable def b_is_rule : MS := sRet (mAnd (mIsi .str (mVar 0)) (mCmp .In (mVar 0) (mC (Gc [.str "more", .str "wait"]))))
noncomputable def F_is_rule : Fn := fnP 1 b_is_rule
noncomputable def l0_cluster_fault : MS := sIf (mOrT (mNotT (mTru (mCall F_is_clock (msCons (mVar 6) (msNil))))) (mAndT (mTb (mCmp .Gt (mVar 5) (mC (.int 0)))) (mNotT (mTb (mCmp .Lt (mIx (mIx (mVar 1) (mSub (mVar 5) (mC (.int 1)))) (mC (.int 0))) (mIx (mVar 6) (mC (.int 0)))))))) (sRet (mTup (msCons (mC (.str "host")) (msCons (mVar 5) (msNil))))) (sNil)
noncomputable def l1_cluster_fault : MS := sIf (mOrT (mNotT (mTru (mCall F_is_link (msCons (mVar 7) (msCons (mVar 6) (msNil)))))) (mAndT (mTb (mCmp .Gt (mVar 5) (mC (.int 0)))) (mNotT (mTb (mCmp .Lt (mSl (mIx (mVar 2) (mSub (mVar 5) (mC (.int 1)))) (moNone) (moSome (mC (.int 2)))) (mSl (mVar 6) (moNone) (moSome (mC (.int 2))))))))) (sRet (mTup (msCons (mC (.str "road")) (msCons (mVar 5) (msNil))))) (sNil)
noncomputable def b_cluster_fault : MS := sSeq (sIf (mOrT (mNotT (mTru (mIsi .tuple (mVar 0)))) (mTb (mCmp .NotEq (mLen (mVar 0)) (mC (.int 4))))) (sRet (mTup (msCons (mC (.str "shape")) (msCons (mNeg (mC (.int 1))) (msNil))))) (sNil)) (sSeq (sAsg (mVar 0) (tgTup 4 (tgCons (tgName 1) (tgCons (tgName 2) (tgCons (tgName 3) (tgCons (tgName 4) (tgNil))))))) (sSeq (sIf (mOrT (mNotT (mTru (mIsi .tuple (mVar 1)))) (mOrT (mNotT (mTru (mIsi .tuple (mVar 2)))) (mTb (mCmp .Eq (mLen (mVar 1)) (mC (.int 0)))))) (sRet (mTup (msCons (mC (.str "shape")) (msCons (mNeg (mC (.int 1))) (msNil))))) (sNil)) (sSeq (sFor [5, 6] (mEnum (mVar 1)) (tgTup 2 (tgCons (tgName 5) (tgCons (tgName 6) (tgNil)))) (l0_cluster_fault)) (sSeq (sAsg (mLc (mIter (mVar 1)) (.nm 6) (tYesM) (mIx (mVar 6) (mC (.int 0))) [6]) (tgName 7)) (sSeq (sFor [5, 6] (mEnum (mVar 2)) (tgTup 2 (tgCons (tgName 5) (tgCons (tgName 6) (tgNil)))) (l1_cluster_fault)) (sSeq (sIf (mAndT (mTb (mNotN (mVar 3))) (mNotT (mTru (mCall F_is_number (msCons (mVar 3) (msNil)))))) (sRet (mTup (msCons (mC (.str "most")) (msCons (mNeg (mC (.int 1))) (msNil))))) (sNil)) (sRet (mIf (mAndT (mTru (mCall F_is_rule (msCons (mVar 4) (msNil)))) (mOrT (mTb (mNotN (mVar 3))) (mTb (mCmp .Eq (mVar 4) (mC (.str "wait")))))) (mC .none) (mTup (msCons (mC (.str "rule")) (msCons (mNeg (mC (.int 1))) (msNil))))))))))))
noncomputable def F_cluster_fault : Fn := fnP 8 b_cluster_fault
noncomputable def b_is_cluster : MS := sRet (mIsN (mCall F_cluster_fault (msCons (mVar 0) (msNil))))
noncomputable def F_is_cluster : Fn := fnP 1 b_is_cluster
noncomputable def b_is_log_head : MS := sSeq (sIf (mOrT (mNotT (mTru (mIsi .tuple (mVar 0)))) (mOrT (mTb (mCmp .NotEq (mLen (mVar 0)) (mC (.int 2)))) (mNotT (mTru (mIsi .str (mIx (mVar 0) (mC (.int 0)))))))) (sRet (mC (.bool false))) (sNil)) (sRet (mAnd (mCmp .Eq (mIx (mVar 0) (mC (.int 0))) (mC (.str "live"))) (mCall F_is_cluster (msCons (mIx (mVar 0) (mC (.int 1))) (msNil)))))
noncomputable def F_is_log_head : Fn := fnP 1 b_is_log_head
noncomputable def b_is_letter : MS := sRet (mOr (mIsN (mVar 0)) (mCall F_is_number (msCons (mVar 0) (msNil))))
noncomputable def F_is_letter : Fn := fnP 1 b_is_letter
noncomputable def b_is_told : MS := sSeq (sAsg (mVar 0) (tgTup 4 (tgCons (tgName 1) (tgCons (tgName 2) (tgCons (tgName 3) (tgCons (tgName 4) (tgNil))))))) (sRet (mAnd (mCall F_is_name (msCons (mVar 1) (msNil))) (mAnd (mCall F_is_integer (msCons (mVar 2) (msNil))) (mAnd (mCall F_is_integer (msCons (mVar 3) (msNil))) (mCall F_is_letter (msCons (mVar 4) (msNil)))))))
noncomputable def F_is_told : Fn := fnP 5 b_is_told
noncomputable def b_is_clocked : MS := sSeq (sAsg (mVar 0) (tgTup 3 (tgCons (tgName 1) (tgCons (tgName 2) (tgCons (tgName 3) (tgNil)))))) (sRet (mAnd (mCall F_is_name (msCons (mVar 1) (msNil))) (mAnd (mCall F_is_number (msCons (mVar 2) (msNil))) (mCall F_is_number (msCons (mVar 3) (msNil))))))
noncomputable def F_is_clocked : Fn := fnP 4 b_is_clocked
noncomputable def b_are_two : MS := sRet (mAnd (mCall F_is_name (msCons (mVar 0) (msNil))) (mAnd (mCall F_is_name (msCons (mVar 1) (msNil))) (mCmp .NotEq (mVar 0) (mVar 1))))
noncomputable def F_are_two : Fn := fnP 2 b_are_two
noncomputable def b_is_led : MS := sSeq (sAsg (mVar 0) (tgTup 3 (tgCons (tgName 1) (tgCons (tgName 2) (tgCons (tgName 3) (tgNil)))))) (sRet (mAnd (mCall F_are_two (msCons (mVar 1) (msCons (mVar 2) (msNil)))) (mCall F_is_number (msCons (mVar 3) (msNil)))))
noncomputable def F_is_led : Fn := fnP 4 b_is_led
noncomputable def b_is_live_event : MS := sSeq (sIf (mOrT (mNotT (mTru (mIsi .tuple (mVar 0)))) (mOrT (mTb (mCmp .Eq (mLen (mVar 0)) (mC (.int 0)))) (mNotT (mTru (mIsi .str (mIx (mVar 0) (mC (.int 0)))))))) (sRet (mC (.bool false))) (sNil)) (sSeq (sPar2 1 2 (msCons (mIx (mVar 0) (mC (.int 0))) (msCons (mLen (mVar 0)) (msNil)))) (sSeq (sIf (mTb (mCmp .Eq (mVar 1) (mC (.str "tell")))) (sRet (mAnd (mCmp .Eq (mVar 2) (mC (.int 5))) (mCall F_is_told (msCons (mSl (mVar 0) (moSome (mC (.int 1))) (moNone)) (msNil))))) (sNil)) (sSeq (sIf (mTb (mCmp .Eq (mVar 1) (mC (.str "clock")))) (sRet (mAnd (mCmp .Eq (mVar 2) (mC (.int 4))) (mCall F_is_clocked (msCons (mSl (mVar 0) (moSome (mC (.int 1))) (moNone)) (msNil))))) (sNil)) (sSeq (sIf (mTb (mCmp .Eq (mVar 1) (mC (.str "road")))) (sRet (mAnd (mCmp .Eq (mVar 2) (mC (.int 4))) (mCall F_is_led (msCons (mSl (mVar 0) (moSome (mC (.int 1))) (moNone)) (msNil))))) (sNil)) (sRet (mAnd (mCmp .Eq (mVar 1) (mC (.str "cut"))) (mAnd (mCmp .Eq (mVar 2) (mC (.int 3))) (mCall F_are_two (msCons (mIx (mVar 0) (mC (.int 1))) (msCons (mIx (mVar 0) (mC (.int 2))) (msNil)))))))))))
noncomputable def F_is_live_event : Fn := fnP 3 b_is_live_event
noncomputable def b_is_log_form : MS := sSeq (sIf (mOrT (mNotT (mTru (mIsi .tuple (mVar 0)))) (mOrT (mTb (mCmp .Eq (mLen (mVar 0)) (mC (.int 0)))) (mNotT (mTru (mCall F_is_log_head (msCons (mIx (mVar 0) (mC (.int 0))) (msNil))))))) (sRet (mC (.bool false))) (sNil)) (sRet (mAll (mLc (mIter (mSl (mVar 0) (moSome (mC (.int 1))) (moNone))) (.nm 1) (tYesM) (mCall F_is_live_event (msCons (mVar 1) (msNil))) [1])))
noncomputable def F_is_log_form : Fn := fnP 2 b_is_log_form
noncomputable def b_is_log : MS := sRet (mCall F_is_log_form (msCons (mVar 0) (msNil)))
noncomputable def F_is_log : Fn := fnP 1 b_is_log
noncomputable def l0_law : MS := sSeq (sPar2 8 9 (msCons (mCall (F__law_bent 24) (msCons (mVar 1) (msCons (mVar 6) (msNil)))) (msCons (mCall (F__law_bent 24) (msCons (mVar 1) (msCons (mCall F__law_any (msCons (mVar 1) (msCons (mVar 5) (msNil)))) (msNil)))) (msNil)))) (sAsg (mAdd (mVar 2) (mLst (msCons (mVar 8) (msCons (mCall (F__law_bent 24) (msCons (mVar 1) (msCons (mVar 8) (msNil)))) (msCons (mVar 9) (msCons (mCall (F__law_bent 24) (msCons (mVar 1) (msCons (mVar 9) (msNil)))) (msNil))))))) (tgName 2))
noncomputable def l1_law : MS := sSeq (sAsg (mCall F__law_any_tome (msCons (mVar 1) (msNil))) (tgName 4)) (sSeq (sAsg (mLst (msCons (mTup (msCons (mC (.str "tell")) (msCons (mC (.str "a")) (msCons (mNeg (mC (.int 5))) (msCons (mPow (mC (.int 10)) (mC (.int 59))) (msCons (mC (.int 0)) (msNil))))))) (msCons (mTup (msCons (mC (.str "tell")) (msCons (mC (.str "zzzzzzzz")) (msCons (mC (.int 0)) (msCons (mC (.int 0)) (msCons (mC .none) (msNil))))))) (msNil)))) (tgName 5)) (sSeq (sAsg (mAdd (mVar 5) (mLst (msCons (mTup (msCons (mC (.str "clock")) (msCons (mC (.str "a")) (msCons (mC (.int 0)) (msCons (mC (.int 60)) (msNil)))))) (msCons (mTup (msCons (mC (.str "cut")) (msCons (mC (.str "a")) (msCons (mC (.str "b")) (msNil))))) (msNil))))) (tgName 5)) (sSeq (sAsg (mAdd (mVar 5) (mLst (msCons (mTup (msCons (mC (.str "road")) (msCons (mC (.str "amy")) (msCons (mC (.str "bob")) (msCons (mC (.int 0)) (msNil)))))) (msCons (mTup (msCons (mC (.str "clock")) (msCons (mC (.str "live")) (msCons (mPow (mC (.int 10)) (mC (.int 59))) (msCons (mC (.int 1)) (msNil)))))) (msNil))))) (tgName 5)) (sSeq (sAsg (mAdd (mVar 5) (mLst (msCons (mTup (msCons (mC (.str "tell")) (msCons (mC (.str "b")) (msCons (mC (.int 1)) (msCons (mNeg (mC (.int 1))) (msCons (mPow (mC (.int 10)) (mC (.int 59))) (msNil))))))) (msNil)))) (tgName 5)) (sSeq (sAsg (mTup (msCons (mTup (msCons (mC (.str "live")) (msCons (mVar 4) (msNil)))) (msNil))) (tgName 6)) (sSeq (sAsg (mAdd (mVar 6) (mTuple (mLc (mRng1 (mCall F__law_draw (msCons (mVar 1) (msCons (mC (.int 7)) (msNil))))) (.nm 7) (tYesM) (mCall F__law_any (msCons (mVar 1) (msCons (mVar 5) (msNil)))) [7]))) (tgName 6)) (sSeq (sAsg (mAdd (mVar 2) (mLst (msCons (mVar 6) (msCons (mSl (mVar 6) (moSome (mC (.int 1))) (moNone)) (msCons (mList (mVar 6)) (msCons (mAdd (mVar 6) (mVar 6)) (msNil))))))) (tgName 2)) (sSeq (sAsg (mAdd (mAdd (mAdd (mVar 2) (mLst (msCons (mAdd (mVar 6) (mMulS (mTup (msCons (mIx (mVar 5) (mC (.int 0))) (msNil))) (mC (.int 50)))) (msNil)))) (mVar 5)) (mLst (msCons (mList (mIx (mVar 5) (mC (.int 0)))) (msNil)))) (tgName 2)) (sFor [7, 8, 9] (mRng1 (mC (.int 24))) (tgName 7) (l0_law))))))))))
noncomputable def l2_law : MS := sSeq (sPar2 11 12 (msCons (mRepr (mVar 10)) (msCons (mLst (msCons (mRepr (mCall F__law_is_diary (msCons (mVar 10) (msNil)))) (msCons (mRepr (mCall F__law_is_event (msCons (mVar 10) (msNil)))) (msNil)))) (msNil)))) (sSeq (sIf (mOrT (mTb (mCmp .NotEq (mLst (msCons (mRepr (mCall F_is_log (msCons (mVar 10) (msNil)))) (msCons (mRepr (mCall F_is_live_event (msCons (mVar 10) (msNil)))) (msNil)))) (mVar 12))) (mTb (mCmp .NotEq (mRepr (mVar 10)) (mVar 11)))) (sRet (mC (.bool false))) (sNil)) (sIf (mTb (mCmp .NotEq (mLst (msCons (mRepr (mCall (fun ds => F_is_log ds) (msCons (mVar 10) (msNil)))) (msCons (mRepr (mCall (fun ds => F_is_live_event ds) (msCons (mVar 10) (msNil)))) (msNil)))) (mVar 12))) (sRet (mC (.bool false))) (sNil)))
noncomputable def b_law : MS := sSeq (sAsg (mCall F__law_feed (msCons (mVar 0) (msNil))) (tgName 1)) (sSeq (sAsg (mLst (msCons (mC .none) (msCons (mTup (msNil)) (msCons (mC (.int 0)) (msCons (mC (.str "live")) (msCons (mTup (msCons (mC (.str "live")) (msNil))) (msCons (mTup (msCons (mTup (msCons (mC (.str "live")) (msNil))) (msNil))) (msCons (mLst (msNil)) (msCons (mTup (msCons (mC .none) (msNil))) (msCons (mTup (msCons (mTup (msCons (mC (.str "live")) (msCons (mTup (msNil)) (msNil)))) (msNil))) (msNil))))))))))) (tgName 2)) (sSeq (sFor [3, 4, 5, 6, 7, 8, 9] (mRng1 (mC (.int 2))) (tgName 3) (l1_law)) (sSeq (sFor [10, 11, 12] (mIter (mVar 2)) (tgName 10) (l2_law)) (sRet (mC (.bool true))))))
noncomputable def F_law : Fn := fnP 13 b_law
end Gstampahead_k75_logs_told
set_option Elab.async false
set_option linter.all false
set_option maxRecDepth 100000
set_option maxHeartbeats 4000000
namespace Gstampahead_k75_logs_told
open PySem PySem.Spec L2 Pv
open PyProof.Rows hiding St signs
section
variable {cs : List Pv.D} {sp lf dr m : Int} {st : Sto}
def mixA (c d : Int) : Int := (c % 1000000739 * 5 + 77802 * d + 758) % 2147483179
def mixB (a d : Int) : Int := (a * a + 87510 * d + 864) % 2147483549
def mixC (b : Int) : Int := (b * b + 747 * b) % 2147483399 / 16
theorem mixA_b (c d : Int) : -(2 ^ 64) < mixA c d ∧ mixA c d < 2 ^ 64 := by unfold mixA; omega
theorem mixB_b (c d : Int) : -(2 ^ 64) < mixB c d ∧ mixB c d < 2 ^ 64 := by
  unfold mixB
  generalize c * c + 87510 * d + 864 = x
  omega
theorem q_draw (hcs : IntsD cs) (hl : cs.length ≤ 63) (h0 : 0 < m) (h1 : m < 1073741824) :
    ∃ r sp' lf' dr', F__law_draw [Rf 0, .int m] (fd cs sp lf dr :: st) = .ok (.int r) (fd cs sp' lf' dr' :: st) ∧ 0 ≤ r ∧ r < m := by
  have bd : ∀ x : Int, 0 ≤ x % m ∧ x % m < m := fun x => ⟨Int.emod_nonneg _ (by omega), Int.emod_lt_of_pos _ h0⟩
  have m1 : ∀ x : Int, -18446744073709551616 < x % 2147483179 := fun x => by omega
  have m2 : ∀ x : Int, x % 2147483179 < 18446744073709551616 := fun x => by omega
  have m3 : ∀ x : Int, -18446744073709551616 < x % 2147483549 := fun x => by omega
  have m4 : ∀ x : Int, x % 2147483549 < 18446744073709551616 := fun x => by omega
  unfold F__law_draw b__law_draw
  simp only [fnP_e]
  by_cases hlf : 0 < lf
  · refine ⟨lf % m, sp, lf / m, dr + 1, ?_, bd _⟩
    simp [startD, fd_drawn, set_drawn, fd_left, dInt, dInt2, hlf, h0, h1, set_left]
  · by_cases hc : cs = []
    · subst hc
      refine ⟨mixC (mixB (mixA 399298 (dr + 1)) (dr + 1)) % m, sp + 1, lf, dr + 1, ?_, bd _⟩
      simp [startD, fd_drawn, set_drawn, fd_left, dInt, dInt2, hlf, h0, h1, fd_spot, fd_cells, set2, set_spot, mkLst, dMulS, m1, m2, m3, m4, mixA, mixB, mixC]
    · obtain ⟨c, hc2⟩ := at_mod (st := fd cs (sp + 1) lf (dr + 1) :: st) (j := sp) hcs hc
      have hp : 0 < cs.length := Nat.pos_of_ne_zero fun z => hc (List.length_eq_zero_iff.mp z)
      have hne : cs.isEmpty = false := by cases cs with | nil => exact absurd rfl hc | cons _ _ => rfl
      have e1 : dCmp .NotEq (.list cs) (.list []) = some (.bool true) := by rw [cmp_ne_nilL (ints_lay hcs), hne]; rfl
      by_cases hb : 1000000000000000000 ≤ c
      · by_cases hs : sp < (cs.length : Int)
        · refine ⟨c % m, sp + 1, c / m, dr + 1, ?_, bd _⟩
          simp [startD, fd_drawn, set_drawn, fd_left, dInt, dInt2, hlf, h0, h1, fd_spot, fd_cells, set2, set_spot, mkLst, e1, dLen, hp, hc2, hb, hs, set_left]
        · refine ⟨mixC (mixB (mixA c (dr + 1)) (dr + 1)) % m, sp + 1, lf, dr + 1, ?_, bd _⟩
          simp [startD, fd_drawn, set_drawn, fd_left, dInt, dInt2, hlf, h0, h1, fd_spot, fd_cells, set2, set_spot, mkLst, e1, dLen, hp, hc2, hb, hs, dMulS, m1, m2, m3, m4, mixA, mixB, mixC]
      · refine ⟨mixC (mixB (mixA c (dr + 1)) (dr + 1)) % m, sp + 1, lf, dr + 1, ?_, bd _⟩
        simp [startD, fd_drawn, set_drawn, fd_left, dInt, dInt2, hlf, h0, h1, fd_spot, fd_cells, set2, set_spot, mkLst, e1, dLen, hp, hc2, hb, dMulS, m1, m2, m3, m4, mixA, mixB, mixC]

theorem q_any {xs : List Pv.D} (hcs : IntsD cs) (hl : cs.length ≤ 63) (hne : xs ≠ []) (hx : xs.length ≤ 1000) :
    ∃ x sp' lf' dr', F__law_any [Rf 0, .list xs] (fd cs sp lf dr :: st) = .ok x (fd cs sp' lf' dr' :: st) ∧ x ∈ xs := by
  have hp : 0 < xs.length := Nat.pos_of_ne_zero fun z => hne (List.length_eq_zero_iff.mp z)
  obtain ⟨r, sp', lf', dr', e, h0, h1⟩ := q_draw (sp := sp) (lf := lf) (dr := dr) (st := st) (m := (xs.length : Int)) hcs hl (by omega) (by omega)
  obtain ⟨j, hj⟩ : ∃ j : Nat, r = (j : Int) := ⟨_, (Int.toNat_of_nonneg h0).symm⟩
  subst hj
  have hlt : j < xs.length := by omega
  refine ⟨xs[j], sp', lf', dr', ?_, List.getElem_mem hlt⟩
  unfold F__law_any b__law_any
  rw [fnP_e]
  simp [startD, e, ix_l (List.getElem?_eq_getElem hlt)]
end
abbrev Cl (x : Pv.D) : Prop := Ok x (2 ^ 24) 60
def sgn (d : Pv.D) : Bool := match d with | .str a => strIn a "abcdefghijklmnopqrstuvwxyz" | _ => false
def isInt : Pv.D → Bool | .int _ => true | _ => false
def isNum : Pv.D → Bool | .int i => decide (0 ≤ i) | _ => false
def isRate : Pv.D → Bool | .int i => decide (0 < i) | _ => false
def isName : Pv.D → Bool | .str z => decide (1 ≤ z.length) && (decide (z.length ≤ 8) && (Pv.signs z).all sgn) | _ => false
def isClock : Pv.D → Bool | .tuple [a, b, c, d] => isName a && (isNum b && (isNum c && isRate d)) | _ => false
section
variable {st : Sto} {x : Pv.D}
theorem q_int (h : Cl x) : F_is_integer [x] st = .ok (.bool (isInt x)) st := by
  unfold F_is_integer b_is_integer
  rw [fnP_e]
  cases x with
  | dict k => exact h.nodict.elim
  | _ => simp [startD, Ty.sub, isInt]
theorem q_int' (h : Cl x) : F__law_is_integer [x] st = .ok (.bool (isInt x)) st := by
  unfold F__law_is_integer b__law_is_integer
  rw [fnP_e]
  cases x with
  | dict k => exact h.nodict.elim
  | _ => simp [startD, Ty.sub, isInt]
theorem q_num (h : Cl x) : F_is_number [x] st = .ok (.bool (isNum x)) st := by
  unfold F_is_number b_is_number
  rw [fnP_e]
  cases x with
  | dict k => exact h.nodict.elim
  | _ => simp [startD, isInt, isNum, q_int h]
theorem q_num' (h : Cl x) : F__law_is_number [x] st = .ok (.bool (isNum x)) st := by
  unfold F__law_is_number b__law_is_number
  rw [fnP_e]
  cases x with
  | dict k => exact h.nodict.elim
  | _ => simp [startD, isInt, isNum, q_int' h]
theorem q_rate (h : Cl x) : F_is_rate [x] st = .ok (.bool (isRate x)) st := by
  unfold F_is_rate b_is_rate
  rw [fnP_e]
  cases x with
  | dict k => exact h.nodict.elim
  | int i =>
    by_cases hi : 0 ≤ i
    · simp [startD, isNum, isRate, q_num h, hi]
    · have : ¬ 0 < i := by omega
      simp [startD, isNum, isRate, q_num h, hi, this]
  | _ => simp [startD, isNum, isRate, q_num h]
theorem signs_len (z : Str) : (Pv.signs z).length = z.length := by unfold Pv.signs; simp [Str.length]
theorem signs_lay {z : Str} (h : (PyData.str z).canLay0 = true) : ∀ d ∈ Pv.signs z, d.canLay0 = true := by
  intro d hd
  unfold Pv.signs at hd
  obtain ⟨c, hc, e⟩ := List.mem_map.mp hd
  subst e
  have hz : z.cps.all (· < 0x110000) = true := by simpa only [PyData.canLay0, PyData.strOk] using h
  have := Array.all_eq_true'.mp hz c (by simpa using hc)
  simpa [PyData.canLay0, PyData.strOk] using this
theorem q_name (h : Cl x) : F_is_name [x] st = .ok (.bool (isName x)) st := by
  unfold F_is_name b_is_name
  rw [fnP_e]
  cases x with
  | dict k => exact h.nodict.elim
  | str z =>
    have hl := h.str_len
    have e : mLc (mIter (mVar 0)) (.nm 1) tYesM (mCmp .In (mVar 1) (mC (.str "abcdefghijklmnopqrstuvwxyz"))) [1] [some (.str z), none] st = .ok (.list ((Pv.signs z).map fun d => .bool (sgn d))) st := by
      refine mLc_all (keep := always) (ds := signs z) (fun d => .bool (sgn d)) (by simp) trivial (by rw [signs_len]; exact hl) fun d hd => ?_
      unfold Pv.signs at hd
      obtain ⟨c, hc, e⟩ := List.mem_map.mp hd
      subst e
      exact ⟨_, rfl, by simp [wipeD, dCmp, dIn, obD, sgn]⟩
    by_cases h1 : 1 ≤ z.length
    · by_cases h2 : z.length ≤ 8
      · have h1' : (1 : Int) ≤ (z.length : Int) := by omega
        have h2' : (z.length : Int) ≤ 8 := by omega
        simp [startD, Ty.sub, len_s hl, h1', h2', e, all_map, isName, h1, h2]
      · have h1' : (1 : Int) ≤ (z.length : Int) := by omega
        have h2' : ¬ (z.length : Int) ≤ 8 := by omega
        simp [startD, Ty.sub, len_s hl, h1', h2', isName, h1, h2]
    · have h1' : ¬ (1 : Int) ≤ (z.length : Int) := by omega
      simp [startD, Ty.sub, len_s hl, h1', isName, h1]
  | _ => simp [startD, Ty.sub, isName]
theorem q_name' (h : Cl x) : F__law_is_name [x] st = .ok (.bool (isName x)) st := by
  unfold F__law_is_name b__law_is_name
  rw [fnP_e]
  cases x with
  | dict k => exact h.nodict.elim
  | str z =>
    have hl := h.str_len
    have e : mLc (mIter (mVar 0)) (.nm 1) (mTb (mCmp .NotIn (mVar 1) (mC (.str "abcdefghijklmnopqrstuvwxyz")))) (mVar 1) [1] [some (.str z), none] st = .ok (.list (((Pv.signs z).filter fun d => !sgn d).map id)) st := by
      refine mLc_map (keep := always) (ds := signs z) id (fun d => !sgn d) (by simp) trivial (by rw [signs_len]; exact hl) fun d hd => ?_
      unfold Pv.signs at hd
      obtain ⟨c, hc, e⟩ := List.mem_map.mp hd
      subst e
      exact ⟨_, rfl, by simp [wipeD, dCmp, dIn, obD, sgn], fun _ => by simp [wipeD]⟩
    have hlay : PyData.canLayAll0 ((Pv.signs z).filter fun d => !sgn d) = true := (layAll_iff _).mpr fun d hd => signs_lay h.lay d (List.mem_filter.mp hd).1
    have hall : ((Pv.signs z).filter fun d => !sgn d).isEmpty = (Pv.signs z).all sgn := by
      induction Pv.signs z with
      | nil => rfl
      | cons a l ih => cases q : sgn a <;> simp [List.filter_cons, q, ih]
    by_cases h1 : 1 ≤ z.length
    · by_cases h2 : z.length ≤ 8
      · have h1' : (1 : Int) ≤ (z.length : Int) := by omega
        have h2' : (z.length : Int) ≤ 8 := by omega
        simp [startD, Ty.sub, len_s hl, h1', h2', e, mkLst, cmp_eq_nilL hlay, hall, isName, h1, h2]
      · have h1' : (1 : Int) ≤ (z.length : Int) := by omega
        have h2' : ¬ (z.length : Int) ≤ 8 := by omega
        simp [startD, Ty.sub, len_s hl, h1', h2', isName, h1, h2]
    · have h1' : ¬ (1 : Int) ≤ (z.length : Int) := by omega
      simp [startD, Ty.sub, len_s hl, h1', isName, h1]
  | _ => simp [startD, Ty.sub, isName]

theorem q_clock (h : Cl x) : F_is_clock [x] st = .ok (.bool (isClock x)) st := by
  unfold F_is_clock b_is_clock
  rw [fnP_e]
  cases x with
  | dict k => exact h.nodict.elim
  | tuple ds =>
    match ds, h with
    | [], h => simp [startD, Ty.sub, isClock]
    | [a], h => simp [startD, Ty.sub, isClock]
    | [a, b], h => simp [startD, Ty.sub, isClock]
    | [a, b, c], h => simp [startD, Ty.sub, isClock]
    | [a, b, c, d], h =>
      have ha : Cl a := h.memT (by simp)
      have hb : Cl b := h.memT (by simp)
      have hc : Cl c := h.memT (by simp)
      have hd : Cl d := h.memT (by simp)
      cases q1 : isName a <;> cases q2 : isNum b <;> cases q3 : isNum c <;> simp [startD, Ty.sub, isClock, q_name ha, q_num hb, q_num hc, q_rate hd, q1, q2, q3]
    | a :: b :: c :: d :: e :: r, h =>
      have hne : ¬ ((r.length : Int) + 1 + 1 + 1 + 1 + 1 = 4) := by omega
      simp [startD, Ty.sub, isClock, hne]
  | _ => simp [startD, Ty.sub, isClock]
def isTup (n : Nat) : Pv.D → Bool | .tuple ds => decide (ds.length = n) | _ => false
theorem q_tuple' {n : Nat} (h : Cl x) : F__law_is_tuple [x, .int n] st = .ok (.bool (isTup n x)) st := by
  unfold F__law_is_tuple b__law_is_tuple
  rw [fnP_e]
  cases x with
  | dict k => exact h.nodict.elim
  | tuple ds => simp [startD, Ty.sub, isTup]; omega
  | _ => simp [startD, Ty.sub, isTup]
theorem q_tuple3 (h : Cl x) : F__law_is_tuple [x, .int 3] st = .ok (.bool (isTup 3 x)) st := q_tuple' (n := 3) h
theorem q_tuple4 (h : Cl x) : F__law_is_tuple [x, .int 4] st = .ok (.bool (isTup 4 x)) st := q_tuple' (n := 4) h
theorem q_tuple2 (h : Cl x) : F__law_is_tuple [x, .int 2] st = .ok (.bool (isTup 2 x)) st := q_tuple' (n := 2) h
theorem q_clock' (h : Cl x) : F__law_is_clock [x] st = .ok (.bool (isClock x)) st := by
  unfold F__law_is_clock b__law_is_clock
  rw [fnP_e]
  cases x with
  | dict k => exact h.nodict.elim
  | tuple ds =>
    match ds, h with
    | [], h => simp [startD, q_tuple4 h, isTup, isClock]
    | [a], h => simp [startD, q_tuple4 h, isTup, isClock]
    | [a, b], h => simp [startD, q_tuple4 h, isTup, isClock]
    | [a, b, c], h => simp [startD, q_tuple4 h, isTup, isClock]
    | [a, b, c, d], h =>
      have ha : Cl a := h.memT (by simp)
      have hb : Cl b := h.memT (by simp)
      have hc : Cl c := h.memT (by simp)
      have hd : Cl d := h.memT (by simp)
      cases d with
      | int i =>
        have e : decide (1 ≤ i) = decide (0 < i) := decide_eq_decide.mpr (by omega)
        cases q1 : isName a <;> cases q2 : isNum b <;> cases q3 : isNum c <;> simp [startD, q_tuple4 h, isTup, isClock, q_name' ha, q_num' hb, q_num' hc, q_int' hd, isInt, isRate, q1, q2, q3, e]
      | dict k => exact hd.nodict.elim
      | _ => cases q1 : isName a <;> cases q2 : isNum b <;> cases q3 : isNum c <;> simp [startD, q_tuple4 h, isTup, isClock, q_name' ha, q_num' hb, q_num' hc, q_int' hd, isInt, isRate, q1, q2, q3]
    | a :: b :: c :: d :: e :: r, h =>
      have hne : ¬ (r.length + 1 + 1 + 1 + 1 + 1 = 4) := by omega
      simp [startD, q_tuple4 h, isTup, isClock, hne]
  | _ => simp [startD, q_tuple4 h, isTup, isClock]
def inL (d : Pv.D) (ns : List Pv.D) : Bool := ns.any fun z => PyData.eqv z d
def isAmong (d : Pv.D) (ns : List Pv.D) : Bool := match d with | .str _ => inL d ns | _ => false
theorem in_l {ns : List Pv.D} (h : Cl x) (hn : Cl (.list ns)) : dCmp .In x (.list ns) = some (.bool (inL x ns)) := by
  show obD (dIn x (.list ns)) = _
  unfold dIn
  have e1 : PyData.canLayAll0 ns = true := hn.lay
  have e2 : decide (min (PyData.depthAll ns) x.depth ≤ 64) = true := decide_eq_true (by have := h.dp; omega)
  simp only [e1, h.lay, e2, Bool.and_self, if_true]
  rfl
theorem q_among {ns : List Pv.D} (h : Cl x) (hn : Cl (.list ns)) : F_is_among [x, .list ns] st = .ok (.bool (isAmong x ns)) st := by
  unfold F_is_among b_is_among
  rw [fnP_e]
  cases x with
  | dict k => exact h.nodict.elim
  | str z => simp [startD, Ty.sub, isAmong, in_l h hn]
  | _ => simp [startD, Ty.sub, isAmong]
theorem lay_cl {a b : Pv.D} (ha : Cl a) (hb : Cl b) : layOk a b = true := lay_of ha.lay hb.lay (by have := ha.dp; omega)
def isLink (ns : List Pv.D) : Pv.D → Bool | .tuple [a, b, c] => isAmong a ns && (isAmong b ns && (!PyData.eqv a b && isNum c)) | _ => false
theorem q_link {ns : List Pv.D} (h : Cl x) (hn : Cl (.list ns)) : F_is_link [.list ns, x] st = .ok (.bool (isLink ns x)) st := by
  unfold F_is_link b_is_link
  rw [fnP_e]
  cases x with
  | dict k => exact h.nodict.elim
  | tuple ds =>
    match ds, h with
    | [], h => simp [startD, Ty.sub, isLink]
    | [a], h => simp [startD, Ty.sub, isLink]
    | [a, b], h => simp [startD, Ty.sub, isLink]
    | [a, b, c], h =>
      have ha : Cl a := h.memT (by simp)
      have hb : Cl b := h.memT (by simp)
      have hc : Cl c := h.memT (by simp)
      cases q1 : isAmong a ns <;> cases q2 : isAmong b ns <;> cases q3 : PyData.eqv a b <;>
        simp [startD, Ty.sub, isLink, q_among ha hn, q_among hb hn, q_num hc, deref_ok ha.lay, deref_ok hb.lay, cmp_ne (lay_cl ha hb), q1, q2, q3]
    | a :: b :: c :: d :: r, h =>
      have hne : ¬ ((r.length : Int) + 1 + 1 + 1 + 1 = 3) := by omega
      simp [startD, Ty.sub, isLink, hne]
  | _ => simp [startD, Ty.sub, isLink]
def isWay (ns : List Pv.D) : Pv.D → Bool | .tuple [a, b, c] => isName a && (isName b && (inL a ns && (inL b ns && (!PyData.eqv a b && isNum c)))) | _ => false
theorem q_way {ns : List Pv.D} (h : Cl x) (hn : Cl (.list ns)) : F__law_is_way [x, .list ns] st = .ok (.bool (isWay ns x)) st := by
  unfold F__law_is_way b__law_is_way
  rw [fnP_e]
  cases x with
  | dict k => exact h.nodict.elim
  | tuple ds =>
    match ds, h with
    | [], h => simp [startD, q_tuple3 h, isTup, isWay]
    | [a], h => simp [startD, q_tuple3 h, isTup, isWay]
    | [a, b], h => simp [startD, q_tuple3 h, isTup, isWay]
    | [a, b, c], h =>
      have ha : Cl a := h.memT (by simp)
      have hb : Cl b := h.memT (by simp)
      have hc : Cl c := h.memT (by simp)
      cases q0 : isName a <;> cases q4 : isName b <;> cases q1 : inL a ns <;> cases q2 : inL b ns <;> cases q3 : PyData.eqv a b <;>
        simp [startD, q_tuple3 h, isTup, isWay, q_name' ha, q_name' hb, in_l ha hn, in_l hb hn, q_num' hc, deref_ok ha.lay, deref_ok hb.lay, cmp_ne (lay_cl ha hb), q0, q1, q2, q3, q4]
    | a :: b :: c :: d :: r, h =>
      have hne : ¬ (r.length + 1 + 1 + 1 + 1 = 3) := by omega
      simp [startD, q_tuple3 h, isTup, isWay, hne]
  | _ => simp [startD, q_tuple3 h, isTup, isWay]
def isRule : Pv.D → Bool | .str z => (z == "more") || (z == "wait") | _ => false
theorem q_rule (h : Cl x) : F_is_rule [x] st = .ok (.bool (isRule x)) st := by
  unfold F_is_rule b_is_rule
  rw [fnP_e]
  cases x with
  | dict k => exact h.nodict.elim
  | str z =>
    have e : dCmp .In (.str z) (.tuple [.str "more", .str "wait"]) = some (.bool (isRule (.str z))) := by
      rw [in_tup h.lay (by decide +kernel) (Nat.le_trans (Nat.min_le_right _ _) (by show 0 ≤ 64; omega))]
      have e1 : ∀ a : Str, PyData.eqv (.str a) (.str z) = (z == a) := fun a => by
        show (a == z) = (z == a)
        by_cases q : a = z
        · subst q; simp
        · have : ¬ z = a := fun w => q w.symm
          rw [beq_eq_false_iff_ne.mpr q, beq_eq_false_iff_ne.mpr this]
      rw [List.any_cons, List.any_cons, List.any_nil, e1, e1, Bool.or_false]
      rfl
    simp [startD, Ty.sub, e]
  | _ => simp [startD, Ty.sub, isRule]
end
end Gstampahead_k75_logs_told
set_option Elab.async false
set_option linter.all false
set_option maxRecDepth 100000
set_option maxHeartbeats 4000000
namespace Gstampahead_k75_logs_told
open PySem PySem.Spec L2 Pv
open PyProof.Rows hiding St signs
open Classical
/-- the first item of a tuple -/
def hd0 : Pv.D → Pv.D | .tuple (a :: _) => a | d => d
def strOf : Pv.D → Str | .str z => z | _ => "" 
def lt0 (p q : Pv.D) : Bool := ltS (strOf (hd0 p)) (strOf (hd0 q))
theorem name_str {x : Pv.D} (h : isName x = true) : ∃ z, x = .str z := by
  cases x with
  | str z => exact ⟨z, rfl⟩
  | _ => cases h
theorem clock_inv {x : Pv.D} (h : isClock x = true) : ∃ z b c d, x = .tuple [.str z, b, c, d] ∧ isName (.str z) = true := by
  unfold isClock at h
  split at h
  · rename_i a b c d
    rw [Bool.and_eq_true] at h
    obtain ⟨z, e⟩ := name_str h.1
    subst e
    exact ⟨z, b, c, d, rfl, h.1⟩
  · cases h
/-- the names rise -/
def Rise (cl : List Pv.D) : Prop := ∀ (k : Nat) (p q : Pv.D), cl[k]? = some p → cl[k + 1]? = some q → lt0 p q = true
def fC (cl : List Pv.D) (item : Pv.D) : Option Pv.D :=
  match item with
  | .tuple [.int k, one] => if isClock one = true ∧ (0 < k → ∃ p, cl[(k - 1).toNat]? = some p ∧ lt0 p one = true) then none else some (.tuple [.str "host", .int k])
  | _ => none
section
variable {st : Sto}
theorem scan_clocks {x : Pv.D} {cl : List Pv.D} {a2 a3 a4 : Option Pv.D} (hcl : ∀ c ∈ cl, Cl c) :
    forL always (tgTup 2 (tgCons (tgName 5) (tgCons (tgName 6) tgNil))) l0_cluster_fault [5, 6] (numD 0 cl) [some x, some (.tuple cl), a2, a3, a4, none, none, none] st =
      (match (numD 0 cl).findSome? (fC cl) with | none => .nx [some x, some (.tuple cl), a2, a3, a4, none, none, none] st | some r => .rt r st) := by
  refine forL_find (fC cl) trivial fun k d hd before => ?_
  rw [numD_get] at hd
  obtain ⟨one, h1, h2⟩ := Option.map_eq_some_iff.mp hd
  subst h2
  rw [Nat.zero_add]
  have ho := hcl one (List.mem_of_getElem? h1)
  by_cases hc : isClock one = true
  · cases k with
    | zero =>
      refine .inl ⟨?_, [some x, some (.tuple cl), a2, a3, a4, some (.int 0), some one, none], ?_, by simp [wipeD]⟩
      · simp [fC, hc]
      · simp [l0_cluster_fault, q_clock ho, hc]
    | succ k =>
      have hlt : k < cl.length := Nat.lt_of_succ_lt (List.getElem?_eq_some_iff.mp h1).1
      have hp : cl[k]? = some cl[k] := List.getElem?_eq_getElem hlt
      have hb := before k (.tuple [.int ((0 + k : Nat) : Int), cl[k]]) (Nat.lt_succ_self k) (by rw [numD_get, hp]; rfl)
      have hpc : isClock cl[k] = true := by
        rw [Nat.zero_add] at hb
        unfold fC at hb
        simp only at hb
        split at hb
        · rename_i q; exact q.1
        · cases hb
      obtain ⟨z, b, c, d, e1, _⟩ := clock_inv hc
      obtain ⟨z2, b2, c2, d2, e2, _⟩ := clock_inv hpc
      have ex : fIx (.tuple cl) (.int ((k : Nat) : Int)) st = .ok (.tuple [.str z2, b2, c2, d2]) st := by rw [← e2]; exact ix_t hp
      have ei : ((k + 1 : Nat) : Int) - 1 = (k : Int) := by omega
      have ep : (0 : Int) < ((k + 1 : Nat) : Int) := by omega
      have el : lt0 cl[k] one = ltS z2 z := by rw [e1, e2]; rfl
      cases ql : ltS z2 z with
      | true =>
        refine .inl ⟨?_, [some x, some (.tuple cl), a2, a3, a4, some (.int ((k + 1 : Nat) : Int)), some one, none], ?_, by simp [wipeD]⟩
        · unfold fC
          simp only
          rw [if_pos]
          exact ⟨hc, fun _ => ⟨cl[k], by rw [ei]; exact hp, by rw [el]; exact ql⟩⟩
        · subst e1
          simp [l0_cluster_fault, q_clock ho, hc, dInt2, ei, ep, ex, ql]
      | false =>
        refine .inr ⟨.tuple [.str "host", .int ((k + 1 : Nat) : Int)], ?_, ?_⟩
        · unfold fC
          simp only
          rw [if_neg]
          rintro ⟨_, q⟩
          obtain ⟨p, h2, h3⟩ := q ep
          rw [ei] at h2
          have h2' : cl[k]? = some p := h2
          rw [hp] at h2'
          cases h2'
          rw [el, ql] at h3
          cases h3
        · subst e1
          simp [l0_cluster_fault, q_clock ho, hc, dInt2, ei, ep, ex, ql, mkTup, sizeLine_eq]
  · refine .inr ⟨.tuple [.str "host", .int ((k : Nat) : Int)], ?_, ?_⟩
    · unfold fC
      simp only
      rw [if_neg fun q => hc q.1]
    · have hc' : isClock one = false := by cases q : isClock one; rfl; exact absurd q hc
      simp [l0_cluster_fault, q_clock ho, hc', mkTup, sizeLine_eq]
theorem scanC_none {cl : List Pv.D} : (numD 0 cl).findSome? (fC cl) = none ↔ (∀ c ∈ cl, isClock c = true) ∧ Rise cl := by
  rw [List.findSome?_eq_none_iff]
  constructor
  · intro h
    have at_ : ∀ (k : Nat) (c : Pv.D), cl[k]? = some c → isClock c = true ∧ (0 < k → ∃ p, cl[k - 1]? = some p ∧ lt0 p c = true) := by
      intro k c hc
      have := h (.tuple [.int (k : Int), c]) (List.mem_of_getElem? (i := k) (by rw [numD_get, hc, Nat.zero_add]; rfl))
      unfold fC at this
      simp only at this
      split at this
      · rename_i q
        refine ⟨q.1, fun hk => ?_⟩
        obtain ⟨p, a, b⟩ := q.2 (by omega)
        exact ⟨p, by rw [show k - 1 = ((k : Int) - 1).toNat by omega]; exact a, b⟩
      · cases this
    refine ⟨fun c hc => ?_, fun k p q hp hq => ?_⟩
    · obtain ⟨k, hk⟩ := List.mem_iff_getElem?.mp hc
      exact (at_ k c hk).1
    · obtain ⟨p', a, b⟩ := (at_ (k + 1) q hq).2 (Nat.succ_pos k)
      have a' : cl[k]? = some p' := a
      rw [hp] at a'
      cases a'
      exact b
  · rintro ⟨h1, h2⟩ d hd
    obtain ⟨k, hk⟩ := List.mem_iff_getElem?.mp hd
    rw [numD_get] at hk
    obtain ⟨c, a, b⟩ := Option.map_eq_some_iff.mp hk
    subst b
    unfold fC
    simp only
    rw [if_pos]
    refine ⟨h1 c (List.mem_of_getElem? a), fun hk0 => ?_⟩
    rw [Nat.zero_add] at hk0 ⊢
    cases k with
    | zero => exact absurd hk0 (by omega)
    | succ k =>
      have hlt : k < cl.length := Nat.lt_of_succ_lt (List.getElem?_eq_some_iff.mp a).1
      have hp : cl[k]? = some cl[k] := List.getElem?_eq_getElem hlt
      exact ⟨cl[k], by rw [show (((k + 1 : Nat) : Int) - 1).toNat = k by omega]; exact hp, h2 k _ _ hp a⟩
/-! the roads -/
def tk2 : Pv.D → Pv.D | .tuple (a :: b :: _) => .tuple [a, b] | d => d
def lt2 (p q : Pv.D) : Bool := cmpR .Lt (cmpD (tk2 p) (tk2 q))
theorem among_str {x : Pv.D} {ns : List Pv.D} (h : isAmong x ns = true) : ∃ z, x = .str z := by
  cases x with
  | str z => exact ⟨z, rfl⟩
  | _ => cases h
theorem link_inv {x : Pv.D} {ns : List Pv.D} (h : isLink ns x = true) : ∃ z y c, x = .tuple [.str z, .str y, c] := by
  unfold isLink at h
  split at h
  · rename_i a b c
    rw [Bool.and_eq_true, Bool.and_eq_true] at h
    obtain ⟨z, e⟩ := among_str h.1
    obtain ⟨y, e2⟩ := among_str h.2.1
    subst e; subst e2
    exact ⟨z, y, c, rfl⟩
  · cases h
theorem cut2 {a b c : Pv.D} : fSl none (some 2) (.tuple [a, b, c]) st = .ok (.tuple [a, b]) st := rfl
theorem cmp_lt_t {a b c d : Str} (h1 : Cl (.tuple [.str a, .str b])) (h2 : Cl (.tuple [.str c, .str d])) : dCmp .Lt (.tuple [.str a, .str b]) (.tuple [.str c, .str d]) = some (.bool (cmpR .Lt (cmpD (.tuple [.str a, .str b]) (.tuple [.str c, .str d])))) := by
  show obD (dOrd .Lt _ _) = _
  unfold dOrd
  have e : (layOk (.tuple [.str a, .str b]) (.tuple [.str c, .str d]) && ordD (.tuple [.str a, .str b]) (.tuple [.str c, .str d])) = true := by rw [lay_cl h1 h2]; rfl
  simp only [e, if_true]
  rfl
theorem cmp_ge_t {a b c d : Str} (h1 : Cl (.tuple [.str a, .str b])) (h2 : Cl (.tuple [.str c, .str d])) : dCmp .GtE (.tuple [.str a, .str b]) (.tuple [.str c, .str d]) = some (.bool (!cmpR .Lt (cmpD (.tuple [.str a, .str b]) (.tuple [.str c, .str d])))) := by
  show obD (dOrd .GtE _ _) = _
  unfold dOrd
  have e : (layOk (.tuple [.str a, .str b]) (.tuple [.str c, .str d]) && ordD (.tuple [.str a, .str b]) (.tuple [.str c, .str d])) = true := by rw [lay_cl h1 h2]; rfl
  simp only [e, if_true]
  show some (PyData.bool (cmpR .GtE _)) = some (PyData.bool (!cmpR .Lt _))
  unfold cmpR
  cases cmpD (.tuple [.str a, .str b]) (.tuple [.str c, .str d]) <;> rfl
theorem cl_cut {a b c : Pv.D} (h : Cl (.tuple [a, b, c])) : Cl (.tuple [a, b]) := by
  obtain ⟨h1, h2, h3⟩ := h
  refine ⟨?_, ?_, ?_⟩
  · simp only [PyData.canLay0, PyData.canLayAll0, Bool.and_true, Bool.and_eq_true] at h1 ⊢; exact ⟨h1.1, h1.2.1⟩
  · simp only [Pv.wt, Pv.wtL] at h2 ⊢; omega
  · simp only [PyData.depth, PyData.depthAll] at h3 ⊢; omega
def Rise2 (cl : List Pv.D) : Prop := ∀ (k : Nat) (p q : Pv.D), cl[k]? = some p → cl[k + 1]? = some q → lt2 p q = true
def fL (ns cl : List Pv.D) (item : Pv.D) : Option Pv.D :=
  match item with
  | .tuple [.int k, one] => if isLink ns one = true ∧ (0 < k → ∃ p, cl[(k - 1).toNat]? = some p ∧ lt2 p one = true) then none else some (.tuple [.str "road", .int k])
  | _ => none
theorem scan_links {x x1 : Pv.D} {ns cl : List Pv.D} {a3 a4 : Option Pv.D} (hns : Cl (.list ns)) (hcl : ∀ c ∈ cl, Cl c) :
    forL always (tgTup 2 (tgCons (tgName 5) (tgCons (tgName 6) tgNil))) l1_cluster_fault [5, 6] (numD 0 cl) [some x, some x1, some (.tuple cl), a3, a4, none, none, some (.list ns)] st =
      (match (numD 0 cl).findSome? (fL ns cl) with | none => .nx [some x, some x1, some (.tuple cl), a3, a4, none, none, some (.list ns)] st | some r => .rt r st) := by
  refine forL_find (fL ns cl) trivial fun k d hd before => ?_
  rw [numD_get] at hd
  obtain ⟨one, h1, h2⟩ := Option.map_eq_some_iff.mp hd
  subst h2
  rw [Nat.zero_add]
  have ho := hcl one (List.mem_of_getElem? h1)
  by_cases hc : isLink ns one = true
  · cases k with
    | zero =>
      refine .inl ⟨?_, [some x, some x1, some (.tuple cl), a3, a4, some (.int 0), some one, some (.list ns)], ?_, by simp [wipeD]⟩
      · simp [fL, hc]
      · simp [l1_cluster_fault, q_link ho hns, hc]
    | succ k =>
      have hlt : k < cl.length := Nat.lt_of_succ_lt (List.getElem?_eq_some_iff.mp h1).1
      have hp : cl[k]? = some cl[k] := List.getElem?_eq_getElem hlt
      have hb := before k (.tuple [.int ((0 + k : Nat) : Int), cl[k]]) (Nat.lt_succ_self k) (by rw [numD_get, hp]; rfl)
      have hpc : isLink ns cl[k] = true := by
        rw [Nat.zero_add] at hb
        unfold fL at hb
        simp only at hb
        split at hb
        · rename_i q; exact q.1
        · cases hb
      obtain ⟨z, b, c, e1⟩ := link_inv hc
      obtain ⟨z2, b2, c2, e2⟩ := link_inv hpc
      have hk2 := hcl cl[k] (List.getElem_mem hlt)
      have ex : fIx (.tuple cl) (.int ((k : Nat) : Int)) st = .ok (.tuple [.str z2, .str b2, c2]) st := by rw [← e2]; exact ix_t hp
      have ei : ((k + 1 : Nat) : Int) - 1 = (k : Int) := by omega
      have ep : (0 : Int) < ((k + 1 : Nat) : Int) := by omega
      have ec : dCmp .Lt (.tuple [.str z2, .str b2]) (.tuple [.str z, .str b]) = some (.bool (lt2 cl[k] one)) := by
        rw [cmp_lt_t (cl_cut (by rw [← e2]; exact hk2)) (cl_cut (by rw [← e1]; exact ho))]
        rw [e1, e2]; rfl
      cases ql : lt2 cl[k] one with
      | true =>
        rw [ql] at ec
        refine .inl ⟨?_, [some x, some x1, some (.tuple cl), a3, a4, some (.int ((k + 1 : Nat) : Int)), some one, some (.list ns)], ?_, by simp [wipeD]⟩
        · unfold fL
          simp only
          rw [if_pos]
          exact ⟨hc, fun _ => ⟨cl[k], by rw [ei]; exact hp, ql⟩⟩
        · subst e1
          simp [l1_cluster_fault, q_link ho hns, hc, dInt2, ei, ep, ex, cut2, ec]
      | false =>
        rw [ql] at ec
        refine .inr ⟨.tuple [.str "road", .int ((k + 1 : Nat) : Int)], ?_, ?_⟩
        · unfold fL
          simp only
          rw [if_neg]
          rintro ⟨_, q⟩
          obtain ⟨p, h2, h3⟩ := q ep
          rw [ei] at h2
          have h2' : cl[k]? = some p := h2
          rw [hp] at h2'
          cases h2'
          rw [ql] at h3
          cases h3
        · subst e1
          simp [l1_cluster_fault, q_link ho hns, hc, dInt2, ei, ep, ex, cut2, ec, mkTup, sizeLine_eq]
  · refine .inr ⟨.tuple [.str "road", .int ((k : Nat) : Int)], ?_, ?_⟩
    · unfold fL
      simp only
      rw [if_neg fun q => hc q.1]
    · have hc' : isLink ns one = false := by cases q : isLink ns one; rfl; exact absurd q hc
      simp [l1_cluster_fault, q_link ho hns, hc', mkTup, sizeLine_eq]
theorem scanL_none {ns cl : List Pv.D} : (numD 0 cl).findSome? (fL ns cl) = none ↔ (∀ c ∈ cl, isLink ns c = true) ∧ Rise2 cl := by
  rw [List.findSome?_eq_none_iff]
  constructor
  · intro h
    have at_ : ∀ (k : Nat) (c : Pv.D), cl[k]? = some c → isLink ns c = true ∧ (0 < k → ∃ p, cl[k - 1]? = some p ∧ lt2 p c = true) := by
      intro k c hc
      have := h (.tuple [.int (k : Int), c]) (List.mem_of_getElem? (i := k) (by rw [numD_get, hc, Nat.zero_add]; rfl))
      unfold fL at this
      simp only at this
      split at this
      · rename_i q
        refine ⟨q.1, fun hk => ?_⟩
        obtain ⟨p, a, b⟩ := q.2 (by omega)
        exact ⟨p, by rw [show k - 1 = ((k : Int) - 1).toNat by omega]; exact a, b⟩
      · cases this
    refine ⟨fun c hc => ?_, fun k p q hp hq => ?_⟩
    · obtain ⟨k, hk⟩ := List.mem_iff_getElem?.mp hc
      exact (at_ k c hk).1
    · obtain ⟨p', a, b⟩ := (at_ (k + 1) q hq).2 (Nat.succ_pos k)
      have a' : cl[k]? = some p' := a
      rw [hp] at a'
      cases a'
      exact b
  · rintro ⟨h1, h2⟩ d hd
    obtain ⟨k, hk⟩ := List.mem_iff_getElem?.mp hd
    rw [numD_get] at hk
    obtain ⟨c, a, b⟩ := Option.map_eq_some_iff.mp hk
    subst b
    unfold fL
    simp only
    rw [if_pos]
    refine ⟨h1 c (List.mem_of_getElem? a), fun hk0 => ?_⟩
    rw [Nat.zero_add] at hk0 ⊢
    cases k with
    | zero => exact absurd hk0 (by omega)
    | succ k =>
      have hlt : k < cl.length := Nat.lt_of_succ_lt (List.getElem?_eq_some_iff.mp a).1
      have hp : cl[k]? = some cl[k] := List.getElem?_eq_getElem hlt
      exact ⟨cl[k], by rw [show (((k + 1 : Nat) : Int) - 1).toNat = k by omega]; exact hp, h2 k _ _ hp a⟩
end
end Gstampahead_k75_logs_told
set_option Elab.async false
set_option linter.all false
set_option maxRecDepth 100000
set_option maxHeartbeats 4000000
namespace Gstampahead_k75_logs_told
open PySem PySem.Spec L2 Pv
open PyProof.Rows hiding St signs
open Classical
def mostOk (m : Pv.D) : Bool := isNone m || isNum m
def ruleOk (m r : Pv.D) : Bool := isRule r && (!isNone m || (match r with | .str z => z == "wait" | _ => false))
/-- the parts of a cluster -/
def ClOk (cs ls : List Pv.D) (m r : Pv.D) : Prop := cs ≠ [] ∧ (∀ c ∈ cs, isClock c = true) ∧ Rise cs ∧ (∀ l ∈ ls, isLink (cs.map hd0) l = true) ∧ Rise2 ls ∧ mostOk m = true ∧ ruleOk m r = true
def isCl (x : Pv.D) : Prop := ∃ cs ls m r, x = .tuple [.tuple cs, .tuple ls, m, r] ∧ ClOk cs ls m r
section
variable {st : Sto} {x : Pv.D}
theorem hd0_map {cl : List Pv.D} {a0 a2 a3 a4 : Option Pv.D} (h : ∀ c ∈ cl, isClock c = true) (hz : cl.length ≤ sizeLine) :
    mLc (mIter (mVar 1)) (.nm 6) tYesM (mIx (mVar 6) (mC (.int 0))) [6] [a0, some (.tuple cl), a2, a3, a4, none, none, none] st = .ok (.list (cl.map hd0)) st := by
  refine mLc_all (keep := always) (ds := cl) hd0 (by simp) trivial hz fun d hd => ?_
  obtain ⟨z, b, c, d', e, _⟩ := clock_inv (h d hd)
  subst e
  exact ⟨_, rfl, by simp [wipeD, hd0]⟩
theorem cl_map {cs : List Pv.D} (h : ∀ c ∈ cs, isClock c = true) (hc : Cl (.tuple cs)) : Cl (.list (cs.map hd0)) := by
  have key : ∀ cs : List Pv.D, (∀ c ∈ cs, isClock c = true) → (∀ c ∈ cs, c.canLay0 = true) → PyData.canLayAll0 (cs.map hd0) = true ∧ wtL (cs.map hd0) ≤ wtL cs ∧ PyData.depthAll (cs.map hd0) = 0 := by
    intro cs
    induction cs with
    | nil => intro _ _; exact ⟨rfl, Nat.le_refl _, rfl⟩
    | cons c cs ih =>
      intro h1 h2
      obtain ⟨a1, a2, a3⟩ := ih (fun d hd => h1 d (List.mem_cons_of_mem _ hd)) (fun d hd => h2 d (List.mem_cons_of_mem _ hd))
      obtain ⟨z, b, c', d', e, _⟩ := clock_inv (h1 c List.mem_cons_self)
      have hl := h2 c List.mem_cons_self
      subst e
      have hz : (PyData.str z).canLay0 = true := by
        simp only [PyData.canLay0, PyData.canLayAll0, Bool.and_eq_true] at hl ⊢; exact hl.1
      refine ⟨?_, ?_, ?_⟩
      · show ((PyData.str z).canLay0 && PyData.canLayAll0 (cs.map hd0)) = true
        rw [hz, a1]; rfl
      · show Pv.wt (.str z) + 4 + wtL (cs.map hd0) ≤ Pv.wt (.tuple [.str z, b, c', d']) + 4 + wtL cs
        simp only [Pv.wt, Pv.wtL]; omega
      · show max ((PyData.str z).depth) (PyData.depthAll (cs.map hd0)) = 0
        rw [a3]; rfl
  obtain ⟨h1, h2, h3⟩ := hc
  obtain ⟨a1, a2, a3⟩ := key cs h ((layAll_iff cs).mp h1)
  refine ⟨a1, ?_, ?_⟩
  · simp only [Pv.wt] at h2 ⊢; omega
  · show PyData.depthAll (cs.map hd0) + 1 ≤ 60; rw [a3]; decide
theorem isCl_iff {cs ls : List Pv.D} {m r : Pv.D} : isCl (.tuple [.tuple cs, .tuple ls, m, r]) ↔ ClOk cs ls m r := by
  constructor
  · rintro ⟨cs', ls', m', r', e, h⟩
    simp only [PyData.tuple.injEq, List.cons.injEq, and_true] at e
    obtain ⟨e1, e2, e3, e4⟩ := e
    subst e1; subst e2; subst e3; subst e4
    exact h
  · exact fun h => ⟨cs, ls, m, r, rfl, h⟩
theorem fC_not {cl : List Pv.D} {d r : Pv.D} (h : fC cl d = some r) : isNone r = false := by
  unfold fC at h
  split at h
  · split at h
    · cases h
    · cases h; rfl
  · cases h
theorem fL_not {ns cl : List Pv.D} {d r : Pv.D} (h : fL ns cl d = some r) : isNone r = false := by
  unfold fL at h
  split at h
  · split at h
    · cases h
    · cases h; rfl
  · cases h
theorem rule_str {r : Pv.D} (h : isRule r = true) : ∃ z, r = .str z := by
  cases r with
  | str z => exact ⟨z, rfl⟩
  | _ => cases h
theorem q_fault (h : Cl x) : ∃ r, F_cluster_fault [x] st = .ok r st ∧ (isNone r = true ↔ isCl x) := by
  unfold F_cluster_fault b_cluster_fault
  rw [fnP_e]
  cases x with
  | dict k => exact h.nodict.elim
  | tuple ds =>
    match ds, h with
    | [], h => exact ⟨.tuple [.str "shape", .int (-1)], by simp [startD, Ty.sub, mkTup, sizeLine_eq, dNeg], by simp [isCl]⟩
    | [a], h => exact ⟨.tuple [.str "shape", .int (-1)], by simp [startD, Ty.sub, mkTup, sizeLine_eq, dNeg], by simp [isCl]⟩
    | [a, b], h => exact ⟨.tuple [.str "shape", .int (-1)], by simp [startD, Ty.sub, mkTup, sizeLine_eq, dNeg], by simp [isCl]⟩
    | [a, b, c], h => exact ⟨.tuple [.str "shape", .int (-1)], by simp [startD, Ty.sub, mkTup, sizeLine_eq, dNeg], by simp [isCl]⟩
    | [a, b, m, r], h =>
      have ha : Cl a := h.memT (by simp)
      have hb : Cl b := h.memT (by simp)
      have hm : Cl m := h.memT (by simp)
      have hr : Cl r := h.memT (by simp)
      by_cases hta : ∃ cs, a = .tuple cs
      · by_cases htb : ∃ ls, b = .tuple ls
        · obtain ⟨cs, ea⟩ := hta
          obtain ⟨ls, eb⟩ := htb
          subst ea; subst eb
          have hcs : ∀ c ∈ cs, Cl c := fun c hc => ha.memT hc
          have hls : ∀ c ∈ ls, Cl c := fun c hc => hb.memT hc
          by_cases hn : cs = []
          · subst hn
            exact ⟨.tuple [.str "shape", .int (-1)], by simp [startD, Ty.sub, mkTup, sizeLine_eq, dNeg], by rw [isCl_iff]; simp [ClOk]⟩
          · have hp : ¬ cs.length = 0 := fun z => hn (List.length_eq_zero_iff.mp z)
            cases s1 : (numD 0 cs).findSome? (fC cs) with
            | some r1 =>
              refine ⟨r1, ?_, ?_⟩
              · simp [startD, Ty.sub, mkTup, sizeLine_eq, dNeg, hp, mEnum, enumOf, wipeD, scan_clocks hcs, s1]
              · obtain ⟨d, _, hd⟩ := List.exists_of_findSome?_eq_some s1
                rw [fC_not hd, isCl_iff]
                refine ⟨(fun z => by cases z), fun z => ?_⟩
                rw [scanC_none.mpr ⟨z.2.1, z.2.2.1⟩] at s1
                cases s1
            | none =>
              obtain ⟨k1, k2⟩ := scanC_none.mp s1
              have hns := cl_map k1 ha
              have hmp := hd0_map (a0 := some (.tuple [.tuple cs, .tuple ls, m, r])) (a2 := some (.tuple ls)) (a3 := some m) (a4 := some r) (st := st) k1 ha.len_t
              cases s2 : (numD 0 ls).findSome? (fL (cs.map hd0) ls) with
              | some r2 =>
                refine ⟨r2, ?_, ?_⟩
                · simp [startD, Ty.sub, mkTup, sizeLine_eq, dNeg, hp, mEnum, enumOf, wipeD, scan_clocks hcs, s1, hmp, scan_links hns hls, s2]
                · obtain ⟨d, _, hd⟩ := List.exists_of_findSome?_eq_some s2
                  rw [fL_not hd, isCl_iff]
                  refine ⟨(fun z => by cases z), fun z => ?_⟩
                  rw [scanL_none.mpr ⟨z.2.2.2.1, z.2.2.2.2.1⟩] at s2
                  cases s2
              | none =>
                obtain ⟨k3, k4⟩ := scanL_none.mp s2
                have run : ∀ r0, (mostOk m = true → r0 = (if ruleOk m r = true then PyData.none else .tuple [.str "rule", .int (-1)])) → (mostOk m = false → r0 = .tuple [.str "most", .int (-1)]) →
                    finR st.length (endR (b_cluster_fault (startD 8 [.tuple [.tuple cs, .tuple ls, m, r]]) st)) = .ok r0 st := by
                  intro r0 t1 t2
                  unfold b_cluster_fault
                  cases q1 : isNone m with
                  | true =>
                    have eo : mostOk m = true := by unfold mostOk; rw [q1]; rfl
                    rw [t1 eo]
                    cases q2 : isRule r with
                    | false => simp [startD, Ty.sub, mkTup, sizeLine_eq, dNeg, hp, mEnum, enumOf, wipeD, scan_clocks hcs, s1, hmp, scan_links hns hls, s2, q1, q_rule hr, q2, ruleOk]
                    | true =>
                      obtain ⟨z, ez⟩ := rule_str q2
                      subst ez
                      cases q3 : (z == ("wait" : Str)) <;> simp [startD, Ty.sub, mkTup, sizeLine_eq, dNeg, hp, mEnum, enumOf, wipeD, scan_clocks hcs, s1, hmp, scan_links hns hls, s2, q1, q_rule hr, q2, ruleOk, q3]
                  | false =>
                    cases q4 : isNum m with
                    | false =>
                      have eo : mostOk m = false := by unfold mostOk; rw [q1, q4]; rfl
                      rw [t2 eo]
                      simp [startD, Ty.sub, mkTup, sizeLine_eq, dNeg, hp, mEnum, enumOf, wipeD, scan_clocks hcs, s1, hmp, scan_links hns hls, s2, q1, q_num hm, q4]
                    | true =>
                      have eo : mostOk m = true := by unfold mostOk; rw [q1, q4]; rfl
                      rw [t1 eo]
                      cases q2 : isRule r <;> simp [startD, Ty.sub, mkTup, sizeLine_eq, dNeg, hp, mEnum, enumOf, wipeD, scan_clocks hcs, s1, hmp, scan_links hns hls, s2, q1, q_num hm, q4, q_rule hr, q2, ruleOk]
                cases qm : mostOk m with
                | false =>
                  refine ⟨_, run _ (fun z => by rw [qm] at z; cases z) (fun _ => rfl), ?_⟩
                  rw [isCl_iff]
                  refine ⟨(fun z => by cases z), fun z => ?_⟩
                  have := z.2.2.2.2.2.1
                  rw [qm] at this; cases this
                | true =>
                  refine ⟨_, run _ (fun _ => rfl) (fun z => by rw [qm] at z; cases z), ?_⟩
                  rw [isCl_iff]
                  cases qr : ruleOk m r with
                  | true => exact ⟨fun _ => ⟨hn, k1, k2, k3, k4, qm, qr⟩, fun _ => rfl⟩
                  | false =>
                    refine ⟨(fun z => by cases z), fun z => ?_⟩
                    have := z.2.2.2.2.2.2
                    rw [qr] at this; cases this
        · have no : tyD st b ≠ some .tuple := by
            intro z
            cases b with
            | tuple ls => exact htb ⟨ls, rfl⟩
            | dict _ => exact hb.nodict
            | _ => cases z
          obtain ⟨cs, ea⟩ := hta
          subst ea
          refine ⟨.tuple [.str "shape", .int (-1)], ?_, ?_⟩
          · cases b with
            | tuple ls => exact absurd ⟨ls, rfl⟩ htb
            | dict _ => exact hb.nodict.elim
            | _ => simp [startD, Ty.sub, mkTup, sizeLine_eq, dNeg]
          · refine ⟨(fun z => by cases z), fun ⟨cs', ls', m', r', e, _⟩ => ?_⟩
            simp only [PyData.tuple.injEq, List.cons.injEq, and_true] at e
            exact absurd ⟨ls', e.2.1⟩ htb
      · refine ⟨.tuple [.str "shape", .int (-1)], ?_, ?_⟩
        · cases a with
          | tuple ls => exact absurd ⟨ls, rfl⟩ hta
          | dict _ => exact ha.nodict.elim
          | _ => simp [startD, Ty.sub, mkTup, sizeLine_eq, dNeg]
        · refine ⟨(fun z => by cases z), fun ⟨cs', ls', m', r', e, _⟩ => ?_⟩
          simp only [PyData.tuple.injEq, List.cons.injEq, and_true] at e
          exact absurd ⟨cs', e.1⟩ hta
    | a :: b :: c :: d :: e :: r, h =>
      have hne : ¬ ((r.length : Int) + 1 + 1 + 1 + 1 + 1 = 4) := by omega
      exact ⟨.tuple [.str "shape", .int (-1)], by simp [startD, Ty.sub, mkTup, sizeLine_eq, dNeg, hne], by simp [isCl]⟩
  | _ => exact ⟨.tuple [.str "shape", .int (-1)], by simp [startD, Ty.sub, mkTup, sizeLine_eq, dNeg], by simp [isCl]⟩
theorem q_cluster (h : Cl x) : F_is_cluster [x] st = .ok (.bool (decide (isCl x))) st := by
  obtain ⟨r, e, i⟩ := q_fault (st := st) h
  unfold F_is_cluster b_is_cluster
  rw [fnP_e]
  have : isNone r = decide (isCl x) := by
    cases q : isNone r with
    | true => rw [decide_eq_true (i.mp q)]
    | false => rw [decide_eq_false fun z => by rw [i.mpr z] at q; cases q]
  simp [startD, e, this]
end
end Gstampahead_k75_logs_told
set_option Elab.async false
set_option linter.all false
set_option maxRecDepth 100000
set_option maxHeartbeats 4000000
namespace Gstampahead_k75_logs_told
open PySem PySem.Spec L2 Pv
open PyProof.Rows hiding St signs
open Classical
theorem rng_mem {n : Nat} {d : Pv.D} (h : d ∈ rngD 1 (n - 1)) : ∃ k : Nat, d = .int ((k + 1 : Nat) : Int) ∧ k + 1 < n := by
  unfold rngD at h
  obtain ⟨k, hk, e⟩ := List.mem_map.mp h
  have := List.mem_range.mp hk
  exact ⟨k, by rw [← e]; congr 1; omega, by omega⟩
theorem mem_rng {n k : Nat} (h : k + 1 < n) : (PyData.int ((k + 1 : Nat) : Int)) ∈ rngD 1 (n - 1) := by
  unfold rngD
  exact List.mem_map.mpr ⟨k, List.mem_range.mpr (by omega), by congr 1; omega⟩
theorem rng_e {n : Nat} {st : Sto} (h : n ≤ sizeLine) : fRng2 (.int 1) (.int (n : Int)) st = .ok ⟨rngD 1 (n - 1), always⟩ st := by
  rw [sizeLine_eq] at h
  have e1 : inR62 1 = true := by decide
  have e2 : inR62 (n : Int) = true := decide_eq_true ⟨by omega, by omega⟩
  have e3 : ((n : Int) - 1).toNat = n - 1 := by omega
  show (if inR62 1 = true ∧ inR62 (n : Int) = true then R.ok (Src.mk (rngD 1 ((n : Int) - 1).toNat) always) st else .bad) = _
  rw [if_pos ⟨e1, e2⟩, e3]
theorem mr2 {a b : M} {sl : Sl} {st st1 st2 : Sto} {x y : Pv.D} (h1 : a sl st = .ok x st1) (h2 : b sl st1 = .ok y st2) : mRng2 a b sl st = fRng2 x y st2 := by
  unfold mRng2; rw [h1]; show (b sl st1).bind _ = _; rw [h2]; rfl
theorem rng_len (n : Nat) : (rngD 1 n).length = n := rngD_length 1 n
/-- the places where p fails: none -/
theorem rng_none {n : Nat} {p : Pv.D → Bool} {P : Prop} (h : (∀ k, k + 1 < n → p (.int ((k + 1 : Nat) : Int)) = false) ↔ P) : ((rngD 1 (n - 1)).filter p).isEmpty = decide P := by
  by_cases q : P
  · rw [decide_eq_true q]
    have hp := h.mpr q
    rw [List.isEmpty_iff, List.filter_eq_nil_iff]
    intro d hd
    obtain ⟨k, e, hk⟩ := rng_mem hd
    rw [e, hp k hk]; decide
  · rw [decide_eq_false q]
    cases e : ((rngD 1 (n - 1)).filter p).isEmpty with
    | false => rfl
    | true =>
      exfalso
      rw [List.isEmpty_iff, List.filter_eq_nil_iff] at e
      exact q (h.mp fun k hk => by have := e _ (mem_rng hk); simpa using this)
theorem filt_none {ds : List Pv.D} {p : Pv.D → Bool} : (ds.filter fun d => !p d).isEmpty = decide (∀ d ∈ ds, p d = true) := by
  by_cases q : ∀ d ∈ ds, p d = true
  · rw [decide_eq_true q, List.isEmpty_iff, List.filter_eq_nil_iff]
    intro d hd; rw [q d hd]; decide
  · rw [decide_eq_false q]
    cases e : (ds.filter fun d => !p d).isEmpty with
    | false => rfl
    | true =>
      exfalso
      rw [List.isEmpty_iff, List.filter_eq_nil_iff] at e
      exact q fun d hd => by have := e d hd; simpa using this
theorem ints_lay' {n : Nat} {p : Pv.D → Bool} : PyData.canLayAll0 ((rngD 1 n).filter p) = true := (layAll_iff _).mpr fun d hd => by
  have := (List.mem_filter.mp hd).1
  unfold rngD at this
  obtain ⟨k, _, e⟩ := List.mem_map.mp this
  subst e; rfl
section
variable {st : Sto} {x : Pv.D}
/-- the names at two places -/
def pC (ts : List Pv.D) (d : Pv.D) : Bool := match d with | .int i => !ltS (strOf ((ts[(i - 1).toNat]?).getD .none)) (strOf ((ts[i.toNat]?).getD .none)) | _ => false
theorem comp_rise {cs : List Pv.D} {a0 a1 a2 a3 a4 : Option Pv.D} (h : ∀ c ∈ cs, isClock c = true) (hz : cs.length ≤ sizeLine) :
    mLc (mRng2 (mC (.int 1)) (mLen (mVar 5))) (.nm 7) (mTb (mCmp .GtE (mIx (mVar 5) (mSub (mVar 7) (mC (.int 1)))) (mIx (mVar 5) (mVar 7)))) (mVar 7) [7] [a0, a1, a2, a3, a4, some (.list (cs.map hd0)), none, none] st
      = .ok (.list (((rngD 1 (cs.length - 1)).filter (pC (cs.map hd0))).map id)) st := by
  refine mLc_map (keep := always) (ds := rngD 1 (cs.length - 1)) id (pC (cs.map hd0)) ?_ trivial (by rw [rng_len]; exact Nat.le_trans (Nat.sub_le _ _) hz) fun d hd => ?_
  · rw [mr2 (st1 := st) (st2 := st) (x := .int 1) (y := .int (cs.length : Int)) rfl (by simp)]
    exact rng_e hz
  · obtain ⟨k, e, hk⟩ := rng_mem hd
    subst e
    have hk0 : k < cs.length := by omega
    obtain ⟨z, b, c, d', e1, _⟩ := clock_inv (h cs[k] (List.getElem_mem hk0))
    obtain ⟨z2, b2, c2, d2, e2, _⟩ := clock_inv (h cs[k + 1] (List.getElem_mem hk))
    have g1 : (cs.map hd0)[k]? = some (.str z) := by rw [List.getElem?_map, List.getElem?_eq_getElem hk0, e1]; rfl
    have g2 : (cs.map hd0)[k + 1]? = some (.str z2) := by rw [List.getElem?_map, List.getElem?_eq_getElem hk, e2]; rfl
    have i1 : fIx (.list (cs.map hd0)) (.int ((k : Nat) : Int)) st = .ok (.str z) st := ix_l g1
    have i2 : fIx (.list (cs.map hd0)) (.int ((k : Int) + 1)) st = .ok (.str z2) st := ix_l (j := k + 1) g2
    refine ⟨_, rfl, ?_, fun _ => by simp [wipeD]⟩
    have ep : pC (cs.map hd0) (.int ((k + 1 : Nat) : Int)) = !ltS z z2 := by
      unfold pC
      simp only
      rw [show (((k + 1 : Nat) : Int) - 1).toNat = k by omega, show ((k + 1 : Nat) : Int).toNat = k + 1 by omega, g1, g2]
      rfl
    have ek : (k : Int) + 1 - 1 = k := by omega
    rw [ep]
    simp [wipeD, dInt2, ek, i1, i2]
theorem rise_iff {cs : List Pv.D} (h : ∀ c ∈ cs, isClock c = true) : (∀ k, k + 1 < cs.length → pC (cs.map hd0) (.int ((k + 1 : Nat) : Int)) = false) ↔ Rise cs := by
  have val : ∀ k (hk : k + 1 < cs.length), pC (cs.map hd0) (.int ((k + 1 : Nat) : Int)) = !lt0 cs[k] cs[k + 1] := by
    intro k hk
    have hk0 : k < cs.length := by omega
    unfold pC
    simp only
    rw [show (((k + 1 : Nat) : Int) - 1).toNat = k by omega, show ((k + 1 : Nat) : Int).toNat = k + 1 by omega, List.getElem?_map, List.getElem?_map, List.getElem?_eq_getElem hk0, List.getElem?_eq_getElem hk]
    rfl
  constructor
  · intro q k a b ha hb
    obtain ⟨hk, e2⟩ := List.getElem?_eq_some_iff.mp hb
    obtain ⟨hk0, e1⟩ := List.getElem?_eq_some_iff.mp ha
    have := q k hk
    rw [val k hk, e1, e2] at this
    simpa using this
  · intro q k hk
    rw [val k hk, q k _ _ (List.getElem?_eq_getElem (by omega)) (List.getElem?_eq_getElem hk)]
    rfl
def pL (ls : List Pv.D) (d : Pv.D) : Bool := match d with | .int i => !lt2 ((ls[(i - 1).toNat]?).getD .none) ((ls[i.toNat]?).getD .none) | _ => false
theorem way_inv {ns : List Pv.D} (h : isWay ns x = true) : ∃ z y c, x = .tuple [.str z, .str y, c] := by
  unfold isWay at h
  split at h
  · rename_i a b c
    rw [Bool.and_eq_true, Bool.and_eq_true] at h
    obtain ⟨z, e⟩ := name_str h.1
    obtain ⟨y, e2⟩ := name_str h.2.1
    subst e; subst e2
    exact ⟨z, y, c, rfl⟩
  · cases h
theorem comp_rise2 {ls ns : List Pv.D} {a0 a1 a3 a4 a5 : Option Pv.D} (h : ∀ c ∈ ls, isWay ns c = true) (hcl : ∀ c ∈ ls, Cl c) (hz : ls.length ≤ sizeLine) :
    mLc (mRng2 (mC (.int 1)) (mLen (mVar 2))) (.nm 7) (mTb (mCmp .GtE (mSl (mIx (mVar 2) (mSub (mVar 7) (mC (.int 1)))) (moNone) (moSome (mC (.int 2)))) (mSl (mIx (mVar 2) (mVar 7)) (moNone) (moSome (mC (.int 2)))))) (mVar 7) [7] [a0, a1, some (.tuple ls), a3, a4, a5, none, none] st
      = .ok (.list (((rngD 1 (ls.length - 1)).filter (pL ls)).map id)) st := by
  refine mLc_map (keep := always) (ds := rngD 1 (ls.length - 1)) id (pL ls) ?_ trivial (by rw [rng_len]; exact Nat.le_trans (Nat.sub_le _ _) hz) fun d hd => ?_
  · rw [mr2 (st1 := st) (st2 := st) (x := .int 1) (y := .int (ls.length : Int)) rfl (by simp)]
    exact rng_e hz
  · obtain ⟨k, e, hk⟩ := rng_mem hd
    subst e
    have hk0 : k < ls.length := by omega
    obtain ⟨z, b, c, e1⟩ := way_inv (h ls[k] (List.getElem_mem hk0))
    obtain ⟨z2, b2, c2, e2⟩ := way_inv (h ls[k + 1] (List.getElem_mem hk))
    have g1 : ls[k]? = some (.tuple [.str z, .str b, c]) := by rw [List.getElem?_eq_getElem hk0, e1]
    have g2 : ls[k + 1]? = some (.tuple [.str z2, .str b2, c2]) := by rw [List.getElem?_eq_getElem hk, e2]
    have i1 : fIx (.tuple ls) (.int ((k : Nat) : Int)) st = .ok (.tuple [.str z, .str b, c]) st := ix_t g1
    have i2 : fIx (.tuple ls) (.int ((k : Int) + 1)) st = .ok (.tuple [.str z2, .str b2, c2]) st := ix_t (j := k + 1) g2
    refine ⟨_, rfl, ?_, fun _ => by simp [wipeD]⟩
    have c1 := hcl ls[k] (List.getElem_mem hk0)
    have c2' := hcl ls[k + 1] (List.getElem_mem hk)
    rw [e1] at c1
    rw [e2] at c2'
    have ep : pL ls (.int ((k + 1 : Nat) : Int)) = !cmpR .Lt (cmpD (.tuple [.str z, .str b]) (.tuple [.str z2, .str b2])) := by
      unfold pL
      simp only
      rw [show (((k + 1 : Nat) : Int) - 1).toNat = k by omega, show ((k + 1 : Nat) : Int).toNat = k + 1 by omega, g1, g2]
      rfl
    have ek : (k : Int) + 1 - 1 = k := by omega
    rw [ep]
    simp [wipeD, dInt2, ek, i1, i2, cut2, cmp_ge_t (cl_cut c1) (cl_cut c2')]
theorem rise2_iff {ls : List Pv.D} : (∀ k, k + 1 < ls.length → pL ls (.int ((k + 1 : Nat) : Int)) = false) ↔ Rise2 ls := by
  have val : ∀ k (hk : k + 1 < ls.length), pL ls (.int ((k + 1 : Nat) : Int)) = !lt2 ls[k] ls[k + 1] := by
    intro k hk
    have hk0 : k < ls.length := by omega
    unfold pL
    simp only
    rw [show (((k + 1 : Nat) : Int) - 1).toNat = k by omega, show ((k + 1 : Nat) : Int).toNat = k + 1 by omega, List.getElem?_eq_getElem hk0, List.getElem?_eq_getElem hk]
    rfl
  constructor
  · intro q k a b ha hb
    obtain ⟨hk, e2⟩ := List.getElem?_eq_some_iff.mp hb
    obtain ⟨hk0, e1⟩ := List.getElem?_eq_some_iff.mp ha
    have := q k hk
    rw [val k hk, e1, e2] at this
    simpa using this
  · intro q k hk
    rw [val k hk, q k _ _ (List.getElem?_eq_getElem (by omega)) (List.getElem?_eq_getElem hk)]
    rfl
end
end Gstampahead_k75_logs_told
set_option Elab.async false
set_option linter.all false
set_option maxRecDepth 100000
set_option maxHeartbeats 4000000
namespace Gstampahead_k75_logs_told
open PySem PySem.Spec L2 Pv
open PyProof.Rows hiding St signs
open Classical
section
variable {st : Sto} {x : Pv.D}
theorem comp_clocks {cs : List Pv.D} {a0 a2 a3 a4 a5 a7 : Option Pv.D} (hcs : ∀ c ∈ cs, Cl c) (hz : cs.length ≤ sizeLine) :
    mLc (mIter (mVar 1)) (.nm 6) (mNotT (mTru (mCall F__law_is_clock (msCons (mVar 6) msNil)))) (mVar 6) [6] [a0, some (.tuple cs), a2, a3, a4, a5, none, a7] st = .ok (.list ((cs.filter fun d => !isClock d).map id)) st := by
  refine mLc_map (keep := always) (ds := cs) id (fun d => !isClock d) (by simp) trivial hz fun d hd => ⟨_, rfl, ?_, fun _ => by simp [wipeD]⟩
  simp [wipeD, q_clock' (hcs d hd)]
theorem comp_ways {ls ns : List Pv.D} {a0 a1 a3 a4 a7 : Option Pv.D} (hns : Cl (.list ns)) (hls : ∀ c ∈ ls, Cl c) (hz : ls.length ≤ sizeLine) :
    mLc (mIter (mVar 2)) (.nm 6) (mNotT (mTru (mCall F__law_is_way (msCons (mVar 6) (msCons (mVar 5) msNil))))) (mVar 6) [6] [a0, a1, some (.tuple ls), a3, a4, some (.list ns), none, a7] st = .ok (.list ((ls.filter fun d => !isWay ns d).map id)) st := by
  refine mLc_map (keep := always) (ds := ls) id (fun d => !isWay ns d) (by simp) trivial hz fun d hd => ⟨_, rfl, ?_, fun _ => by simp [wipeD]⟩
  simp [wipeD, q_way (hls d hd) hns]
theorem filt_lay {ds : List Pv.D} {p : Pv.D → Bool} (h : ∀ d ∈ ds, Cl d) : PyData.canLayAll0 (ds.filter p) = true := (layAll_iff _).mpr fun d hd => (h d (List.mem_filter.mp hd).1).lay
/-- over names, a road in the one sense is a road in the other -/
theorem way_link {ns : List Pv.D} (h : ∀ n ∈ ns, isName n = true) : isWay ns x = isLink ns x := by
  have key : ∀ a : Pv.D, (isName a && inL a ns) = isAmong a ns := by
    intro a
    cases a with
    | str z =>
      show (isName (.str z) && inL (.str z) ns) = inL (.str z) ns
      cases q : inL (.str z) ns with
      | false => simp
      | true =>
        unfold inL at q
        obtain ⟨n, hn, e⟩ := List.any_eq_true.mp q
        have hnn := h n hn
        obtain ⟨y, ey⟩ := name_str hnn
        subst ey
        have : y = z := by simpa [PyData.eqv] using e
        subst this
        rw [hnn]; rfl
    | _ => rfl
  unfold isWay isLink
  cases x with
  | tuple ds =>
    match ds with
    | [] => rfl
    | [a] => rfl
    | [a, b] => rfl
    | [a, b, c] =>
      simp only
      rw [← key a, ← key b]
      cases isName a <;> cases isName b <;> cases inL a ns <;> cases inL b ns <;> rfl
    | a :: b :: c :: d :: r => rfl
  | _ => rfl
theorem names_of {cs : List Pv.D} (h : ∀ c ∈ cs, isClock c = true) : ∀ n ∈ cs.map hd0, isName n = true := by
  intro n hn
  obtain ⟨c, hc, e⟩ := List.mem_map.mp hn
  obtain ⟨z, b, c', d', e1, e2⟩ := clock_inv (h c hc)
  subst e; subst e1
  exact e2
theorem isCl_tup (h : isCl x) : ∃ a b c d, x = .tuple [a, b, c, d] := by obtain ⟨cs, ls, m, r, e, _⟩ := h; exact ⟨_, _, _, _, e⟩
theorem q_tome (h : Cl x) : F__law_is_tome [x] st = .ok (.bool (decide (isCl x))) st := by
  unfold F__law_is_tome
  rw [fnP_e]
  have bad : (∀ a b c d, x ≠ .tuple [a, b, c, d]) → isTup 4 x = false → finR st.length (endR (b__law_is_tome (startD 8 [x]) st)) = .ok (.bool (decide (isCl x))) st := by
    intro n t
    have : decide (isCl x) = false := decide_eq_false fun z => by obtain ⟨a, b, c, d, e⟩ := isCl_tup z; exact n a b c d e
    rw [this]
    unfold b__law_is_tome
    simp -implicitDefEqProofs [startD, q_tuple4 h, t]
  cases x with
  | dict k => exact h.nodict.elim
  | tuple ds =>
    match ds, h with
    | [], h => exact bad (by simp) rfl
    | [a], h => exact bad (by simp) rfl
    | [a, b], h => exact bad (by simp) rfl
    | [a, b, c], h => exact bad (by simp) rfl
    | [a, b, m, r], h =>
      have ha : Cl a := h.memT (by simp)
      have hb : Cl b := h.memT (by simp)
      have hm : Cl m := h.memT (by simp)
      have hr : Cl r := h.memT (by simp)
      have t4 : isTup 4 (.tuple [a, b, m, r]) = true := rfl
      by_cases hta : ∃ cs, a = .tuple cs
      · by_cases htb : ∃ ls, b = .tuple ls
        · obtain ⟨cs, ea⟩ := hta
          obtain ⟨ls, eb⟩ := htb
          subst ea; subst eb
          have hcs : ∀ c ∈ cs, Cl c := fun c hc => ha.memT hc
          have hls : ∀ c ∈ ls, Cl c := fun c hc => hb.memT hc
          have zc := ha.len_t
          have zl := hb.len_t
          rw [show decide (isCl (.tuple [.tuple cs, .tuple ls, m, r])) = decide (ClOk cs ls m r) from decide_eq_decide.mpr isCl_iff]
          unfold b__law_is_tome
          have e0 : dCmp .Eq (.tuple cs) (.tuple []) = some (.bool cs.isEmpty) := cmp_eq_nilT ha.lay
          by_cases k0 : cs = []
          · subst k0
            have : decide (ClOk [] ls m r) = false := decide_eq_false fun z => z.1 rfl
            rw [this]
            simp -implicitDefEqProofs [startD, q_tuple4 h, t4, Ty.sub, mkTup, e0]
          · have ne : cs.isEmpty = false := by cases cs with | nil => exact absurd rfl k0 | cons _ _ => rfl
            rw [ne] at e0
            have e1 := cmp_ne_nilL (filt_lay (p := fun d => !isClock d) hcs)
            rw [filt_none] at e1
            by_cases k1 : ∀ c ∈ cs, isClock c = true
            · rw [decide_eq_true k1] at e1
              have hns := cl_map k1 ha
              have hmp := hd0_map (a0 := some (.tuple [.tuple cs, .tuple ls, m, r])) (a2 := some (.tuple ls)) (a3 := some m) (a4 := some r) (st := st) k1 zc
              have cr := comp_rise (a0 := some (.tuple [.tuple cs, .tuple ls, m, r])) (a1 := some (.tuple cs)) (a2 := some (.tuple ls)) (a3 := some m) (a4 := some r) (st := st) k1 zc
              have e2 := cmp_ne_nilL (ints_lay' (n := cs.length - 1) (p := pC (cs.map hd0)))
              rw [rng_none (rise_iff k1)] at e2
              by_cases k2 : Rise cs
              · rw [decide_eq_true k2] at e2
                have e3 := cmp_ne_nilL (filt_lay (p := fun d => !isWay (cs.map hd0) d) hls)
                rw [filt_none] at e3
                by_cases k3 : ∀ l ∈ ls, isWay (cs.map hd0) l = true
                · rw [decide_eq_true k3] at e3
                  have cr2 := comp_rise2 (a0 := some (.tuple [.tuple cs, .tuple ls, m, r])) (a1 := some (.tuple cs)) (a3 := some m) (a4 := some r) (a5 := some (.list (cs.map hd0))) (st := st) k3 hls zl
                  have e4 := cmp_ne_nilL (ints_lay' (n := ls.length - 1) (p := pL ls))
                  rw [rng_none rise2_iff] at e4
                  have k3' : ∀ l ∈ ls, isLink (cs.map hd0) l = true := fun l hl => by rw [← way_link (names_of k1)]; exact k3 l hl
                  by_cases k4 : Rise2 ls
                  · rw [decide_eq_true k4] at e4
                    have fin : decide (ClOk cs ls m r) = (mostOk m && ruleOk m r) := by
                      cases q1 : mostOk m with
                      | false => exact decide_eq_false fun z => by have := z.2.2.2.2.2.1; rw [q1] at this; cases this
                      | true =>
                        cases q2 : ruleOk m r with
                        | false => exact decide_eq_false fun z => by have := z.2.2.2.2.2.2; rw [q2] at this; cases this
                        | true => exact decide_eq_true ⟨k0, k1, k2, k3', k4, q1, q2⟩
                    rw [fin]
                    cases q1 : isNone m with
                    | true =>
                      cases r with
                      | str z => cases q3 : (z == ("wait" : Str)) <;> cases q4 : (z == ("more" : Str)) <;> simp -implicitDefEqProofs [startD, q_tuple4 h, t4, Ty.sub, mkTup, e0, comp_clocks hcs zc, e1, mkLst, hmp, cr, e2, comp_ways hns hls zl, e3, cr2, e4, q1, mostOk, ruleOk, isRule, q3, q4]
                      | dict _ => exact hr.nodict.elim
                      | _ => simp -implicitDefEqProofs [startD, q_tuple4 h, t4, Ty.sub, mkTup, e0, comp_clocks hcs zc, e1, mkLst, hmp, cr, e2, comp_ways hns hls zl, e3, cr2, e4, q1, mostOk, ruleOk, isRule]
                    | false =>
                      cases q5 : isNum m with
                      | false => simp -implicitDefEqProofs [startD, q_tuple4 h, t4, Ty.sub, mkTup, e0, comp_clocks hcs zc, e1, mkLst, hmp, cr, e2, comp_ways hns hls zl, e3, cr2, e4, q1, q_num' hm, q5, mostOk]
                      | true =>
                        cases r with
                        | str z => cases q3 : (z == ("wait" : Str)) <;> cases q4 : (z == ("more" : Str)) <;> simp -implicitDefEqProofs [startD, q_tuple4 h, t4, Ty.sub, mkTup, e0, comp_clocks hcs zc, e1, mkLst, hmp, cr, e2, comp_ways hns hls zl, e3, cr2, e4, q1, q_num' hm, q5, mostOk, ruleOk, isRule, q3, q4]
                        | dict _ => exact hr.nodict.elim
                        | _ => simp -implicitDefEqProofs [startD, q_tuple4 h, t4, Ty.sub, mkTup, e0, comp_clocks hcs zc, e1, mkLst, hmp, cr, e2, comp_ways hns hls zl, e3, cr2, e4, q1, q_num' hm, q5, mostOk, ruleOk, isRule]
                  · rw [decide_eq_false k4] at e4
                    have : decide (ClOk cs ls m r) = false := decide_eq_false fun z => k4 z.2.2.2.2.1
                    rw [this]
                    simp -implicitDefEqProofs [startD, q_tuple4 h, t4, Ty.sub, mkTup, e0, comp_clocks hcs zc, e1, mkLst, hmp, cr, e2, comp_ways hns hls zl, e3, cr2, e4]
                · rw [decide_eq_false k3] at e3
                  have : decide (ClOk cs ls m r) = false := decide_eq_false fun z => k3 fun l hl => by rw [way_link (names_of k1)]; exact z.2.2.2.1 l hl
                  rw [this]
                  simp -implicitDefEqProofs [startD, q_tuple4 h, t4, Ty.sub, mkTup, e0, comp_clocks hcs zc, e1, mkLst, hmp, cr, e2, comp_ways hns hls zl, e3]
              · rw [decide_eq_false k2] at e2
                have : decide (ClOk cs ls m r) = false := decide_eq_false fun z => k2 z.2.2.1
                rw [this]
                simp -implicitDefEqProofs [startD, q_tuple4 h, t4, Ty.sub, mkTup, e0, comp_clocks hcs zc, e1, mkLst, hmp, cr, e2]
            · rw [decide_eq_false k1] at e1
              have : decide (ClOk cs ls m r) = false := decide_eq_false fun z => k1 z.2.1
              rw [this]
              simp -implicitDefEqProofs [startD, q_tuple4 h, t4, Ty.sub, mkTup, e0, comp_clocks hcs zc, e1, mkLst]
        · obtain ⟨cs, ea⟩ := hta
          subst ea
          have : decide (isCl (.tuple [.tuple cs, b, m, r])) = false := decide_eq_false fun ⟨cs', ls', m', r', e, _⟩ => by
            simp only [PyData.tuple.injEq, List.cons.injEq, and_true] at e
            exact htb ⟨ls', e.2.1⟩
          rw [this]
          unfold b__law_is_tome
          cases b with
          | tuple ls => exact absurd ⟨ls, rfl⟩ htb
          | dict _ => exact hb.nodict.elim
          | _ => simp -implicitDefEqProofs [startD, q_tuple4 h, t4, Ty.sub]
      · have : decide (isCl (.tuple [a, b, m, r])) = false := decide_eq_false fun ⟨cs', ls', m', r', e, _⟩ => by
          simp only [PyData.tuple.injEq, List.cons.injEq, and_true] at e
          exact hta ⟨cs', e.1⟩
        rw [this]
        unfold b__law_is_tome
        cases a with
        | tuple ls => exact absurd ⟨ls, rfl⟩ hta
        | dict _ => exact ha.nodict.elim
        | _ => simp -implicitDefEqProofs [startD, q_tuple4 h, t4, Ty.sub]
    | a :: b :: c :: d :: e :: r, h => exact bad (by simp) (by simp [isTup])
  | _ => exact bad (by simp) rfl
end
end Gstampahead_k75_logs_told
set_option Elab.async false
set_option linter.all false
set_option maxRecDepth 100000
set_option maxHeartbeats 4000000
namespace Gstampahead_k75_logs_told
open PySem PySem.Spec L2 Pv
open PyProof.Rows hiding St signs
open Classical
def isTwo (a b : Pv.D) : Bool := isName a && (isName b && !PyData.eqv a b)
def isTold (a b c d : Pv.D) : Bool := isName a && (isInt b && (isInt c && (isNone d || isNum d)))
def isClocked (a b c : Pv.D) : Bool := isName a && (isNum b && isNum c)
def isLed (a b c : Pv.D) : Bool := isTwo a b && isNum c
def isEv : Pv.D → Bool
  | .tuple (.str z :: r) =>
    if z = "tell" then (match r with | [a, b, c, d] => isTold a b c d | _ => false)
    else if z = "clock" then (match r with | [a, b, c] => isClocked a b c | _ => false)
    else if z = "road" then (match r with | [a, b, c] => isLed a b c | _ => false)
    else if z = "cut" then (match r with | [a, b] => isTwo a b | _ => false)
    else false
  | _ => false
section
variable {st : Sto} {x a b c d : Pv.D}
theorem q_two (ha : Cl a) (hb : Cl b) : F_are_two [a, b] st = .ok (.bool (isTwo a b)) st := by
  unfold F_are_two b_are_two
  rw [fnP_e]
  cases q1 : isName a <;> cases q2 : isName b <;> simp -implicitDefEqProofs [startD, q_name ha, q_name hb, q1, q2, isTwo, deref_ok ha.lay, deref_ok hb.lay, cmp_ne (lay_cl ha hb)]
theorem q_letter (hd : Cl d) : F_is_letter [d] st = .ok (.bool (isNone d || isNum d)) st := by
  unfold F_is_letter b_is_letter
  rw [fnP_e]
  cases q1 : isNone d <;> simp -implicitDefEqProofs [startD, q_num hd, q1]
theorem q_told (ha : Cl a) (hb : Cl b) (hc : Cl c) (hd : Cl d) : F_is_told [.tuple [a, b, c, d]] st = .ok (.bool (isTold a b c d)) st := by
  unfold F_is_told b_is_told
  rw [fnP_e]
  cases q1 : isName a <;> cases q2 : isInt b <;> cases q3 : isInt c <;> simp -implicitDefEqProofs [startD, q_name ha, q_int hb, q_int hc, q_letter hd, q1, q2, q3, isTold]
theorem q_clocked (ha : Cl a) (hb : Cl b) (hc : Cl c) : F_is_clocked [.tuple [a, b, c]] st = .ok (.bool (isClocked a b c)) st := by
  unfold F_is_clocked b_is_clocked
  rw [fnP_e]
  cases q1 : isName a <;> cases q2 : isNum b <;> simp -implicitDefEqProofs [startD, q_name ha, q_num hb, q_num hc, q1, q2, isClocked]
theorem q_led (ha : Cl a) (hb : Cl b) (hc : Cl c) : F_is_led [.tuple [a, b, c]] st = .ok (.bool (isLed a b c)) st := by
  unfold F_is_led b_is_led
  rw [fnP_e]
  cases q1 : isTwo a b <;> simp -implicitDefEqProofs [startD, q_two ha hb, q_num hc, q1, isLed]
theorem cut_tail {e : Pv.D} {r : List Pv.D} : fSl (some 1) none (.tuple (e :: r)) st = .ok (.tuple r) st := by
  show R.ok (PyData.tuple (cutD (e :: r) (some 1) none)) st = _
  congr 2
  unfold Pv.cutD HT.sIx
  simp
theorem ev_tell {r : List Pv.D} : isEv (.tuple (.str "tell" :: r)) = (match r with | [a, b, c, d] => isTold a b c d | _ => false) := by simp [isEv]; rfl
theorem ev_clock {r : List Pv.D} : isEv (.tuple (.str "clock" :: r)) = (match r with | [a, b, c] => isClocked a b c | _ => false) := by simp [isEv]; rfl
theorem ev_road {r : List Pv.D} : isEv (.tuple (.str "road" :: r)) = (match r with | [a, b, c] => isLed a b c | _ => false) := by simp [isEv]; rfl
theorem ev_cut {r : List Pv.D} : isEv (.tuple (.str "cut" :: r)) = (match r with | [a, b] => isTwo a b | _ => false) := by simp [isEv]; rfl
theorem ev_else {z : Str} {r : List Pv.D} (h1 : ¬ z = "tell") (h2 : ¬ z = "clock") (h3 : ¬ z = "road") (h4 : ¬ z = "cut") : isEv (.tuple (.str z :: r)) = false := by simp [isEv, h1, h2, h3, h4]
theorem q_event (h : Cl x) : F_is_live_event [x] st = .ok (.bool (isEv x)) st := by
  unfold F_is_live_event b_is_live_event
  rw [fnP_e]
  cases x with
  | dict k => exact h.nodict.elim
  | tuple ds =>
    cases ds with
    | nil => simp -implicitDefEqProofs [startD, Ty.sub, isEv]
    | cons e r =>
      have he : Cl e := h.memT (by simp)
      have hp : ¬ ((r.length : Int) + 1 = 0) := by omega
      cases e with
      | dict k => exact he.nodict.elim
      | str z =>
        have mem : ∀ d ∈ r, Cl d := fun d hd => h.memT (List.mem_cons_of_mem _ hd)
        by_cases z1 : z = "tell"
        · subst z1
          rw [ev_tell]
          match r, mem, h with
          | [a, b, c, d], mem, h => simp -implicitDefEqProofs [startD, Ty.sub, set2, cut_tail, q_told (mem a (by simp)) (mem b (by simp)) (mem c (by simp)) (mem d (by simp))]
          | [], mem, h => simp -implicitDefEqProofs [startD, Ty.sub, set2]
          | [a], mem, h => simp -implicitDefEqProofs [startD, Ty.sub, set2]
          | [a, b], mem, h => simp -implicitDefEqProofs [startD, Ty.sub, set2]
          | [a, b, c], mem, h => simp -implicitDefEqProofs [startD, Ty.sub, set2]
          | a :: b :: c :: d :: f :: r, mem, h =>
            have n1 : ¬ ((r.length : Int) + 1 + 1 + 1 + 1 + 1 + 1 = 0) := by omega
            have n2 : ¬ ((r.length : Int) + 1 + 1 + 1 + 1 + 1 + 1 = 5) := by omega
            simp -implicitDefEqProofs [startD, Ty.sub, set2, n1, n2]
        · by_cases z2 : z = "clock"
          · subst z2
            rw [ev_clock]
            match r, mem, h with
            | [a, b, c], mem, h => simp -implicitDefEqProofs [startD, Ty.sub, set2, cut_tail, q_clocked (mem a (by simp)) (mem b (by simp)) (mem c (by simp))]
            | [], mem, h => simp -implicitDefEqProofs [startD, Ty.sub, set2]
            | [a], mem, h => simp -implicitDefEqProofs [startD, Ty.sub, set2]
            | [a, b], mem, h => simp -implicitDefEqProofs [startD, Ty.sub, set2]
            | a :: b :: c :: d :: r, mem, h =>
              have n1 : ¬ ((r.length : Int) + 1 + 1 + 1 + 1 + 1 = 0) := by omega
              have n2 : ¬ ((r.length : Int) + 1 + 1 + 1 + 1 + 1 = 4) := by omega
              simp -implicitDefEqProofs [startD, Ty.sub, set2, n1, n2]
          · by_cases z3 : z = "road"
            · subst z3
              rw [ev_road]
              match r, mem, h with
              | [a, b, c], mem, h => simp -implicitDefEqProofs [startD, Ty.sub, set2, cut_tail, q_led (mem a (by simp)) (mem b (by simp)) (mem c (by simp))]
              | [], mem, h => simp -implicitDefEqProofs [startD, Ty.sub, set2]
              | [a], mem, h => simp -implicitDefEqProofs [startD, Ty.sub, set2]
              | [a, b], mem, h => simp -implicitDefEqProofs [startD, Ty.sub, set2]
              | a :: b :: c :: d :: r, mem, h =>
                have n1 : ¬ ((r.length : Int) + 1 + 1 + 1 + 1 + 1 = 0) := by omega
                have n2 : ¬ ((r.length : Int) + 1 + 1 + 1 + 1 + 1 = 4) := by omega
                simp -implicitDefEqProofs [startD, Ty.sub, set2, n1, n2]
            · by_cases z4 : z = "cut"
              · subst z4
                rw [ev_cut]
                match r, mem, h with
                | [a, b], mem, h => simp -implicitDefEqProofs [startD, Ty.sub, set2, q_two (mem a (by simp)) (mem b (by simp))]
                | [], mem, h => simp -implicitDefEqProofs [startD, Ty.sub, set2]
                | [a], mem, h => simp -implicitDefEqProofs [startD, Ty.sub, set2]
                | a :: b :: c :: r, mem, h =>
                  have n1 : ¬ ((r.length : Int) + 1 + 1 + 1 + 1 = 0) := by omega
                  have n2 : ¬ ((r.length : Int) + 1 + 1 + 1 + 1 = 3) := by omega
                  simp -implicitDefEqProofs [startD, Ty.sub, set2, n1, n2]
              · rw [ev_else z1 z2 z3 z4]
                have b1 : (z == ("tell" : Str)) = false := beq_eq_false_iff_ne.mpr z1
                have b2 : (z == ("clock" : Str)) = false := beq_eq_false_iff_ne.mpr z2
                have b3 : (z == ("road" : Str)) = false := beq_eq_false_iff_ne.mpr z3
                have b4 : (z == ("cut" : Str)) = false := beq_eq_false_iff_ne.mpr z4
                simp -implicitDefEqProofs [startD, Ty.sub, set2, hp, b1, b2, b3, b4]
      | _ => simp -implicitDefEqProofs [startD, Ty.sub, isEv, hp]
  | _ => simp -implicitDefEqProofs [startD, Ty.sub, isEv]
theorem q_event' (h : Cl x) : F__law_is_event [x] st = .ok (.bool (isEv x)) st := by
  unfold F__law_is_event b__law_is_event
  rw [fnP_e]
  cases x with
  | dict k => exact h.nodict.elim
  | tuple ds =>
    have short : ∀ r : List Pv.D, r.length < 2 → ∀ e, isEv (.tuple (e :: r)) = false := by
      intro r hr e
      cases e with
      | str z =>
        by_cases z1 : z = "tell"
        · subst z1; rw [ev_tell]; match r, hr with | [], _ => rfl | [a], _ => rfl
        · by_cases z2 : z = "clock"
          · subst z2; rw [ev_clock]; match r, hr with | [], _ => rfl | [a], _ => rfl
          · by_cases z3 : z = "road"
            · subst z3; rw [ev_road]; match r, hr with | [], _ => rfl | [a], _ => rfl
            · by_cases z4 : z = "cut"
              · subst z4; rw [ev_cut]; match r, hr with | [], _ => rfl | [a], _ => rfl
              · exact ev_else z1 z2 z3 z4
      | _ => rfl
    match ds, h with
    | [], h => simp -implicitDefEqProofs [startD, Ty.sub, isEv]
    | [e], h => rw [short [] (by decide) e]; simp -implicitDefEqProofs [startD, Ty.sub]
    | [e, a], h => rw [short [a] (by simp) e]; simp -implicitDefEqProofs [startD, Ty.sub]
    | e :: a :: b :: r, h =>
      have he : Cl e := h.memT (by simp)
      have ha : Cl a := h.memT (by simp)
      have hb : Cl b := h.memT (by simp)
      have n0 : ¬ ((r.length : Int) + 1 + 1 + 1 < 3) := by omega
      cases e with
      | dict k => exact he.nodict.elim
      | str z =>
        have mem : ∀ d ∈ r, Cl d := fun d hd => h.memT (List.mem_cons_of_mem _ (List.mem_cons_of_mem _ (List.mem_cons_of_mem _ hd)))
        have fl : ∀ (r' : List Pv.D), ((r'.length : Int) + 1 + 1 + 1 + 1 + 1 + 1 < 3) = False := fun r' => eq_false (by omega)
        have f5 : ∀ (r' : List Pv.D), ((r'.length : Int) + 1 + 1 + 1 + 1 + 1 + 1 = 5) = False := fun r' => eq_false (by omega)
        have f4 : ∀ (r' : List Pv.D), ((r'.length : Int) + 1 + 1 + 1 + 1 + 1 + 1 = 4) = False := fun r' => eq_false (by omega)
        have f3 : ∀ (r' : List Pv.D), ((r'.length : Int) + 1 + 1 + 1 + 1 + 1 + 1 = 3) = False := fun r' => eq_false (by omega)
        by_cases z1 : z = "tell"
        · subst z1
          rw [ev_tell]
          cases q1 : isName a <;> cases q2 : isName b <;> cases q3 : PyData.eqv a b <;> cases q4 : isInt b <;>
          (match r, mem, h with
          | [c, d], mem, h => (cases q5 : isInt c <;> cases q6 : isNone d <;> simp -implicitDefEqProofs [startD, Ty.sub, q_name' ha, q_name' hb, q_int' hb, q_num' hb, deref_ok ha.lay, deref_ok hb.lay, cmp_eq (lay_cl ha hb), q1, q2, q3, q4, q5, q6, isTold, q_int' (mem c (by simp)), q_num' (mem d (by simp))])
          | [], mem, h => simp -implicitDefEqProofs [startD, Ty.sub, q_name' ha, q_name' hb, q_int' hb, q_num' hb, deref_ok ha.lay, deref_ok hb.lay, cmp_eq (lay_cl ha hb), q1, q2, q3]
          | [c], mem, h => simp -implicitDefEqProofs [startD, Ty.sub, q_name' ha, q_name' hb, q_int' hb, q_num' hb, deref_ok ha.lay, deref_ok hb.lay, cmp_eq (lay_cl ha hb), q1, q2, q3]
          | c :: d :: f :: r', mem, h => simp -implicitDefEqProofs [startD, Ty.sub, q_name' ha, q_name' hb, q_int' hb, q_num' hb, deref_ok ha.lay, deref_ok hb.lay, cmp_eq (lay_cl ha hb), q1, q2, q3, fl, f5, f4, f3])
        · by_cases z2 : z = "clock"
          · subst z2
            rw [ev_clock]
            cases q1 : isName a <;> cases q2 : isName b <;> cases q3 : PyData.eqv a b <;> cases q4 : isNum b <;>
            (match r, mem, h with
            | [c], mem, h => simp -implicitDefEqProofs [startD, Ty.sub, q_name' ha, q_name' hb, q_int' hb, q_num' hb, deref_ok ha.lay, deref_ok hb.lay, cmp_eq (lay_cl ha hb), q1, q2, q3, q4, isClocked, q_num' (mem c (by simp))]
            | [], mem, h => simp -implicitDefEqProofs [startD, Ty.sub, q_name' ha, q_name' hb, q_int' hb, q_num' hb, deref_ok ha.lay, deref_ok hb.lay, cmp_eq (lay_cl ha hb), q1, q2, q3]
            | [c, d], mem, h => simp -implicitDefEqProofs [startD, Ty.sub, q_name' ha, q_name' hb, q_int' hb, q_num' hb, deref_ok ha.lay, deref_ok hb.lay, cmp_eq (lay_cl ha hb), q1, q2, q3]
            | c :: d :: f :: r', mem, h => simp -implicitDefEqProofs [startD, Ty.sub, q_name' ha, q_name' hb, q_int' hb, q_num' hb, deref_ok ha.lay, deref_ok hb.lay, cmp_eq (lay_cl ha hb), q1, q2, q3, fl, f5, f4, f3])
          · by_cases z3 : z = "road"
            · subst z3
              rw [ev_road]
              cases q1 : isName a <;> cases q2 : isName b <;> cases q3 : PyData.eqv a b <;>
              (match r, mem, h with
              | [c], mem, h => simp -implicitDefEqProofs [startD, Ty.sub, q_name' ha, q_name' hb, q_int' hb, q_num' hb, deref_ok ha.lay, deref_ok hb.lay, cmp_eq (lay_cl ha hb), q1, q2, q3, isLed, isTwo, q_num' (mem c (by simp))]
              | [], mem, h => simp -implicitDefEqProofs [startD, Ty.sub, q_name' ha, q_name' hb, q_int' hb, q_num' hb, deref_ok ha.lay, deref_ok hb.lay, cmp_eq (lay_cl ha hb), q1, q2, q3]
              | [c, d], mem, h => simp -implicitDefEqProofs [startD, Ty.sub, q_name' ha, q_name' hb, q_int' hb, q_num' hb, deref_ok ha.lay, deref_ok hb.lay, cmp_eq (lay_cl ha hb), q1, q2, q3]
              | c :: d :: f :: r', mem, h => simp -implicitDefEqProofs [startD, Ty.sub, q_name' ha, q_name' hb, q_int' hb, q_num' hb, deref_ok ha.lay, deref_ok hb.lay, cmp_eq (lay_cl ha hb), q1, q2, q3, fl, f5, f4, f3])
            · by_cases z4 : z = "cut"
              · subst z4
                rw [ev_cut]
                cases q1 : isName a <;> cases q2 : isName b <;> cases q3 : PyData.eqv a b <;>
                (match r, mem, h with
                | [], mem, h => simp -implicitDefEqProofs [startD, Ty.sub, q_name' ha, q_name' hb, q_int' hb, q_num' hb, deref_ok ha.lay, deref_ok hb.lay, cmp_eq (lay_cl ha hb), q1, q2, q3, isTwo]
                | [c], mem, h => simp -implicitDefEqProofs [startD, Ty.sub, q_name' ha, q_name' hb, q_int' hb, q_num' hb, deref_ok ha.lay, deref_ok hb.lay, cmp_eq (lay_cl ha hb), q1, q2, q3]
                | [c, d], mem, h => simp -implicitDefEqProofs [startD, Ty.sub, q_name' ha, q_name' hb, q_int' hb, q_num' hb, deref_ok ha.lay, deref_ok hb.lay, cmp_eq (lay_cl ha hb), q1, q2, q3]
                | c :: d :: f :: r', mem, h => simp -implicitDefEqProofs [startD, Ty.sub, q_name' ha, q_name' hb, q_int' hb, q_num' hb, deref_ok ha.lay, deref_ok hb.lay, cmp_eq (lay_cl ha hb), q1, q2, q3, fl, f5, f4, f3])
              · rw [ev_else z1 z2 z3 z4]
                have b1 : (z == ("tell" : Str)) = false := beq_eq_false_iff_ne.mpr z1
                have b2 : (z == ("clock" : Str)) = false := beq_eq_false_iff_ne.mpr z2
                have b3 : (z == ("road" : Str)) = false := beq_eq_false_iff_ne.mpr z3
                have b4 : (z == ("cut" : Str)) = false := beq_eq_false_iff_ne.mpr z4
                cases q1 : isName a <;> cases q2 : isName b <;> cases q3 : PyData.eqv a b <;> simp -implicitDefEqProofs [startD, Ty.sub, q_name' ha, q_name' hb, q_int' hb, q_num' hb, deref_ok ha.lay, deref_ok hb.lay, cmp_eq (lay_cl ha hb), q1, q2, q3, n0, b1, b2, b3, b4]
      | _ => simp -implicitDefEqProofs [startD, Ty.sub, isEv, n0]
  | _ => simp -implicitDefEqProofs [startD, Ty.sub, isEv]
end
end Gstampahead_k75_logs_told
set_option Elab.async false
set_option linter.all false
set_option maxRecDepth 100000
set_option maxHeartbeats 4000000
namespace Gstampahead_k75_logs_told
open PySem PySem.Spec L2 Pv
open PyProof.Rows hiding St signs
open Classical
def isHead (x : Pv.D) : Prop := ∃ c, x = .tuple [.str "live", c] ∧ isCl c
def isLog (x : Pv.D) : Prop := ∃ h r, x = .tuple (h :: r) ∧ isHead h ∧ ∀ e ∈ r, isEv e = true
theorem log_cons {e : Pv.D} {r : List Pv.D} : isLog (.tuple (e :: r)) ↔ isHead e ∧ ∀ d ∈ r, isEv d = true := by
  constructor
  · rintro ⟨h', r', e', k, l⟩
    simp only [PyData.tuple.injEq, List.cons.injEq] at e'
    rw [e'.1, e'.2]; exact ⟨k, l⟩
  · rintro ⟨k, l⟩
    exact ⟨e, r, rfl, k, l⟩
theorem head_live {c : Pv.D} : isHead (.tuple [.str "live", c]) ↔ isCl c := by
  constructor
  · rintro ⟨c', e, k⟩
    simp only [PyData.tuple.injEq, List.cons.injEq, and_true, true_and] at e
    subst e; exact k
  · exact fun k => ⟨c, rfl, k⟩
section
variable {st : Sto} {x : Pv.D}
theorem q_head (h : Cl x) : F_is_log_head [x] st = .ok (.bool (decide (isHead x))) st := by
  have no : (∀ c, x ≠ .tuple [.str "live", c]) → decide (isHead x) = false := fun n => decide_eq_false fun ⟨c, e, _⟩ => n c e
  unfold F_is_log_head b_is_log_head
  rw [fnP_e]
  cases x with
  | dict k => exact h.nodict.elim
  | tuple ds =>
    match ds, h with
    | [], h => rw [no (by simp)]; simp -implicitDefEqProofs [startD, Ty.sub]
    | [a], h => rw [no (by simp)]; simp -implicitDefEqProofs [startD, Ty.sub]
    | [a, c], h =>
      have ha : Cl a := h.memT (by simp)
      have hc : Cl c := h.memT (by simp)
      cases a with
      | dict k => exact ha.nodict.elim
      | str z =>
        by_cases z1 : z = "live"
        · subst z1
          have this : decide (isHead (.tuple [.str "live", c])) = decide (isCl c) := decide_eq_decide.mpr head_live
          rw [this]
          simp -implicitDefEqProofs [startD, Ty.sub, q_cluster hc]
        · rw [no (by simp [z1])]
          have b1 : (z == ("live" : Str)) = false := beq_eq_false_iff_ne.mpr z1
          simp -implicitDefEqProofs [startD, Ty.sub, b1]
      | _ => rw [no (by simp)]; simp -implicitDefEqProofs [startD, Ty.sub]
    | a :: b :: c :: r, h =>
      have n0 : ¬ ((r.length : Int) + 1 + 1 + 1 = 2) := by omega
      rw [no (by simp)]; simp -implicitDefEqProofs [startD, Ty.sub, n0]
  | _ => rw [no (by simp)]; simp -implicitDefEqProofs [startD, Ty.sub]
theorem q_log (h : Cl x) : F_is_log [x] st = .ok (.bool (decide (isLog x))) st := by
  unfold F_is_log b_is_log
  rw [fnP_e]
  have form : F_is_log_form [x] st = .ok (.bool (decide (isLog x))) st := by
    have no : (∀ h r, x ≠ .tuple (h :: r)) → decide (isLog x) = false := fun n => decide_eq_false fun ⟨h, r, e, _⟩ => n h r e
    unfold F_is_log_form b_is_log_form
    rw [fnP_e]
    cases x with
    | dict k => exact h.nodict.elim
    | tuple ds =>
      match ds, h with
      | [], h => rw [no (by simp)]; simp -implicitDefEqProofs [startD, Ty.sub]
      | e :: r, h =>
        have he : Cl e := h.memT (by simp)
        have hr : ∀ d ∈ r, Cl d := fun d hd => h.memT (List.mem_cons_of_mem _ hd)
        have n0 : ¬ ((r.length : Int) + 1 = 0) := by omega
        have hz : r.length ≤ sizeLine := Nat.le_trans (Nat.le_succ _) h.len_t
        have cm : mLc (mIter (mSl (mVar 0) (moSome (mC (.int 1))) (moNone))) (.nm 1) (tYesM) (mCall F_is_live_event (msCons (mVar 1) (msNil))) [1] [some (.tuple (e :: r)), none] st = .ok (.list (r.map fun d => .bool (isEv d))) st := by
          refine mLc_all (keep := always) (ds := r) (fun d => .bool (isEv d)) (by simp [cut_tail]) trivial hz fun d hd => ⟨_, rfl, by simp [wipeD, q_event (hr d hd)]⟩
        have this : decide (isLog (.tuple (e :: r))) = (decide (isHead e) && r.all isEv) := by
          rw [decide_eq_decide.mpr log_cons, Bool.decide_and]
          congr 1
          cases k2 : r.all isEv with
          | true => exact decide_eq_true (List.all_eq_true.mp k2)
          | false =>
            refine decide_eq_false fun k => ?_
            rw [List.all_eq_true.mpr k] at k2; cases k2
        rw [this]
        by_cases k1 : isHead e
        · have d1 := decide_eq_true k1
          simp -implicitDefEqProofs [startD, Ty.sub, n0, q_head he, d1, cm, all_map]
        · have d1 := decide_eq_false k1
          simp -implicitDefEqProofs [startD, Ty.sub, n0, q_head he, d1]
    | _ => rw [no (by simp)]; simp -implicitDefEqProofs [startD, Ty.sub]
  simp -implicitDefEqProofs [startD, form]
theorem q_diary (h : Cl x) : F__law_is_diary [x] st = .ok (.bool (decide (isLog x))) st := by
  have no : (∀ h r, x ≠ .tuple (h :: r)) → decide (isLog x) = false := fun n => decide_eq_false fun ⟨h, r, e, _⟩ => n h r e
  unfold F__law_is_diary b__law_is_diary
  rw [fnP_e]
  cases x with
  | dict k => exact h.nodict.elim
  | tuple ds =>
    have e0 : dCmp .Eq (.tuple ds) (.tuple []) = some (.bool ds.isEmpty) := cmp_eq_nilT h.lay
    match ds, h, e0 with
    | [], h, e0 => rw [no (by simp)]; simp -implicitDefEqProofs [startD, Ty.sub, mkTup, e0]
    | e :: r, h, e0 =>
      have he : Cl e := h.memT (by simp)
      have hr : ∀ d ∈ r, Cl d := fun d hd => h.memT (List.mem_cons_of_mem _ hd)
      have hz : r.length ≤ sizeLine := Nat.le_trans (Nat.le_succ _) h.len_t
      have cm : mLc (mIter (mSl (mVar 0) (moSome (mC (.int 1))) (moNone))) (.nm 1) (mNotT (mTru (mCall F__law_is_event (msCons (mVar 1) (msNil))))) (mVar 1) [1] [some (.tuple (e :: r)), none] st = .ok (.list ((r.filter fun d => !isEv d).map id)) st := by
        refine mLc_map (keep := always) (ds := r) id (fun d => !isEv d) (by simp [cut_tail]) trivial hz fun d hd => ⟨_, rfl, ?_, fun _ => by simp [wipeD]⟩
        simp [wipeD, q_event' (hr d hd)]
      have e1 := cmp_ne_nilL (filt_lay (p := fun d => !isEv d) hr)
      rw [filt_none] at e1
      have this : decide (isLog (.tuple (e :: r))) = (decide (∀ d ∈ r, isEv d = true) && decide (isHead e)) := by
        rw [decide_eq_decide.mpr log_cons, Bool.decide_and, Bool.and_comm]
      rw [this]
      have nh : (∀ c, e ≠ .tuple [.str "live", c]) → decide (isHead e) = false := fun n => decide_eq_false fun ⟨c, q, _⟩ => n c q
      by_cases k1 : ∀ d ∈ r, isEv d = true
      · rw [decide_eq_true k1] at e1 ⊢
        cases e with
        | dict k => exact he.nodict.elim
        | tuple es =>
          match es, he with
          | [a, c], he =>
            have ha : Cl a := he.memT (by simp)
            have hc : Cl c := he.memT (by simp)
            have t2 : isTup 2 (.tuple [a, c]) = true := rfl
            cases a with
            | dict k => exact ha.nodict.elim
            | str z =>
              by_cases z1 : z = "live"
              · subst z1
                have this : decide (isHead (.tuple [.str "live", c])) = decide (isCl c) := decide_eq_decide.mpr head_live
                rw [this]
                simp -implicitDefEqProofs [startD, Ty.sub, mkTup, mkLst, e0, cm, e1, q_tuple2 he, t2, q_tome hc]
              · rw [nh (by simp [z1])]
                have b1 : (z == ("live" : Str)) = false := beq_eq_false_iff_ne.mpr z1
                simp -implicitDefEqProofs [startD, Ty.sub, mkTup, mkLst, e0, cm, e1, q_tuple2 he, t2, b1]
            | _ => rw [nh (by simp)]; simp -implicitDefEqProofs [startD, Ty.sub, mkTup, mkLst, e0, cm, e1, q_tuple2 he, t2]
          | [], he => rw [nh (by simp)]; simp -implicitDefEqProofs [startD, Ty.sub, mkTup, mkLst, e0, cm, e1, q_tuple2 he, isTup]
          | [a], he => rw [nh (by simp)]; simp -implicitDefEqProofs [startD, Ty.sub, mkTup, mkLst, e0, cm, e1, q_tuple2 he, isTup]
          | a :: b :: c :: r', he => rw [nh (by simp)]; simp -implicitDefEqProofs [startD, Ty.sub, mkTup, mkLst, e0, cm, e1, q_tuple2 he, isTup]
        | _ => rw [nh (by simp)]; simp -implicitDefEqProofs [startD, Ty.sub, mkTup, mkLst, e0, cm, e1, q_tuple2 he, isTup]
      · rw [decide_eq_false k1] at e1 ⊢
        simp -implicitDefEqProofs [startD, Ty.sub, mkTup, mkLst, e0, cm, e1]
  | _ => rw [no (by simp)]; simp -implicitDefEqProofs [startD, Ty.sub]
end
end Gstampahead_k75_logs_told
set_option Elab.async false
set_option linter.all false
set_option maxRecDepth 100000
set_option maxHeartbeats 4000000
namespace Gstampahead_k75_logs_told
open PySem PySem.Spec L2 Pv
open PyProof.Rows hiding St signs cutD
def pools : List Pv.D := [.list [.str "amy", .str "bob", .str "cid", .str "dan"], .list [.str "a", .str "ab", .str "abc", .str "b"], .list [.str "clock", .str "cut", .str "road", .str "tell"], .list [.str "host", .str "live", .str "most", .str "zzzzzzzz"]]
def offsP : List Pv.D := [.list [.int 0, .int 0, .int 1, .int 2], .list [.int 0, .int 1, .int 2, .int 3], .list [.int 0, .int 1, .int 7, .int 60]]
/-- short names -/
def Nm (t : Pv.D) : Prop := ∃ z, t = .str z ∧ (PyData.str z).canLay0 = true ∧ z.length ≤ 8
section
variable {cs : List Pv.D} {sp lf dr : Int}
theorem pools_ok {x : Pv.D} (h : x ∈ pools) : ∃ ts, x = .list ts ∧ (∀ t ∈ ts, Nm t) ∧ ts.length = 4 := by
  unfold pools at h
  simp only [List.mem_cons, List.not_mem_nil, or_false] at h
  rcases h with h | h | h | h <;> (subst h; refine ⟨_, rfl, ?_, rfl⟩; intro t ht; simp only [List.mem_cons, List.not_mem_nil, or_false] at ht; rcases ht with ht | ht | ht | ht <;> (subst ht; exact ⟨_, rfl, by decide +kernel, by decide +kernel⟩))
theorem offs_ok {x : Pv.D} (h : x ∈ offsP) : ∃ ts, x = .list ts ∧ (∀ t ∈ ts, Bd t 64 0 60) ∧ ts.length = 4 := by
  unfold offsP at h
  simp only [List.mem_cons, List.not_mem_nil, or_false] at h
  rcases h with h | h | h <;> (subst h; refine ⟨_, rfl, ?_, rfl⟩; intro t ht; simp only [List.mem_cons, List.not_mem_nil, or_false] at ht; rcases ht with ht | ht | ht | ht <;> (subst ht; exact Bd.int (by decide) (by decide)))
theorem cut_some {xs : List Pv.D} {lo hi : Option Int} : (∀ t ∈ Pv.cutD xs lo hi, t ∈ xs) ∧ (Pv.cutD xs lo hi).length ≤ xs.length := by
  unfold Pv.cutD
  refine ⟨fun t ht => List.mem_of_mem_drop (List.mem_of_mem_take ht), ?_⟩
  rw [List.length_take, List.length_drop]; omega
def sl0 (ts os : List Pv.D) (t : Option Pv.D) : Sl := [some (Rf 0), some (.list [.list [.str "amy", .str "bob", .str "cid", .str "dan"], .list [.str "a", .str "ab", .str "abc", .str "b"], .list [.str "clock", .str "cut", .str "road", .str "tell"]]), some (.list ts), some (.list os), some (Rf 1), some (Rf 2), t, none, none, none]
theorem Nm.bd {t : Pv.D} {k b : Nat} (h : Nm t) : Bd t 84 k b := by obtain ⟨z, e, l, hz⟩ := h; subst e; exact Bd.str l (by omega)
theorem app_1 {a : MO} {fs : List Pv.D} {d : Pv.D} {st : Sto} (h : fs.length < sizeLine) : fApp (Rf 1) d (a :: .lst fs :: st) = .ok .none (a :: .lst (fs ++ [d]) :: st) := by
  show (if fs.length < sizeLine then R.ok PyData.none _ else .bad) = _
  rw [if_pos h]; rfl
theorem app_2 {a b : MO} {fs : List Pv.D} {d : Pv.D} {st : Sto} (h : fs.length < sizeLine) : fApp (Rf 2) d (a :: b :: .lst fs :: st) = .ok .none (a :: b :: .lst (fs ++ [d]) :: st) := by
  show (if fs.length < sizeLine then R.ok PyData.none _ else .bad) = _
  rw [if_pos h]; rfl
@[simp] theorem isL1 {a : MO} {fs : List Pv.D} {st : Sto} : isLst (a :: .lst fs :: st) (Rf 1) = true := rfl
@[simp] theorem isL2 {a b : MO} {fs : List Pv.D} {st : Sto} : isLst (a :: b :: .lst fs :: st) (Rf 2) = true := rfl
theorem bdl_len {ds : List Pv.D} {n k b : Nat} (h : BdL ds n k b) (hn : n ≤ 1000000) : ds.length < sizeLine := by
  have := h.wt; have := wt_len ds; rw [sizeLine_eq]; omega
def I1 (cs ts os : List Pv.D) (k : Nat) (sl : Sl) (st : Sto) : Prop := sl = sl0 ts os none ∧ ∃ sp lf dr fs, st = [fd cs sp lf dr, .lst fs, .lst []] ∧ BdL fs (k * 400) 1 60
theorem loop1 {ts os : List Pv.D} (hcs : IntsD cs) (hl : cs.length ≤ 63) (hts : ∀ t ∈ ts, Nm t) (htl : ts.length ≤ 4) (ho : ∀ t ∈ os, Bd t 64 0 60) (hno : os.length = 4) :
    ∃ sl' st', forL always (tgName 6) l0__law_any_tome [6, 7] ts (sl0 ts os none) [fd cs sp lf dr, .lst [], .lst []] = .nx sl' st' ∧ I1 cs ts os (0 + ts.length) sl' st' := by
  refine forL_inv (I1 cs ts os) 4 (fun _ => trivial) (by omega) ⟨rfl, sp, lf, dr, [], rfl, BdL.nil⟩ ?_
  rintro d k sl st hd hk ⟨e1, sp, lf, dr, fs, e2, hb⟩
  subst e1; subst e2
  have hne : os ≠ [] := fun z => by rw [z] at hno; cases hno
  obtain ⟨x1, sp1, lf1, dr1, q1, m1⟩ := q_any (sp := sp) (lf := lf) (dr := dr) (st := [.lst fs, .lst []]) hcs hl hne (by omega)
  obtain ⟨x2, sp2, lf2, dr2, q2, m2⟩ := q_any (sp := sp1) (lf := lf1) (dr := dr1) (st := [.lst fs, .lst []]) hcs hl hne (by omega)
  obtain ⟨r3, sp3, lf3, dr3, q3, b3, c3⟩ := q_draw (sp := sp2) (lf := lf2) (dr := dr2) (st := [.lst fs, .lst []]) (m := 4) hcs hl (by decide) (by decide)
  have hlen := bdl_len hb (by omega)
  refine ⟨((sl0 ts os none).set 6 (some d)).set 7 (some (.tuple [x1, x2])), [fd cs sp3 lf3 dr3, .lst (fs ++ [.tuple [d, x1, x2, .int (1 + r3)]]), .lst []], ?_, rfl, sp3, lf3, dr3, fs ++ [.tuple [d, x1, x2, .int (1 + r3)]], rfl, ?_⟩
  rotate_left
  · have one : BdL [PyData.tuple [d, x1, x2, .int (1 + r3)]] 400 1 60 := by
      have t := (BdL.cons ((hts d hd).bd (k := 0) (b := 60)) (BdL.cons (ho x1 m1) (BdL.cons (ho x2 m2) (BdL.cons (Bd.int (i := 1 + r3) (b := 60) (k := 0) (by omega) (by decide)) BdL.nil))))
      exact (BdL.cons (Bd.tup t) BdL.nil).mono (by omega) (Nat.le_refl _) (Nat.le_refl _)
    exact (hb.append one).mono (by omega) (Nat.le_refl _) (Nat.le_refl _)
  · unfold l0__law_any_tome sl0
    simp -implicitDefEqProofs [q1, q2, q3, mkTup, sizeLine_eq, dAddT, app_1 hlen]
/-- the second loop: n roads may be made a title -/
def I2 (cs ts os fs : List Pv.D) (t : Option Pv.D) (n k : Nat) (sl : Sl) (st : Sto) : Prop := sl = sl0 ts os t ∧ ∃ sp lf dr ws, st = [fd cs sp lf dr, .lst fs, .lst ws] ∧ BdL ws (n + k * 400) 1 60
theorem loop2 {ts os fs ws : List Pv.D} {d : Pv.D} {n : Nat} (hcs : IntsD cs) (hl : cs.length ≤ 63) (hts : ∀ t ∈ ts, Nm t) (htl : ts.length ≤ 4) (hd : Nm d) (hn : n ≤ 100000) (hw : BdL ws n 1 60) :
    ∃ sl' st', l2__law_any_tome (sl0 ts os (some d)) [fd cs sp lf dr, .lst fs, .lst ws] = .nx sl' st' ∧ I2 cs ts os fs (some d) n (0 + ts.length) sl' st' := by
  have L : ∃ sl' st', forL always (tgName 8) l1__law_any_tome [8] ts (sl0 ts os (some d)) [fd cs sp lf dr, .lst fs, .lst ws] = .nx sl' st' ∧ I2 cs ts os fs (some d) n (0 + ts.length) sl' st' := by
    refine forL_inv (I2 cs ts os fs (some d) n) 4 (fun _ => trivial) (by omega) ⟨rfl, sp, lf, dr, ws, rfl, by simpa using hw⟩ ?_
    rintro far k sl st hfar hk ⟨e1, sp, lf, dr, ws, e2, hb⟩
    subst e1; subst e2
    obtain ⟨z1, ez1, lz1, _⟩ := hd
    obtain ⟨z2, ez2, lz2, _⟩ := hts far hfar
    obtain ⟨r1, sp1, lf1, dr1, q1, b1, c1⟩ := q_draw (sp := sp) (lf := lf) (dr := dr) (st := [.lst fs, .lst ws]) (m := 3) hcs hl (by decide) (by decide)
    obtain ⟨x2, sp2, lf2, dr2, q2, m2⟩ := q_any (sp := sp1) (lf := lf1) (dr := dr1) (st := [.lst fs, .lst ws]) (xs := [.int 0, .int 0, .int 0, .int 1, .int 2, .int 60]) hcs hl (by simp) (by simp)
    have hlen := bdl_len hb (by omega)
    have more : BdL ws (n + (k + 1) * 400) 1 60 := hb.mono (by omega) (Nat.le_refl _) (Nat.le_refl _)
    have ne : ((if z2 == z1 then false else true) = !(z2 == z1)) := by cases (z2 == z1) <;> rfl
    by_cases hz : z2 = z1
    · refine ⟨(sl0 ts os (some d)).set 8 (some far), [fd cs sp lf dr, .lst fs, .lst ws], ?_, rfl, sp, lf, dr, ws, rfl, more⟩
      unfold l1__law_any_tome sl0
      simp -implicitDefEqProofs [ez1, ez2, hz]
    · have bz : (z2 == z1) = false := beq_eq_false_iff_ne.mpr hz
      by_cases hr : 0 < r1
      · refine ⟨(sl0 ts os (some d)).set 8 (some far), [fd cs sp2 lf2 dr2, .lst fs, .lst (ws ++ [.tuple [d, far, x2]])], ?_, rfl, sp2, lf2, dr2, ws ++ [.tuple [d, far, x2]], rfl, ?_⟩
        · unfold l1__law_any_tome sl0
          subst ez1; subst ez2
          simp -implicitDefEqProofs [bz, q1, q2, hr, mkTup, mkLst, sizeLine_eq, app_2 hlen]
        · have bx : Bd x2 64 0 60 := by
            simp only [List.mem_cons, List.not_mem_nil, or_false] at m2
            rcases m2 with e | e | e | e | e | e <;> (subst e; exact Bd.int (by decide) (by decide))
          have t := BdL.cons ((show Nm d from ⟨z1, ez1, lz1, by assumption⟩).bd (k := 0) (b := 60)) (BdL.cons ((hts far hfar).bd (k := 0) (b := 60)) (BdL.cons bx BdL.nil))
          exact (hb.append (BdL.cons (Bd.tup t) BdL.nil)).mono (by omega) (Nat.le_refl _) (Nat.le_refl _)
      · refine ⟨(sl0 ts os (some d)).set 8 (some far), [fd cs sp1 lf1 dr1, .lst fs, .lst ws], ?_, rfl, sp1, lf1, dr1, ws, rfl, more⟩
        unfold l1__law_any_tome sl0
        subst ez1; subst ez2
        simp -implicitDefEqProofs [bz, q1, hr]
  obtain ⟨sl', st', e, i⟩ := L
  refine ⟨sl', st', ?_, i⟩
  rw [← e]
  unfold l2__law_any_tome sl0
  simp -implicitDefEqProofs [wipeD]
def I3 (cs ts os fs : List Pv.D) (k : Nat) (sl : Sl) (st : Sto) : Prop := sl = sl0 ts os none ∧ ∃ sp lf dr ws, st = [fd cs sp lf dr, .lst fs, .lst ws] ∧ BdL ws (k * 1600) 1 60
theorem loop3 {ts os fs : List Pv.D} (hcs : IntsD cs) (hl : cs.length ≤ 63) (hts : ∀ t ∈ ts, Nm t) (htl : ts.length ≤ 4) :
    ∃ sl' st', forL always (tgName 6) l2__law_any_tome [6, 8] ts (sl0 ts os none) [fd cs sp lf dr, .lst fs, .lst []] = .nx sl' st' ∧ I3 cs ts os fs (0 + ts.length) sl' st' := by
  refine forL_inv (I3 cs ts os fs) 4 (fun _ => trivial) (by omega) ⟨rfl, sp, lf, dr, [], rfl, BdL.nil⟩ ?_
  rintro d k sl st hd hk ⟨e1, sp, lf, dr, ws, e2, hb⟩
  subst e1; subst e2
  obtain ⟨sl', st', e, ⟨i1, sp1, lf1, dr1, ws1, i2, hb1⟩⟩ := loop2 (sp := sp) (lf := lf) (dr := dr) (os := os) (fs := fs) hcs hl hts htl (hts d hd) (by omega) hb
  subst i1; subst i2
  exact ⟨_, _, e, rfl, sp1, lf1, dr1, ws1, rfl, hb1.mono (by omega) (Nat.le_refl _) (Nat.le_refl _)⟩
@[simp] theorem ftup1 {a : MO} {fs : List Pv.D} {st : Sto} : fTuple (Rf 1) (a :: .lst fs :: st) = .ok (.tuple fs) (a :: .lst fs :: st) := rfl
@[simp] theorem ftup2 {a b : MO} {fs : List Pv.D} {st : Sto} : fTuple (Rf 2) (a :: b :: .lst fs :: st) = .ok (.tuple fs) (a :: b :: .lst fs :: st) := rfl
theorem tome_made (hcs : IntsD cs) (hl : cs.length ≤ 63) : ∃ y sp' lf' dr', F__law_any_tome [Rf 0] [fd cs sp lf dr] = .ok y [fd cs sp' lf' dr'] ∧ Bd y 20000 3 2000 := by
  unfold F__law_any_tome b__law_any_tome
  obtain ⟨x1, sp1, lf1, dr1, e1, m1⟩ := q_any (sp := sp) (lf := lf) (dr := dr) (st := []) (xs := pools) hcs hl (by simp [pools]) (by simp [pools])
  obtain ⟨ts0, et, ht0, hn0⟩ := pools_ok m1
  subst et
  obtain ⟨r2, sp2, lf2, dr2, e2, b2, c2⟩ := q_draw (sp := sp1) (lf := lf1) (dr := dr1) (st := []) (m := 4) hcs hl (by decide) (by decide)
  obtain ⟨x3, sp3, lf3, dr3, e3, m3⟩ := q_any (sp := sp2) (lf := lf2) (dr := dr2) (st := []) (xs := offsP) hcs hl (by simp [offsP]) (by simp [offsP])
  obtain ⟨os, eo, ho, hno⟩ := offs_ok m3
  subst eo
  obtain ⟨hts, htl⟩ := cut_some (xs := ts0) (lo := none) (hi := some (1 + r2))
  have es : fSl none (some (1 + r2)) (.list ts0) [fd cs sp2 lf2 dr2] = .ok (.list (Pv.cutD ts0 none (some (1 + r2)))) [fd cs sp2 lf2 dr2] := rfl
  generalize Pv.cutD ts0 none (some (1 + r2)) = ts at hts htl es
  rw [fnP_e]
  unfold pools at e1
  unfold offsP at e3
  have hts' : ∀ t ∈ ts, Nm t := fun t ht => ht0 t (hts t ht)
  have htl' : ts.length ≤ 4 := by omega
  obtain ⟨slA, stA, r4, iA, sp4, lf4, dr4, fs, iB, hfs⟩ := loop1 (sp := sp3) (lf := lf3) (dr := dr3) hcs hl hts' htl' ho hno
  subst iA; subst iB
  obtain ⟨slA, stA, r5, iA, sp5, lf5, dr5, ws, iB, hws⟩ := loop3 (sp := sp4) (lf := lf4) (dr := dr4) (os := os) (fs := fs) hcs hl hts' htl'
  subst iA; subst iB
  obtain ⟨x6, sp6, lf6, dr6, e6, m6⟩ := q_any (sp := sp5) (lf := lf5) (dr := dr5) (st := [.lst fs, .lst ws]) (xs := [.none, .int 0, .int 1, .int 1, .int 2, .int 4, .int 2000]) hcs hl (by simp) (by simp)
  obtain ⟨x7, sp7, lf7, dr7, e7, m7⟩ := q_any (sp := sp6) (lf := lf6) (dr := dr6) (st := [.lst fs, .lst ws]) (xs := [.str "more", .str "wait"]) hcs hl (by simp) (by simp)
  have b6 : Bd x6 64 2 2000 := by
    simp only [List.mem_cons, List.not_mem_nil, or_false] at m6
    rcases m6 with e | e | e | e | e | e | e <;> subst e
    · exact ⟨rfl, by decide, by decide, by decide⟩
    all_goals exact Bd.int (by decide) (by decide)
  have b7 : Bd x7 64 2 2000 := by
    simp only [List.mem_cons, List.not_mem_nil, or_false] at m7
    rcases m7 with e | e <;> (subst e; exact Bd.str (by decide +kernel) (by decide +kernel))
  have bw : Bd (.str "wait") 64 2 2000 := Bd.str (by decide +kernel) (by decide +kernel)
  have bf : Bd (.tuple fs) 2000 2 2000 := (Bd.tup hfs).mono (by omega) (by omega) (by omega)
  have bws : Bd (.tuple ws) 10000 2 2000 := (Bd.tup hws).mono (by omega) (by omega) (by omega)
  have all : ∀ r, Bd r 64 2 2000 → Bd (.tuple [.tuple fs, .tuple ws, x6, r]) 20000 3 2000 := fun r hr =>
    (Bd.tup (BdL.cons bf (BdL.cons bws (BdL.cons b6 (BdL.cons hr BdL.nil))))).mono (by omega) (by omega) (by omega)
  unfold sl0 at r4 r5
  cases qn : isNone x6 with
  | true =>
    refine ⟨_, sp6, lf6, dr6, ?_, all _ bw⟩
    rw [← fin_fd (sp := sp6) (lf := lf6) (dr := dr6) (more := [.lst fs, .lst ws]) hcs (all _ bw).lay]
    simp -implicitDefEqProofs [startD, mkLst, mkLstM, sizeLine_eq, add_ll, dAdd, e1, e2, e3, es, set3, wipeD, r4, r5, e6, qn, mkTup]
  | false =>
    refine ⟨_, sp7, lf7, dr7, ?_, all _ b7⟩
    rw [← fin_fd (sp := sp7) (lf := lf7) (dr := dr7) (more := [.lst fs, .lst ws]) hcs (all _ b7).lay]
    simp -implicitDefEqProofs [startD, mkLst, mkLstM, sizeLine_eq, add_ll, dAdd, e1, e2, e3, es, set3, wipeD, r4, r5, e6, e7, qn, mkTup]
end
end Gstampahead_k75_logs_told
set_option Elab.async false
set_option linter.all false
set_option maxRecDepth 100000
set_option maxHeartbeats 4000000
namespace Gstampahead_k75_logs_told
open PySem PySem.Spec L2 Pv
open PyProof.Rows hiding St signs cutD
noncomputable def bentA (self_ : Fn) : MS := sIf (mAndT (mTru (mIsi .tuple (mVar 1))) (mAndT (mTb (mCmp .NotEq (mVar 1) (mTup (msNil)))) (mTb (mCmp .Gt (mCall F__law_draw (msCons (mVar 0) (msCons (mC (.int 7)) (msNil)))) (mC (.int 0)))))) (sSeq (sAsg (mCall F__law_draw (msCons (mVar 0) (msCons (mLen (mVar 1)) (msNil)))) (tgName 2)) (sRet (mAdd (mAdd (mSl (mVar 1) (moNone) (moSome (mVar 2))) (mTup (msCons (mCall self_ (msCons (mVar 0) (msCons (mIx (mVar 1) (mVar 2)) (msNil)))) (msNil)))) (mSl (mVar 1) (moSome (mAdd (mVar 2) (mC (.int 1)))) (moNone))))) (sNil)
noncomputable def bentB : MS := sSeq (sAsg (mLst (msCons (mC .none) (msCons (mC (.bool true)) (msCons (mC (.int 0)) (msCons (mC (.int 1)) (msCons (mC (.int 2)) (msCons (mNeg (mC (.int 1))) (msCons (mC (.str "")) (msCons (mC (.str "a")) (msCons (mC (.str "b")) (msCons (mC (.str "amy")) (msCons (mC (.str "bob")) (msCons (mC (.str "more")) (msCons (mC (.str "wait")) (msCons (mTup (msNil)) (msCons (mLst (msNil)) (msCons (mTup (msCons (mC (.str "a")) (msNil))) (msNil)))))))))))))))))) (tgName 3)) (sSeq (sAsg (mAdd (mVar 3) (mLst (msCons (mPow (mC (.int 10)) (mC (.int 59))) (msCons (mC (.str "A")) (msCons (mC (.str "0")) (msNil)))))) (tgName 3)) (sSeq (sAsg (mAdd (mVar 3) (mLst (msCons (mTup (msCons (mC (.str "cut")) (msCons (mC (.str "a")) (msCons (mC (.str "b")) (msNil))))) (msCons (mTup (msCons (mC (.str "a")) (msCons (mC (.int 0)) (msCons (mC (.int 0)) (msCons (mC (.int 1)) (msNil)))))) (msCons (mTup (msCons (mC (.str "a")) (msCons (mC (.str "b")) (msCons (mC (.int 0)) (msNil))))) (msCons (mTup (msCons (mC (.str "tell")) (msCons (mC (.str "a")) (msCons (mC (.int 0)) (msCons (mNeg (mC (.int 1))) (msCons (mC .none) (msNil))))))) (msNil))))))) (tgName 3)) (sSeq (sAsg (mAdd (mVar 3) (mLst (msCons (mC (.str "zzzzzzzz")) (msCons (mC (.bool false)) (msNil))))) (tgName 3)) (sSeq (sPar2 4 5 (msCons (mCall F__law_draw (msCons (mVar 0) (msCons (mC (.int 8)) (msNil)))) (msCons (mCall F__law_any (msCons (mVar 0) (msCons (mVar 3) (msNil)))) (msNil)))) (sSeq (sIf (mAndT (mTru (mIsi .tuple (mVar 1))) (mTb (mCmp .Lt (mVar 4) (mC (.int 6))))) (sSeq (sAsg (mCall F__law_draw (msCons (mVar 0) (msCons (mAdd (mLen (mVar 1)) (mC (.int 1))) (msNil)))) (tgName 2)) (sSeq (sIf (mTb (mCmp .Eq (mVar 4) (mC (.int 0)))) (sRet (mList (mVar 1))) (sNil)) (sSeq (sIf (mTb (mCmp .Eq (mVar 4) (mC (.int 1)))) (sRet (mAdd (mSl (mVar 1) (moNone) (moSome (mVar 2))) (mSl (mVar 1) (moSome (mAdd (mVar 2) (mC (.int 1)))) (moNone)))) (sNil)) (sSeq (sIf (mTb (mCmp .Eq (mVar 4) (mC (.int 2)))) (sRet (mAdd (mAdd (mSl (mVar 1) (moNone) (moSome (mVar 2))) (mSl (mVar 1) (moSome (mVar 2)) (moSome (mAdd (mVar 2) (mC (.int 1)))))) (mSl (mVar 1) (moSome (mVar 2)) (moNone)))) (sNil)) (sRet (mIf (mTb (mCmp .Lt (mVar 4) (mC (.int 5)))) (mAdd (mAdd (mSl (mVar 1) (moNone) (moSome (mVar 2))) (mTup (msCons (mVar 5) (msNil)))) (mSl (mVar 1) (moSome (mVar 2)) (moNone))) (mRev (mVar 1)))))))) (sNil)) (sSeq (sIf (mAndT (mTru (mIsi .str (mVar 1))) (mTb (mCmp .Lt (mVar 4) (mC (.int 3))))) (sRet (mAdd (mVar 1) (mCall F__law_any (msCons (mVar 0) (msCons (mLst (msCons (mC (.str "a")) (msCons (mC (.str "A")) (msCons (mC (.str " ")) (msCons (mC (.str "0")) (msCons (mC (.str "zzzzzzzz")) (msNil))))))) (msNil)))))) (sNil)) (sSeq (sIf (mAndT (mTru (mIsi .int (mVar 1))) (mTb (mCmp .Lt (mVar 4) (mC (.int 4))))) (sRet (mAdd (mVar 1) (mCall F__law_any (msCons (mVar 0) (msCons (mLst (msCons (mC (.int 1)) (msCons (mNeg (mC (.int 1))) (msCons (mNeg (mC (.int 1))) (msNil))))) (msNil)))))) (sNil)) (sRet (mVar 5)))))))))
theorem bent_eq (self_ : Fn) : b__law_bent self_ = sSeq (bentA self_) bentB := rfl
def big : Int := 100000000000000000000000000000000000000000000000000000000000
def oddP : List Pv.D := [.none, .bool true, .int 0, .int 1, .int 2, .int (-1), .str "", .str "a", .str "b", .str "amy", .str "bob", .str "more", .str "wait", .tuple [], .list [], .tuple [.str "a"],
  .int 100000000000000000000000000000000000000000000000000000000000, .str "A", .str "0",
  .tuple [.str "cut", .str "a", .str "b"], .tuple [.str "a", .int 0, .int 0, .int 1], .tuple [.str "a", .str "b", .int 0], .tuple [.str "tell", .str "a", .int 0, .int (-1), .none], .str "zzzzzzzz", .bool false]
theorem odd_ok {x : Pv.D} (h : x ∈ oddP) : Bd x 600 1 (10 ^ 59) := by
  have key : ∀ x ∈ oddP, x.canLay0 = true ∧ wt x ≤ 600 ∧ x.depth ≤ 1 ∧ mx x ≤ 10 ^ 59 := by decide +kernel
  obtain ⟨a, b, c, d⟩ := key x h
  exact ⟨a, b, c, d⟩
section
variable {cs : List Pv.D} {sp lf dr : Int} {x : Pv.D} {k b : Nat}
theorem cut_to {ds : List Pv.D} {j : Nat} : Pv.cutD ds none (some (j : Int)) = ds.take j := by
  unfold Pv.cutD
  rw [HT.sIx_none, HT.sIx_nat, List.drop_zero, Nat.sub_zero]
  by_cases h : j ≤ ds.length
  · rw [Nat.min_eq_left h]
  · rw [Nat.min_eq_right (by omega), List.take_length, List.take_of_length_le (by omega)]
theorem cut_from {ds : List Pv.D} {j : Nat} : Pv.cutD ds (some (j : Int)) none = ds.drop j := by
  unfold Pv.cutD
  rw [HT.sIx_none, HT.sIx_nat]
  by_cases h : j ≤ ds.length
  · rw [Nat.min_eq_left h, List.take_of_length_le (by rw [List.length_drop]; omega)]
  · rw [Nat.min_eq_right (by omega), Nat.sub_self, List.take_zero, List.drop_of_length_le (by omega)]
theorem cut_mid {ds : List Pv.D} {i j : Nat} (h : i ≤ ds.length) : Pv.cutD ds (some (i : Int)) (some (j : Int)) = (ds.drop i).take (j - i) := by
  unfold Pv.cutD
  rw [HT.sIx_nat, HT.sIx_nat, Nat.min_eq_left h]
  by_cases h2 : j ≤ ds.length
  · rw [Nat.min_eq_left h2]
  · rw [Nat.min_eq_right (by omega), List.take_of_length_le (by rw [List.length_drop]; omega), List.take_of_length_le (by rw [List.length_drop]; omega)]
theorem sl_to {ds : List Pv.D} {j : Nat} {st : Sto} : fSl none (some (j : Int)) (.tuple ds) st = .ok (.tuple (ds.take j)) st := by
  show R.ok (PyData.tuple (Pv.cutD ds none (some (j : Int)))) st = _
  rw [cut_to]
theorem sl_from {ds : List Pv.D} {j : Nat} {st : Sto} : fSl (some (j : Int)) none (.tuple ds) st = .ok (.tuple (ds.drop j)) st := by
  show R.ok (PyData.tuple (Pv.cutD ds (some (j : Int)) none)) st = _
  rw [cut_from]
theorem sl_from1 {ds : List Pv.D} {j : Nat} {st : Sto} : fSl (some ((j : Int) + 1)) none (.tuple ds) st = .ok (.tuple (ds.drop (j + 1))) st := sl_from (j := j + 1)
theorem sl_mid1 {ds : List Pv.D} {j : Nat} {st : Sto} (h : j ≤ ds.length) : fSl (some (j : Int)) (some ((j : Int) + 1)) (.tuple ds) st = .ok (.tuple ((ds.drop j).take 1)) st := by
  show R.ok (PyData.tuple (Pv.cutD ds (some (j : Int)) (some ((j + 1 : Nat) : Int)))) st = _
  rw [cut_mid h, show j + 1 - j = 1 by omega]
theorem add_tup {xs ys : List Pv.D} {st : Sto} (h : xs.length + ys.length ≤ sizeLine) : lift (dAddT xs ys) st = .ok (.tuple (xs ++ ys)) st := by
  unfold dAddT; rw [if_pos h]; rfl
/-- what comes out -/
def Out (x y : Pv.D) (k b : Nat) : Prop := Bd y (2 * wt x + 4000) (k + 3) (max (b + 1) (10 ^ 59))
theorem bentB_made {a2 : Option Pv.D} (hcs : IntsD cs) (hl : cs.length ≤ 63) (hx : Bd x (2 ^ 22) k b) (hb : b < 10 ^ 61) :
    ∃ y sp' lf' dr', endR (bentB [some (Rf 0), some x, a2, none, none, none] [fd cs sp lf dr]) = .ok y [fd cs sp' lf' dr'] ∧ Out x y k b := by
  have hm1 : (10 : Nat) ^ 59 ≤ max (b + 1) (10 ^ 59) := Nat.le_max_right _ _
  have hm2 : b ≤ max (b + 1) (10 ^ 59) := Nat.le_trans (Nat.le_succ b) (Nat.le_max_left _ _)
  obtain ⟨lot, sp1, lf1, dr1, e1, b1, c1⟩ := q_draw (sp := sp) (lf := lf) (dr := dr) (st := []) (m := 8) hcs hl (by decide) (by decide)
  obtain ⟨odd, sp2, lf2, dr2, e2, m2⟩ := q_any (sp := sp1) (lf := lf1) (dr := dr1) (st := []) (xs := oddP) hcs hl (by simp [oddP]) (by simp [oddP])
  have ho := odd_ok m2
  have hodd : Out x odd k b := ho.mono (by omega) (by omega) hm1
  unfold oddP at e2
  cases x with
  | dict _ => exact hx.ok.nodict.elim
  | none =>
    refine ⟨odd, sp2, lf2, dr2, ?_, hodd⟩
    unfold bentB
    simp -implicitDefEqProofs [mkLst, mkTup, sizeLine_eq, add_ll, dAdd, dNeg, dInt2, e1, e2, set2, Ty.sub]
  | tuple ds =>
    by_cases h6 : lot < 6
    · have dep : PyData.depthAll ds + 1 ≤ k := hx.dp
      obtain ⟨kk, ek⟩ : ∃ kk, k = kk + 1 := ⟨k - 1, by omega⟩
      subst ek
      have hw : wtL ds + 4 ≤ 2 ^ 22 := by have := hx.wt; unfold Pv.wt at this; exact this
      have hlen := wt_len ds
      have hds : BdL ds (wtL ds) kk b := ⟨hx.lay, Nat.le_refl _, by omega, hx.mx⟩
      have ew : wt (.tuple ds) = wtL ds + 4 := by unfold Pv.wt; rfl
      obtain ⟨r, sp3, lf3, dr3, e3, b3, c3⟩ := q_draw (sp := sp2) (lf := lf2) (dr := dr2) (st := []) (m := (ds.length : Int) + 1) hcs hl (by omega) (by omega)
      obtain ⟨j, ej⟩ : ∃ j : Nat, r = (j : Int) := ⟨_, (Int.toNat_of_nonneg b3).symm⟩
      subst ej
      have hj : j ≤ ds.length := by omega
      have out : ∀ L : List Pv.D, BdL L (2 * wtL ds + 4000) (kk + 2) (max (b + 1) (10 ^ 59)) → Out (.tuple ds) (.tuple L) (kk + 1) b := fun L h => by
        unfold Out; rw [ew]; exact (Bd.tup h).mono (by omega) (by omega) (Nat.le_refl _)
      have lt : (ds.take j).length ≤ ds.length := by rw [List.length_take]; omega
      have ld : ∀ i, (ds.drop i).length ≤ ds.length := fun i => by rw [List.length_drop]; omega
      have tot : wtL (ds.take j) + wtL (ds.drop j) = wtL ds := by rw [← wtL_append, List.take_append_drop]
      by_cases q0 : lot = 0
      · refine ⟨.list ds, sp3, lf3, dr3, ?_, (Bd.lst hds).mono (by omega) (by omega) hm2⟩
        unfold bentB
        simp -implicitDefEqProofs [mkLst, mkTup, sizeLine_eq, add_ll, dAdd, dNeg, dInt2, e1, e2, set2, Ty.sub, h6, e3, q0, dList]
      · by_cases q1 : lot = 1
        · have a1 : ∀ st, lift (dAddT (ds.take j) (ds.drop (j + 1))) st = .ok (.tuple (ds.take j ++ ds.drop (j + 1))) st := fun st => add_tup (by have := ld (j + 1); rw [sizeLine_eq]; omega)
          refine ⟨.tuple (ds.take j ++ ds.drop (j + 1)), sp3, lf3, dr3, ?_, out _ (((hds.take j).append (hds.drop (j + 1))).mono (by omega) (by omega) hm2)⟩
          unfold bentB
          simp -implicitDefEqProofs [mkLst, mkTup, sizeLine_eq, add_ll, dAdd, dNeg, dInt2, e1, e2, set2, Ty.sub, h6, e3, q1, sl_to, sl_from1, a1]
        · by_cases q2 : lot = 2
          · have a1 : ∀ st, lift (dAddT (ds.take j) ((ds.drop j).take 1)) st = .ok (.tuple (ds.take j ++ (ds.drop j).take 1)) st := fun st => add_tup (by have lm : ((ds.drop j).take 1).length ≤ 1 := by { rw [List.length_take]; omega }; rw [sizeLine_eq]; omega)
            have a2' : ∀ st, lift (dAddT (ds.take j ++ (ds.drop j).take 1) (ds.drop j)) st = .ok (.tuple (ds.take j ++ (ds.drop j).take 1 ++ ds.drop j)) st := fun st => add_tup (by have := ld j; have lm : ((ds.drop j).take 1).length ≤ 1 := by { rw [List.length_take]; omega }; rw [List.length_append, sizeLine_eq]; omega)
            have e0 : BdL (ds.take j) (wtL (ds.take j)) kk b := ⟨(hds.take j).lay, Nat.le_refl _, (hds.take j).dp, (hds.take j).mx⟩
            have em : BdL ((ds.drop j).take 1) (wtL (ds.drop j)) kk b := ⟨((hds.drop j).take 1).lay, wtL_take 1 _, ((hds.drop j).take 1).dp, ((hds.drop j).take 1).mx⟩
            have e9 : BdL (ds.drop j) (wtL (ds.drop j)) kk b := ⟨(hds.drop j).lay, Nat.le_refl _, (hds.drop j).dp, (hds.drop j).mx⟩
            refine ⟨.tuple (ds.take j ++ (ds.drop j).take 1 ++ ds.drop j), sp3, lf3, dr3, ?_, out _ (((e0.append em).append e9).mono (by omega) (by omega) hm2)⟩
            unfold bentB
            simp -implicitDefEqProofs [mkLst, mkTup, sizeLine_eq, add_ll, dAdd, dNeg, dInt2, e1, e2, set2, Ty.sub, h6, e3, q2, sl_to, sl_from, sl_mid1 hj, a1, a2']
          · by_cases q5 : lot < 5
            · have a1 : ∀ st, lift (dAddT (ds.take j) [odd]) st = .ok (.tuple (ds.take j ++ [odd])) st := fun st => add_tup (by rw [List.length_singleton, sizeLine_eq]; omega)
              have a2' : ∀ st, lift (dAddT (ds.take j ++ [odd]) (ds.drop j)) st = .ok (.tuple (ds.take j ++ [odd] ++ ds.drop j)) st := fun st => add_tup (by have := ld j; rw [List.length_append, List.length_singleton, sizeLine_eq]; omega)
              have e0 : BdL (ds.take j) (wtL (ds.take j)) kk b := ⟨(hds.take j).lay, Nat.le_refl _, (hds.take j).dp, (hds.take j).mx⟩
              have e9 : BdL (ds.drop j) (wtL (ds.drop j)) kk b := ⟨(hds.drop j).lay, Nat.le_refl _, (hds.drop j).dp, (hds.drop j).mx⟩
              refine ⟨.tuple (ds.take j ++ [odd] ++ ds.drop j), sp3, lf3, dr3, ?_, out _ ((((e0.mono (Nat.le_refl _) (by omega : kk ≤ kk + 2) hm2).append (BdL.cons (ho.mono (Nat.le_refl _) (by omega : 1 ≤ kk + 2) hm1) BdL.nil)).append (e9.mono (Nat.le_refl _) (by omega) hm2)).mono (by omega) (Nat.le_refl _) (Nat.le_refl _))⟩
              unfold bentB
              simp -implicitDefEqProofs [mkLst, mkTup, sizeLine_eq, add_ll, dAdd, dNeg, dInt2, e1, e2, set2, Ty.sub, h6, e3, q0, q1, q2, q5, sl_to, sl_from, a1, a2']
            · refine ⟨.tuple ds.reverse, sp3, lf3, dr3, ?_, out _ (hds.reverse.mono (by omega) (by omega) hm2)⟩
              unfold bentB
              simp -implicitDefEqProofs [mkLst, mkTup, sizeLine_eq, add_ll, dAdd, dNeg, dInt2, e1, e2, set2, Ty.sub, h6, e3, q0, q1, q2, q5, dRev]
    · refine ⟨odd, sp2, lf2, dr2, ?_, hodd⟩
      unfold bentB
      simp -implicitDefEqProofs [mkLst, mkTup, sizeLine_eq, add_ll, dAdd, dNeg, dInt2, e1, e2, set2, Ty.sub, h6]
  | list ds =>
    refine ⟨odd, sp2, lf2, dr2, ?_, hodd⟩
    unfold bentB
    simp -implicitDefEqProofs [mkLst, mkTup, sizeLine_eq, add_ll, dAdd, dNeg, dInt2, e1, e2, set2, Ty.sub]
  | str z =>
    by_cases h4 : lot < 3
    · obtain ⟨w, sp3, lf3, dr3, e3, m3⟩ := q_any (sp := sp2) (lf := lf2) (dr := dr2) (st := []) (xs := [.str "a", .str "A", .str " ", .str "0", .str "zzzzzzzz"]) hcs hl (by simp) (by simp)
      have hz := hx.wt
      unfold Pv.wt at hz
      have key : ∀ t : Str, (PyData.str t).canLay0 = true → t.length ≤ 8 → Out (.str z) (.str (z ++ t)) k b ∧ fAdd (.str z) (.str t) [fd cs sp3 lf3 dr3] = .ok (.str (z ++ t)) [fd cs sp3 lf3 dr3] := fun t ht hn => by
        have el : (z ++ t).length = z.length + t.length := strLen_append z t
        refine ⟨(Bd.str (n := 10 * (z.length + t.length) + 4) (lay_cat hx.lay ht) (by rw [el]; exact Nat.le_refl _)).mono ?_ (Nat.le_refl _) (Nat.le_refl _), ?_⟩
        · unfold Pv.wt; omega
        · show lift (if z.length + t.length ≤ sizeLine then some (PyData.str (z ++ t)) else none) _ = _
          rw [if_pos (by rw [sizeLine_eq]; omega)]; rfl
      obtain ⟨t, et, lt, nt⟩ : ∃ t, w = .str t ∧ (PyData.str t).canLay0 = true ∧ t.length ≤ 8 := by
        simp only [List.mem_cons, List.not_mem_nil, or_false] at m3
        rcases m3 with e | e | e | e | e <;> (subst e; exact ⟨_, rfl, by decide +kernel, by decide +kernel⟩)
      subst et
      obtain ⟨o1, o2⟩ := key t lt nt
      refine ⟨_, sp3, lf3, dr3, ?_, o1⟩
      unfold bentB
      simp -implicitDefEqProofs [mkLst, mkTup, sizeLine_eq, add_ll, dAdd, dNeg, dInt2, e1, e2, set2, Ty.sub, h4, e3, o2]
    · refine ⟨odd, sp2, lf2, dr2, ?_, hodd⟩
      unfold bentB
      simp -implicitDefEqProofs [mkLst, mkTup, sizeLine_eq, add_ll, dAdd, dNeg, dInt2, e1, e2, set2, Ty.sub, h4]
  | bool v =>
    by_cases h4 : lot < 4
    · obtain ⟨w, sp3, lf3, dr3, e3, m3⟩ := q_any (sp := sp2) (lf := lf2) (dr := dr2) (st := []) (xs := [.int 1, .int (-1), .int (-1)]) hcs hl (by simp) (by simp)
      have hv : ∀ d : Int, d.natAbs ≤ 1 → Out (.bool v) (.int (b2i v + d)) k b := fun d hd => by
        have : (b2i v + d).natAbs ≤ 2 := by cases v <;> simp only [b2i] <;> omega
        exact (Bd.int (b := 2) (k := k + 3) this (by decide)).mono (by omega) (Nat.le_refl _) (Nat.le_trans (by decide) hm1)
      have run : ∀ d : Int, fAdd (.bool v) (.int d) [fd cs sp3 lf3 dr3] = .ok (.int (b2i v + d)) [fd cs sp3 lf3 dr3] := fun d => rfl
      simp only [List.mem_cons, List.not_mem_nil, or_false, or_self] at m3
      rcases m3 with e | e <;> subst e
      · refine ⟨.int (b2i v + 1), sp3, lf3, dr3, ?_, hv _ (by decide)⟩
        unfold bentB
        simp -implicitDefEqProofs [mkLst, mkTup, sizeLine_eq, add_ll, dAdd, dNeg, dInt2, e1, e2, set2, Ty.sub, h4, e3, run]
      · refine ⟨.int (b2i v + -1), sp3, lf3, dr3, ?_, hv _ (by decide)⟩
        unfold bentB
        simp -implicitDefEqProofs [mkLst, mkTup, sizeLine_eq, add_ll, dAdd, dNeg, dInt2, e1, e2, set2, Ty.sub, h4, e3, run]
    · refine ⟨odd, sp2, lf2, dr2, ?_, hodd⟩
      unfold bentB
      simp -implicitDefEqProofs [mkLst, mkTup, sizeLine_eq, add_ll, dAdd, dNeg, dInt2, e1, e2, set2, Ty.sub, h4]
  | int i =>
    by_cases h4 : lot < 4
    · obtain ⟨w, sp3, lf3, dr3, e3, m3⟩ := q_any (sp := sp2) (lf := lf2) (dr := dr2) (st := []) (xs := [.int 1, .int (-1), .int (-1)]) hcs hl (by simp) (by simp)
      have hi : i.natAbs ≤ b := hx.mx
      have wi : wt (.int i) = 64 := by unfold Pv.wt; rw [if_pos (by omega)]
      simp only [List.mem_cons, List.not_mem_nil, or_false, or_self] at m3
      rcases m3 with e | e <;> subst e
      · refine ⟨.int (i + 1), sp3, lf3, dr3, ?_, (Bd.int (b := b + 1) (k := k + 3) (by omega) (by omega)).mono (by omega) (Nat.le_refl _) (Nat.le_max_left _ _)⟩
        unfold bentB
        simp -implicitDefEqProofs [mkLst, mkTup, sizeLine_eq, add_ll, dAdd, dNeg, dInt2, e1, e2, set2, Ty.sub, h4, e3]
      · refine ⟨.int (i + -1), sp3, lf3, dr3, ?_, (Bd.int (b := b + 1) (k := k + 3) (by omega) (by omega)).mono (by omega) (Nat.le_refl _) (Nat.le_max_left _ _)⟩
        unfold bentB
        simp -implicitDefEqProofs [mkLst, mkTup, sizeLine_eq, add_ll, dAdd, dNeg, dInt2, e1, e2, set2, Ty.sub, h4, e3]
    · refine ⟨odd, sp2, lf2, dr2, ?_, hodd⟩
      unfold bentB
      simp -implicitDefEqProofs [mkLst, mkTup, sizeLine_eq, add_ll, dAdd, dNeg, dInt2, e1, e2, set2, Ty.sub, h4]
end
end Gstampahead_k75_logs_told
set_option Elab.async false
set_option linter.all false
set_option maxRecDepth 100000
set_option maxHeartbeats 4000000
namespace Gstampahead_k75_logs_told
open PySem PySem.Spec L2 Pv
open PyProof.Rows hiding St signs cutD
section
variable {cs : List Pv.D}
theorem bent_made (hcs : IntsD cs) (hl : cs.length ≤ 63) : ∀ (n : Nat) {x : Pv.D} {k b : Nat} {sp lf dr : Int}, Bd x (2 ^ 22) k b → k < n → b < 10 ^ 61 →
    ∃ y sp' lf' dr', F__law_bent n [Rf 0, x] [fd cs sp lf dr] = .ok y [fd cs sp' lf' dr'] ∧ Out x y k b
  | 0, x, k, b, sp, lf, dr, hx, hk, hb => absurd hk (Nat.not_lt_zero k)
  | n + 1, x, k, b, sp, lf, dr, hx, hk, hb => by
    have hm1 : (10 : Nat) ^ 59 ≤ max (b + 1) (10 ^ 59) := Nat.le_max_right _ _
    have hm2 : b ≤ max (b + 1) (10 ^ 59) := Nat.le_trans (Nat.le_succ b) (Nat.le_max_left _ _)
    -- the first part goes by: the second part is left
    have by_ : ∀ sp1 lf1 dr1, bentA (F__law_bent n) [some (Rf 0), some x, none, none, none, none] [fd cs sp lf dr] = .nx [some (Rf 0), some x, none, none, none, none] [fd cs sp1 lf1 dr1] →
        ∃ y sp' lf' dr', F__law_bent (n + 1) [Rf 0, x] [fd cs sp lf dr] = .ok y [fd cs sp' lf' dr'] ∧ Out x y k b := by
      intro sp1 lf1 dr1 e
      obtain ⟨y, sp2, lf2, dr2, q, o⟩ := bentB_made (sp := sp1) (lf := lf1) (dr := dr1) (a2 := none) hcs hl hx hb
      refine ⟨y, sp2, lf2, dr2, ?_, o⟩
      show finR 1 (endR ((bentA (F__law_bent n) [some (Rf 0), some x, none, none, none, none] [fd cs sp lf dr]).bind bentB)) = _
      rw [e]
      show finR 1 (endR (bentB [some (Rf 0), some x, none, none, none, none] [fd cs sp1 lf1 dr1])) = _
      rw [q]
      exact fin_same rfl
    by_cases ht : ∃ d ds, x = .tuple (d :: ds)
    · obtain ⟨d, ds0, ex⟩ := ht
      generalize hds : d :: ds0 = ds at ex
      subst ex
      have dep : PyData.depthAll ds + 1 ≤ k := hx.dp
      obtain ⟨kk, ek⟩ : ∃ kk, k = kk + 1 := ⟨k - 1, by omega⟩
      subst ek
      have hw : wtL ds + 4 ≤ 2 ^ 22 := by have := hx.wt; unfold Pv.wt at this; exact this
      have hlen := wt_len ds
      have hbd : BdL ds (wtL ds) kk b := ⟨hx.lay, Nat.le_refl _, by omega, hx.mx⟩
      have ew : wt (.tuple ds) = wtL ds + 4 := by unfold Pv.wt; rfl
      have hp : 0 < ds.length := by rw [← hds]; simp
      have hne : ds.isEmpty = false := by rw [← hds]; rfl
      have e0 : dCmp .NotEq (.tuple ds) (.tuple []) = some (.bool true) := by rw [cmp_ne_nilT hx.lay, hne]; rfl
      obtain ⟨r1, sp1, lf1, dr1, e1, b1, c1⟩ := q_draw (sp := sp) (lf := lf) (dr := dr) (st := []) (m := 7) hcs hl (by decide) (by decide)
      by_cases h1 : 0 < r1
      · obtain ⟨r2, sp2, lf2, dr2, e2, b2, c2⟩ := q_draw (sp := sp1) (lf := lf1) (dr := dr1) (st := []) (m := (ds.length : Int)) hcs hl (by omega) (by omega)
        obtain ⟨j, ej⟩ : ∃ j : Nat, r2 = (j : Int) := ⟨_, (Int.toNat_of_nonneg b2).symm⟩
        subst ej
        have hj : j < ds.length := by omega
        have hc := hbd.mem (List.getElem_mem hj)
        obtain ⟨y, sp3, lf3, dr3, e3, o3⟩ := bent_made hcs hl n (sp := sp2) (lf := lf2) (dr := dr2) (hc.mono (by omega : wtL ds ≤ 2 ^ 22) (Nat.le_refl _) (Nat.le_refl _)) (by omega) hb
        have ix : ∀ st, fIx (.tuple ds) (.int (j : Int)) st = .ok ds[j] st := fun st => ix_t (List.getElem?_eq_getElem hj)
        have tot : wtL (ds.take j) + (wt ds[j] + 4 + wtL (ds.drop (j + 1))) = wtL ds := by
          have : ds = ds.take j ++ ds[j] :: ds.drop (j + 1) := by rw [← List.drop_eq_getElem_cons hj, List.take_append_drop]
          have e := congrArg wtL this
          have e2 : wtL (ds[j] :: ds.drop (j + 1)) = wt ds[j] + 4 + wtL (ds.drop (j + 1)) := by rw [wtL]
          rw [wtL_append, e2] at e
          exact e.symm
        have lt : (ds.take j).length ≤ ds.length := by rw [List.length_take]; omega
        have ld : (ds.drop (j + 1)).length ≤ ds.length := by rw [List.length_drop]; omega
        have a1 : ∀ st, lift (dAddT (ds.take j) [y]) st = .ok (.tuple (ds.take j ++ [y])) st := fun st => add_tup (by rw [List.length_singleton, sizeLine_eq]; omega)
        have a2 : ∀ st, lift (dAddT (ds.take j ++ [y]) (ds.drop (j + 1))) st = .ok (.tuple (ds.take j ++ [y] ++ ds.drop (j + 1))) st := fun st => add_tup (by rw [List.length_append, List.length_singleton, sizeLine_eq]; omega)
        refine ⟨.tuple (ds.take j ++ [y] ++ ds.drop (j + 1)), sp3, lf3, dr3, ?_, ?_⟩
        · show finR 1 (endR ((bentA (F__law_bent n) [some (Rf 0), some (.tuple ds), none, none, none, none] [fd cs sp lf dr]).bind bentB)) = _
          unfold bentA
          simp -implicitDefEqProofs [mkTup, sizeLine_eq, Ty.sub, e0, e1, h1, e2, sl_to, sl_from1, ix, e3, a1, a2, fin_same]
        · have f0 : BdL (ds.take j) (wtL (ds.take j)) (kk + 3) (max (b + 1) (10 ^ 59)) := ⟨(hbd.take j).lay, Nat.le_refl _, Nat.le_trans (hbd.take j).dp (by omega), Nat.le_trans (hbd.take j).mx hm2⟩
          have f9 : BdL (ds.drop (j + 1)) (wtL (ds.drop (j + 1))) (kk + 3) (max (b + 1) (10 ^ 59)) := ⟨(hbd.drop (j + 1)).lay, Nat.le_refl _, Nat.le_trans (hbd.drop (j + 1)).dp (by omega), Nat.le_trans (hbd.drop (j + 1)).mx hm2⟩
          unfold Out at o3 ⊢
          rw [ew]
          exact (Bd.tup ((f0.append (BdL.cons o3 BdL.nil)).append f9)).mono (by omega) (by omega) (Nat.le_refl _)
      · refine by_ sp1 lf1 dr1 ?_
        unfold bentA
        simp -implicitDefEqProofs [mkTup, sizeLine_eq, Ty.sub, e0, e1, h1]
    · refine by_ sp lf dr ?_
      unfold bentA
      cases x with
      | dict _ => exact hx.ok.nodict.elim
      | tuple ds =>
        cases ds with
        | nil =>
          have e0 : dCmp .NotEq (.tuple []) (.tuple []) = some (.bool false) := cmp_ne_nilT rfl
          simp -implicitDefEqProofs [mkTup, sizeLine_eq, Ty.sub, e0]
        | cons d ds => exact absurd ⟨d, ds, rfl⟩ ht
      | _ => simp -implicitDefEqProofs [Ty.sub]
end
end Gstampahead_k75_logs_told
set_option Elab.async false
set_option linter.all false
set_option maxRecDepth 100000
set_option maxHeartbeats 4000000
namespace Gstampahead_k75_logs_told
open PySem PySem.Spec L2 Pv
open PyProof.Rows hiding St signs cutD
open Classical
section
variable {cs : List Pv.D} {sp lf dr : Int}
theorem feed_made (ns : List Int) : ∃ cs, IntsD cs ∧ cs.length ≤ 63 ∧ F__law_feed [Gs (ns.map .int)] [] = .ok (Rf 0) [fd cs 0 0 0] := by
  refine ⟨(ns.map PyData.int).take 63, ?_, by rw [List.length_take]; omega, ?_⟩
  · intro c hc
    obtain ⟨i, _, e⟩ := List.mem_map.mp (List.mem_of_mem_take hc)
    exact ⟨i, e.symm⟩
  · have es : fSl none (some 63) (Gs (ns.map .int)) [] = .ok (.list ((ns.map PyData.int).take 63)) [] := by
      show R.ok (PyData.list (Pv.cutD (ns.map PyData.int) none (some ((63 : Nat) : Int)))) [] = _
      rw [cut_to]
    have ec : mLc (mIter (mSl (mVar 0) (moNone) (moSome (mC (.int 63))))) (.nm 1) (tYesM) (mInt (mVar 1)) [1] [some (Gs (ns.map .int)), none] [] = .ok (.list ((ns.map PyData.int).take 63)) [] := by
      have := mLc_all (mi := mIter (mSl (mVar 0) (moNone) (moSome (mC (.int 63))))) (t := .nm 1) (te := mInt (mVar 1)) (vs := [1]) (sl := [some (Gs (ns.map .int)), none]) (st := []) (keep := always) (ds := (ns.map PyData.int).take 63) id (by simp [es]) trivial (by rw [List.length_take, sizeLine_eq]; omega) fun d hd => by
        obtain ⟨i, _, e⟩ := List.mem_map.mp (List.mem_of_mem_take hd)
        subst e
        exact ⟨_, rfl, by simp [wipeD, dInt]⟩
      rw [this, List.map_id]
    unfold F__law_feed b__law_feed
    rw [fnK_e]
    simp -implicitDefEqProofs [startD, mDct, pairsM, ec, keyOf, mergeD, putD, fd]
theorem Bd.cl {d : Pv.D} {n k b : Nat} (h : Bd d n k b) (hn : n ≤ 2 ^ 24) (hk : k ≤ 60) : Cl d := h.ok.mono hn hk
/-- the items so far -/
structure Its (l : List Pv.D) (n : Nat) : Prop where
  cl : ∀ d ∈ l, Cl d
  len : l.length ≤ n
theorem Its.add {l m : List Pv.D} {n k : Nat} (h : Its l n) (hm : ∀ d ∈ m, Cl d) (hk : m.length ≤ k) : Its (l ++ m) (n + k) :=
  ⟨fun d hd => (List.mem_append.mp hd).elim (h.cl d) (hm d), by rw [List.length_append]; have := h.len; omega⟩
theorem add_lst {xs ys : List Pv.D} {st : Sto} (h : xs.length + ys.length ≤ 100000) : fAdd (.list xs) (.list ys) st = .ok (.list (xs ++ ys)) st := by
  show lift (if xs.length + ys.length ≤ sizeLine then some (PyData.list (xs ++ ys)) else none) st = _
  rw [if_pos (by rw [sizeLine_eq]; omega)]; rfl
def sl1 (a0 : Option Pv.D) (l : List Pv.D) (a3 tome : Option Pv.D) (menu : List Pv.D) (diary : Pv.D) : Sl := [a0, some (Rf 0), some (.list l), a3, tome, some (.list menu), some diary, none, none, none, none, none, none]
def J0 (cs : List Pv.D) (a0 a3 tome : Option Pv.D) (menu : List Pv.D) (diary : Pv.D) (n k : Nat) (sl : Sl) (st : Sto) : Prop := ∃ l, sl = sl1 a0 l a3 tome menu diary ∧ Its l (n + 4 * k) ∧ ∃ sp lf dr, st = [fd cs sp lf dr]
theorem inner {a0 a3 tome : Option Pv.D} {menu l : List Pv.D} {diary : Pv.D} {n : Nat} (hcs : IntsD cs) (hl : cs.length ≤ 63) (hd : Bd diary 30000 5 (10 ^ 59)) (hm : ∀ d ∈ menu, Bd d 600 2 (10 ^ 59)) (hm0 : menu ≠ []) (hm1 : menu.length ≤ 100) (hi : Its l n) (hn : n ≤ 50000) :
    ∃ sl' st', forL always (tgName 7) l0_law [7, 8, 9] (rngD 0 24) (sl1 a0 l a3 tome menu diary) [fd cs sp lf dr] = .nx sl' st' ∧ J0 cs a0 a3 tome menu diary n (0 + (rngD 0 24).length) sl' st' := by
  refine forL_inv (J0 cs a0 a3 tome menu diary n) 24 (fun _ => trivial) (by rw [rngD_length]; omega) ⟨l, rfl, by simpa using hi, sp, lf, dr, rfl⟩ ?_
  rintro d k sl st hdd hk ⟨l, e1, hi, sp, lf, dr, e2⟩
  subst e1; subst e2
  have big : (10 : Nat) ^ 59 < 10 ^ 61 := by decide
  obtain ⟨y1, sp1, lf1, dr1, q1, o1⟩ := bent_made hcs hl 24 (sp := sp) (lf := lf) (dr := dr) (hd.mono (by omega) (Nat.le_refl _) (Nat.le_refl _)) (by omega) big
  obtain ⟨m, sp2, lf2, dr2, q2, mm⟩ := q_any (sp := sp1) (lf := lf1) (dr := dr1) (st := []) hcs hl hm0 (by omega)
  have hmm := hm m mm
  obtain ⟨y3, sp3, lf3, dr3, q3, o3⟩ := bent_made hcs hl 24 (sp := sp2) (lf := lf2) (dr := dr2) (hmm.mono (by omega) (Nat.le_refl _) (Nat.le_refl _)) (by omega) big
  have w1 := hd.wt
  have w3 := hmm.wt
  have p1 : Bd y1 64000 8 (10 ^ 59 + 1) := o1.mono (by omega) (by omega) (by omega)
  have p3 : Bd y3 5200 5 (10 ^ 59 + 1) := o3.mono (by omega) (by omega) (by omega)
  obtain ⟨y4, sp4, lf4, dr4, q4, o4⟩ := bent_made hcs hl 24 (sp := sp3) (lf := lf3) (dr := dr3) (p1.mono (by omega) (Nat.le_refl _) (Nat.le_refl _)) (by omega) (by decide)
  obtain ⟨y5, sp5, lf5, dr5, q5, o5⟩ := bent_made hcs hl 24 (sp := sp4) (lf := lf4) (dr := dr4) (p3.mono (by omega) (Nat.le_refl _) (Nat.le_refl _)) (by omega) (by decide)
  have w4 := p1.wt
  have w5 := p3.wt
  have c1 : Cl y1 := Bd.cl p1 (by omega) (by omega)
  have c3 : Cl y3 := Bd.cl p3 (by omega) (by omega)
  have c4 : Cl y4 := Bd.cl o4 (by omega) (by omega)
  have c5 : Cl y5 := Bd.cl o5 (by omega) (by omega)
  have more : Its (l ++ [y1, y4, y3, y5]) (n + 4 * (k + 1)) := by
    have := hi.add (m := [y1, y4, y3, y5]) (k := 4) (fun d hd => by
      simp only [List.mem_cons, List.not_mem_nil, or_false] at hd
      rcases hd with e | e | e | e <;> (subst e; assumption)) (by simp)
    exact ⟨this.cl, by have := this.len; omega⟩
  have ad : ∀ st, fAdd (.list l) (.list [y1, y4, y3, y5]) st = .ok (.list (l ++ [y1, y4, y3, y5])) st := fun st => add_lst (by have := hi.len; simp; omega)
  refine ⟨(((sl1 a0 (l ++ [y1, y4, y3, y5]) a3 tome menu diary).set 7 (some d)).set 8 (some y1)).set 9 (some y3), [fd cs sp5 lf5 dr5], ?_, l ++ [y1, y4, y3, y5], rfl, more, sp5, lf5, dr5, rfl⟩
  unfold l0_law sl1
  simp -implicitDefEqProofs [q1, q2, q3, q4, q5, set2, mkLst, sizeLine_eq, ad]
end
end Gstampahead_k75_logs_told
set_option Elab.async false
set_option linter.all false
set_option maxRecDepth 100000
set_option maxHeartbeats 4000000
namespace Gstampahead_k75_logs_told
open PySem PySem.Spec L2 Pv
open PyProof.Rows hiding St signs cutD
open Classical
def menuP : List Pv.D := [.tuple [.str "tell", .str "a", .int (-5), .int 100000000000000000000000000000000000000000000000000000000000, .int 0], .tuple [.str "tell", .str "zzzzzzzz", .int 0, .int 0, .none],
  .tuple [.str "clock", .str "a", .int 0, .int 60], .tuple [.str "cut", .str "a", .str "b"], .tuple [.str "road", .str "amy", .str "bob", .int 0], .tuple [.str "clock", .str "live", .int 100000000000000000000000000000000000000000000000000000000000, .int 1],
  .tuple [.str "tell", .str "b", .int 1, .int (-1), .int 100000000000000000000000000000000000000000000000000000000000]]
theorem menu_ok {x : Pv.D} (h : x ∈ menuP) : Bd x 600 2 (10 ^ 59) := by
  have key : ∀ x ∈ menuP, x.canLay0 = true ∧ wt x ≤ 600 ∧ x.depth ≤ 2 ∧ mx x ≤ 10 ^ 59 := by decide +kernel
  obtain ⟨a, b, c, d⟩ := key x h
  exact ⟨a, b, c, d⟩
section
variable {cs : List Pv.D} {sp lf dr : Int}
theorem mr1 {a : M} {sl : Sl} {st st1 : Sto} {x : Pv.D} (h1 : a sl st = .ok x st1) : mRng1 a sl st = fRng1 x st1 := by unfold mRng1; rw [h1]; rfl
theorem rng1_e {r : Int} {st : Sto} (h0 : 0 ≤ r) (h1 : r < 1000000) : fRng1 (.int r) st = .ok ⟨rngD 0 r.toNat, always⟩ st := by
  have e : inR62 r = true := decide_eq_true ⟨by omega, by omega⟩
  show (if inR62 r = true then R.ok (Src.mk (rngD 0 r.toNat) always) st else .bad) = _
  rw [if_pos e]
theorem lc_any {a0 a2 a3 a4 a6 a7 : Option Pv.D} {more : Sl} (hcs : IntsD cs) (hl : cs.length ≤ 63) : ∀ (ds : List Pv.D) (sp lf dr : Int), ∃ ys sp' lf' dr',
    lcL always (.nm 7) tYesM (mCall F__law_any (msCons (mVar 1) (msCons (mVar 5) msNil))) (a0 :: some (Rf 0) :: a2 :: a3 :: a4 :: some (.list menuP) :: a6 :: a7 :: more) ds [fd cs sp lf dr] = .ok ys [fd cs sp' lf' dr'] ∧ ys.length = ds.length ∧ ∀ y ∈ ys, y ∈ menuP
  | [], sp, lf, dr => ⟨[], sp, lf, dr, by unfold lcL; rw [if_pos (show always _ from trivial)], rfl, fun _ h => by cases h⟩
  | d :: ds, sp, lf, dr => by
    obtain ⟨x, sp1, lf1, dr1, q1, m1⟩ := q_any (sp := sp) (lf := lf) (dr := dr) (st := []) (xs := menuP) hcs hl (by simp [menuP]) (by simp [menuP])
    obtain ⟨ys, sp2, lf2, dr2, e, n, k⟩ := lc_any (a0 := a0) (a2 := a2) (a3 := a3) (a4 := a4) (a6 := a6) (a7 := a7) (more := more) hcs hl ds sp1 lf1 dr1
    refine ⟨x :: ys, sp2, lf2, dr2, ?_, by simp [n], fun y hy => (List.mem_cons.mp hy).elim (fun z => by rw [z]; exact m1) (k y)⟩
    unfold lcL
    rw [if_pos (show always _ from trivial)]
    simp [ctSet, q1, e]
@[simp] theorem ix_l0 {a : Pv.D} {ds : List Pv.D} {st : Sto} : fIx (.list (a :: ds)) (.int 0) st = .ok a st := ix_l (j := 0) rfl
def m0 : List Pv.D := [.str "tell", .str "a", .int (-5), .int 100000000000000000000000000000000000000000000000000000000000, .int 0]
theorem fifty : ∃ R : List Pv.D, dMulS (.tuple [.tuple m0]) (.int 50) = some (.tuple R) ∧ BdL R 40000 2 (10 ^ 59) ∧ R.length = 50 := by
  have b0 : Bd (.tuple m0) 600 2 (10 ^ 59) := menu_ok (by unfold menuP m0; simp)
  have key : ∀ n : Nat, BdL (List.replicate n [PyData.tuple m0]).flatten (604 * n) 2 (10 ^ 59) ∧ (List.replicate n [PyData.tuple m0]).flatten.length = n := by
    intro n
    induction n with
    | zero => exact ⟨BdL.nil, rfl⟩
    | succ n ih =>
      rw [List.replicate_succ, List.flatten_cons]
      exact ⟨((BdL.cons b0 BdL.nil).append ih.1).mono (by omega) (Nat.le_refl _) (Nat.le_refl _), by rw [List.length_append, ih.2]; simp; omega⟩
  refine ⟨_, ?_, (key 50).1.mono (by omega) (Nat.le_refl _) (Nat.le_refl _), (key 50).2⟩
  show (if [PyData.tuple m0] ≠ [] ∧ (2 : Int) ≤ 50 ∧ (50 : Int) ≤ 1000 ∧ [PyData.tuple m0].length ≤ 1000 then some (PyData.tuple (List.replicate (50 : Int).toNat [PyData.tuple m0]).flatten) else none) = _
  rw [if_pos (by simp)]; rfl
theorem m0_ok : Cl (.list m0) := by
  have : (PyData.list m0).canLay0 = true ∧ wt (.list m0) ≤ 600 ∧ (PyData.list m0).depth ≤ 2 := by decide +kernel
  exact ⟨this.1, Nat.le_trans this.2.1 (by decide), Nat.le_trans this.2.2 (by decide)⟩
def K0 (cs : List Pv.D) (a0 : Option Pv.D) (k : Nat) (sl : Sl) (st : Sto) : Prop := ∃ l, sl = [a0, some (Rf 0), some (.list l), none, none, none, none, none, none, none, none, none, none] ∧ Its l (20 + 200 * k) ∧ ∃ sp lf dr, st = [fd cs sp lf dr]
theorem outer {a0 : Option Pv.D} {l : List Pv.D} (hcs : IntsD cs) (hl : cs.length ≤ 63) (hi : Its l 20) :
    ∃ sl' st', forL always (tgName 3) l1_law [3, 4, 5, 6, 7, 8, 9] (rngD 0 2) [a0, some (Rf 0), some (.list l), none, none, none, none, none, none, none, none, none, none] [fd cs sp lf dr] = .nx sl' st' ∧ K0 cs a0 (0 + (rngD 0 2).length) sl' st' := by
  refine forL_inv (K0 cs a0) 2 (fun _ => trivial) (by rw [rngD_length]; omega) ⟨l, rfl, hi, sp, lf, dr, rfl⟩ ?_
  rintro d k sl st hdd hk ⟨l, e1, hi, sp, lf, dr, e2⟩
  subst e1; subst e2
  obtain ⟨tome, sp1, lf1, dr1, q1, bt⟩ := tome_made (sp := sp) (lf := lf) (dr := dr) hcs hl
  obtain ⟨r, sp2, lf2, dr2, q2, b2, c2⟩ := q_draw (sp := sp1) (lf := lf1) (dr := dr1) (st := []) (m := 7) hcs hl (by decide) (by decide)
  have bhead : Bd (.tuple [.str "live", tome]) 20100 4 (10 ^ 59) := (Bd.tup (BdL.cons (Bd.str (n := 44) (z := "live") (b := 10 ^ 59) (k := 3) (by decide +kernel) (by decide +kernel)) (BdL.cons (bt.mono (Nat.le_refl _) (Nat.le_refl _) (by decide)) BdL.nil))).mono (by omega) (by omega) (Nat.le_refl _)
  obtain ⟨ys, sp3, lf3, dr3, q3, n3, m3⟩ := lc_any (a0 := a0) (a2 := some (.list l)) (a3 := some d) (a4 := some tome) (a6 := some (.tuple [.tuple [.str "live", tome]])) (a7 := none) (more := [none, none, none, none, none]) hcs hl (rngD 0 r.toNat) sp2 lf2 dr2
  rw [rngD_length] at n3
  have hy : ys.length ≤ 6 := by omega
  have cm : mLc (mRng1 (mCall F__law_draw (msCons (mVar 1) (msCons (mC (.int 7)) (msNil))))) (.nm 7) (tYesM) (mCall F__law_any (msCons (mVar 1) (msCons (mVar 5) (msNil)))) [7] [a0, some (Rf 0), some (.list l), some d, some tome, some (.list menuP), some (.tuple [.tuple [.str "live", tome]]), none, none, none, none, none, none] [fd cs sp1 lf1 dr1] = .ok (.list ys) [fd cs sp3 lf3 dr3] := by
    have mi : mRng1 (mCall F__law_draw (msCons (mVar 1) (msCons (mC (.int 7)) (msNil)))) [a0, some (Rf 0), some (.list l), some d, some tome, some (.list menuP), some (.tuple [.tuple [.str "live", tome]]), none, none, none, none, none, none] [fd cs sp1 lf1 dr1] = .ok ⟨rngD 0 r.toNat, always⟩ [fd cs sp2 lf2 dr2] := by
      rw [mr1 (st1 := [fd cs sp2 lf2 dr2]) (x := .int r) (by simp [q2])]
      exact rng1_e b2 (by omega)
    unfold mLc lcR
    rw [mi]
    show ((lcL always _ _ _ (wipeD _ [7]) (rngD 0 r.toNat) _).bind _).bind _ = _
    have ew : wipeD [a0, some (Rf 0), some (.list l), some d, some tome, some (.list menuP), some (.tuple [.tuple [.str "live", tome]]), none, none, none, none, none, none] [7] = [a0, some (Rf 0), some (.list l), some d, some tome, some (.list menuP), some (.tuple [.tuple [.str "live", tome]]), none, none, none, none, none, none] := rfl
    rw [ew, q3]
    show (if ys.length ≤ sizeLine then R.ok ys _ else .bad).bind _ = _
    rw [if_pos (by rw [sizeLine_eq]; omega)]
    rfl
  have bys : BdL ys 4000 2 (10 ^ 59) := by
    have key : ∀ ys : List Pv.D, (∀ y ∈ ys, y ∈ menuP) → BdL ys (604 * ys.length) 2 (10 ^ 59) := by
      intro ys
      induction ys with
      | nil => intro _; exact BdL.nil
      | cons y ys ih => intro h; exact (BdL.cons (menu_ok (h y List.mem_cons_self)) (ih fun z hz => h z (List.mem_cons_of_mem _ hz))).mono (by rw [List.length_cons]; omega) (Nat.le_refl _) (Nat.le_refl _)
    exact (key ys m3).mono (by omega) (Nat.le_refl _) (Nat.le_refl _)
  have bL : BdL (PyData.tuple [.str "live", tome] :: ys) 25000 4 (10 ^ 59) := (BdL.cons bhead (bys.mono (Nat.le_refl _) (by omega) (Nat.le_refl _))).mono (by omega) (Nat.le_refl _) (Nat.le_refl _)
  have bD : Bd (.tuple (.tuple [.str "live", tome] :: ys)) 30000 5 (10 ^ 59) := (Bd.tup bL).mono (by omega) (Nat.le_refl _) (Nat.le_refl _)
  obtain ⟨RR, hRR, bR, nR⟩ := fifty
  have i1 := (hi.add (m := [.tuple (.tuple [.str "live", tome] :: ys), .tuple ys, .list (.tuple [.str "live", tome] :: ys), .tuple ((.tuple [.str "live", tome] :: ys) ++ (.tuple [.str "live", tome] :: ys))]) (k := 4) (fun x hx => by
    simp only [List.mem_cons, List.not_mem_nil, or_false] at hx
    rcases hx with e | e | e | e <;> subst e
    · exact Bd.cl bD (by omega) (by omega)
    · exact Bd.cl (Bd.tup bys) (by omega) (by omega)
    · exact Bd.cl (Bd.lst bL) (by omega) (by omega)
    · exact Bd.cl (Bd.tup (bL.append bL)) (by omega) (by omega)) (by simp))
  have i2 := i1.add (m := [.tuple ((.tuple [.str "live", tome] :: ys) ++ RR)]) (k := 1) (fun x hx => by
    simp only [List.mem_cons, List.not_mem_nil, or_false] at hx
    subst hx
    exact Bd.cl (Bd.tup (bL.append (bR.mono (Nat.le_refl _) (by omega : 2 ≤ 4) (Nat.le_refl _)))) (by omega) (by omega)) (by simp)
  have i3 := i2.add (m := menuP) (k := 7) (fun x hx => Bd.cl (menu_ok hx) (by omega) (by omega)) (by simp [menuP])
  have i4 := i3.add (m := [.list m0]) (k := 1) (fun x hx => by
    simp only [List.mem_cons, List.not_mem_nil, or_false] at hx
    subst hx; exact m0_ok) (by simp)
  obtain ⟨sl', st', ei, l9, f1, f2, sp9, lf9, dr9, f3⟩ := inner (sp := sp3) (lf := lf3) (dr := dr3) (a0 := a0) (a3 := some d) (tome := some tome) hcs hl bD (fun x hx => menu_ok hx) (by simp [menuP]) (by simp [menuP]) i4 (by omega)
  subst f1; subst f3
  rw [rngD_length] at f2
  refine ⟨sl1 a0 l9 (some d) (some tome) menuP (.tuple (.tuple [.str "live", tome] :: ys)), [fd cs sp9 lf9 dr9], ?_, l9, rfl, ⟨f2.cl, by have := f2.len; omega⟩, sp9, lf9, dr9, rfl⟩
  have n1 := i1.len
  have n2 := i2.len
  have n3 := i3.len
  have g0 := hi.len
  have ad1 := fun st => add_lst (st := st) (xs := l) (ys := [.tuple (.tuple [.str "live", tome] :: ys), .tuple ys, .list (.tuple [.str "live", tome] :: ys), .tuple ((.tuple [.str "live", tome] :: ys) ++ (.tuple [.str "live", tome] :: ys))]) (by simp; omega)
  have tt1 : ∀ st, lift (dAddT [PyData.tuple [.str "live", tome]] ys) st = .ok (.tuple (.tuple [.str "live", tome] :: ys)) st := fun st => add_tup (by simp [sizeLine_eq]; omega)
  have tt2 : ∀ st, lift (dAddT (PyData.tuple [.str "live", tome] :: ys) (PyData.tuple [.str "live", tome] :: ys)) st = .ok (.tuple ((.tuple [.str "live", tome] :: ys) ++ (.tuple [.str "live", tome] :: ys))) st := fun st => add_tup (by simp [sizeLine_eq]; omega)
  have tt3 : ∀ st, lift (dAddT (PyData.tuple [.str "live", tome] :: ys) RR) st = .ok (.tuple ((.tuple [.str "live", tome] :: ys) ++ RR)) st := fun st => add_tup (by simp [sizeLine_eq]; omega)
  have ct : ∀ st, fSl (some 1) none (.tuple (.tuple [.str "live", tome] :: ys)) st = .ok (.tuple ys) st := fun st => cut_tail
  unfold sl1 at ei
  unfold menuP at ei cm i4
  unfold m0 at hRR
  unfold l1_law sl1
  have tl : fTuple (.list ys) [fd cs sp3 lf3 dr3] = .ok (.tuple ys) [fd cs sp3 lf3 dr3] := rfl
  have mr : ∀ sl st, mRng1 (mC (.int 24)) sl st = .ok ⟨rngD 0 24, always⟩ st := fun sl st => by rw [mr1 (x := .int 24) (st1 := st) rfl]; exact rng1_e (by decide) (by decide)
  have z1 : l.length ≤ 16777212 := by omega
  have z2 : l.length ≤ 16777211 := by omega
  have z3 : l.length ≤ 16777204 := by omega
  have z4 : l.length ≤ 16777203 := by omega
  unfold menuP
  simp only [List.append_assoc, List.cons_append, List.nil_append, m0] at ei
  simp -implicitDefEqProofs [mkTup, mkLst, sizeLine_eq, add_ll, dAdd, dNeg, dInt2, q1, cm, ct, tt1, tt2, tt3, hRR, tl, dList, mr, z1, z2, z3, z4, wipeD]
  exact ei
end
end Gstampahead_k75_logs_told
set_option Elab.async false
set_option linter.all false
set_option maxRecDepth 100000
set_option maxHeartbeats 4000000
namespace Gstampahead_k75_logs_told
open PySem PySem.Spec L2 Pv
open PyProof.Rows hiding St signs cutD
open Classical
theorem repr_b (b : Bool) (st : Sto) : reprD st (.bool b) = some (.str (PyData.bool b).shown) := by
  have e : Ok (.bool b) 8 0 := ⟨rfl, by unfold wt; exact Nat.le_refl _, Nat.le_refl _⟩
  exact repr_ok e (by decide) (by decide) st
theorem same_two (b c : Bool) : dCmp .NotEq (.list [.str (PyData.bool b).shown, .str (PyData.bool c).shown]) (.list [.str (PyData.bool b).shown, .str (PyData.bool c).shown]) = some (.bool false) := by
  have hl : (PyData.list [.str (PyData.bool b).shown, .str (PyData.bool c).shown]).canLay0 = true := by cases b <;> cases c <;> decide +kernel
  rw [cmp_ne (lay_of hl hl (by show max 0 (max 0 0) + 1 ≤ 64; decide))]
  have : PyData.eqv (.list [.str (PyData.bool b).shown, .str (PyData.bool c).shown]) (.list [.str (PyData.bool b).shown, .str (PyData.bool c).shown]) = true := by
    simp [PyData.eqv, PyData.eqvAll]
  rw [this]; rfl
def Z (a0 : Option Pv.D) (l : List Pv.D) : Sl := [a0, some (Rf 0), some (.list l), none, none, none, none, none, none, none, none, none, none]
theorem last {a0 : Option Pv.D} {l : List Pv.D} {st : Sto} (h : ∀ d ∈ l, Cl d) : ∃ sl' st', forL always (tgName 10) l2_law [10, 11, 12] l (Z a0 l) st = .nx sl' st' ∧ (fun (_ : Nat) sl st2 => sl = Z a0 l ∧ st2 = st) (0 + l.length) sl' st' := by
  refine forL_inv (k := 0) (fun _ sl st2 => sl = Z a0 l ∧ st2 = st) l.length (fun _ => trivial) (by omega) ⟨rfl, rfl⟩ ?_
  rintro d k sl st2 hd hk ⟨e1, e2⟩
  subst e1; subst e2
  have hc := h d hd
  have r0 := repr_ok hc (by decide) (by decide) st2
  refine ⟨(((Z a0 l).set 10 (some d)).set 11 (some (.str d.shown))).set 12 (some (.list [.str (PyData.bool (decide (isLog d))).shown, .str (PyData.bool (isEv d)).shown])), st2, ?_, rfl, rfl⟩
  unfold l2_law Z
  simp -implicitDefEqProofs [r0, q_diary hc, q_event' hc, q_log hc, q_event hc, repr_b, set2, mkLst, sizeLine_eq, same_two]
theorem law_ok : ∀ ns : List Int, ns.length ≤ 63 → ∃ st, F_law [Gs (ns.map .int)] [] = .ok (.bool true) st := by
  intro ns _
  obtain ⟨cs, hcs, hl, e1⟩ := feed_made ns
  have hi : Its [.none, .tuple [], .int 0, .str "live", .tuple [.str "live"], .tuple [.tuple [.str "live"]], .list [], .tuple [.none], .tuple [.tuple [.str "live", .tuple []]]] 20 := by
    refine ⟨?_, by simp⟩
    have key : ∀ x ∈ ([.none, .tuple [], .int 0, .str "live", .tuple [.str "live"], .tuple [.tuple [.str "live"]], .list [], .tuple [.none], .tuple [.tuple [.str "live", .tuple []]]] : List Pv.D), x.canLay0 = true ∧ wt x ≤ 600 ∧ x.depth ≤ 5 := by decide +kernel
    intro d hd
    obtain ⟨a, b, c⟩ := key d hd
    exact ⟨a, Nat.le_trans b (by decide), Nat.le_trans c (by decide)⟩
  obtain ⟨sl', st', e2, l, f1, f2, sp, lf, dr, f3⟩ := outer (sp := 0) (lf := 0) (dr := 0) (a0 := some (Gs (ns.map .int))) hcs hl hi
  subst f1; subst f3
  obtain ⟨sl', st', e3, f1, f4⟩ := last (a0 := some (Gs (ns.map .int))) (st := [fd cs sp lf dr]) f2.cl
  subst f1; subst f4
  unfold Z at e3
  have mr : ∀ sl st, mRng1 (mC (.int 2)) sl st = .ok ⟨rngD 0 2, always⟩ st := fun sl st => by rw [mr1 (x := .int 2) (st1 := st) rfl]; exact rng1_e (by decide) (by decide)
  refine ⟨[], ?_⟩
  have run : endR (b_law (startD 13 [Gs (ns.map .int)]) []) = .ok (.bool true) [fd cs sp lf dr] := by
    unfold b_law
    simp -implicitDefEqProofs [startD, e1, mkTup, mkLst, sizeLine_eq, mr, wipeD, e2, e3]
  show finR 0 (endR (b_law (startD 13 [Gs (ns.map .int)]) [])) = _
  rw [run]
  rfl
end Gstampahead_k75_logs_told
set_option Elab.async false
set_option linter.all false
set_option maxRecDepth 100000
set_option maxHeartbeats 4000000
namespace Gstampahead_k75_logs_told
open PySem PySem.Spec L2 Pv
open PyProof.Rows hiding St
def top (i : Nat) : Stmt := PySem.Challenge.pw_stampahead_k75_logs_told.main.body.getD i (.Pass ⟨0, 0, 0, 0⟩)
abbrev s__law_feed : Stmt := top 26
abbrev s__law_draw : Stmt := top 27
abbrev s__law_any : Stmt := top 28
abbrev s__law_any_tome : Stmt := top 29
abbrev s__law_bent : Stmt := top 39
abbrev s__law_is_name : Stmt := top 30
abbrev s__law_is_integer : Stmt := top 31
abbrev s__law_is_number : Stmt := top 32
abbrev s__law_is_event : Stmt := top 37
abbrev s__law_is_tuple : Stmt := top 33
abbrev s__law_is_clock : Stmt := top 34
abbrev s__law_is_way : Stmt := top 35
abbrev s__law_is_tome : Stmt := top 36
abbrev s__law_is_diary : Stmt := top 38
abbrev s_is_name : Stmt := top 5
abbrev s_is_integer : Stmt := top 3
abbrev s_is_number : Stmt := top 4
abbrev s_is_rate : Stmt := top 7
abbrev s_is_clock : Stmt := top 9
abbrev s_is_among : Stmt := top 8
abbrev s_is_link : Stmt := top 10
abbrev s_is_rule : Stmt := top 6
abbrev s_cluster_fault : Stmt := top 11
abbrev s_is_cluster : Stmt := top 12
abbrev s_is_log_head : Stmt := top 21
abbrev s_is_letter : Stmt := top 14
abbrev s_is_told : Stmt := top 16
abbrev s_is_clocked : Stmt := top 17
abbrev s_are_two : Stmt := top 15
abbrev s_is_led : Stmt := top 18
abbrev s_is_live_event : Stmt := top 19
abbrev s_is_log_form : Stmt := top 22
abbrev s_is_log : Stmt := top 24
abbrev s_law : Stmt := top 40
structure Tx (K : PySem.W.Frag) (mg : Str → Option Value) : Prop where
  d__law_feed : DefAt K mg "_law_feed" s__law_feed ["_law_script"]
  d__law_draw : DefAt K mg "_law_draw" s__law_draw ["_law_feed_here", "_law_many"]
  d__law_any : DefAt K mg "_law_any" s__law_any ["_law_feed_here", "_law_some"]
  d__law_any_tome : DefAt K mg "_law_any_tome" s__law_any_tome ["_law_feed_here"]
  d__law_bent : DefAt K mg "_law_bent" s__law_bent ["_law_feed_here", "_law_item"]
  d__law_is_name : DefAt K mg "_law_is_name" s__law_is_name ["_law_item"]
  d__law_is_integer : DefAt K mg "_law_is_integer" s__law_is_integer ["_law_item"]
  d__law_is_number : DefAt K mg "_law_is_number" s__law_is_number ["_law_item"]
  d__law_is_event : DefAt K mg "_law_is_event" s__law_is_event ["_law_item"]
  d__law_is_tuple : DefAt K mg "_law_is_tuple" s__law_is_tuple ["_law_item", "_law_size"]
  d__law_is_clock : DefAt K mg "_law_is_clock" s__law_is_clock ["_law_item"]
  d__law_is_way : DefAt K mg "_law_is_way" s__law_is_way ["_law_item", "_law_titles"]
  d__law_is_tome : DefAt K mg "_law_is_tome" s__law_is_tome ["_law_item"]
  d__law_is_diary : DefAt K mg "_law_is_diary" s__law_is_diary ["_law_item"]
  d_is_name : DefAt K mg "is_name" s_is_name ["thing"]
  d_is_integer : DefAt K mg "is_integer" s_is_integer ["thing"]
  d_is_number : DefAt K mg "is_number" s_is_number ["thing"]
  d_is_rate : DefAt K mg "is_rate" s_is_rate ["thing"]
  d_is_clock : DefAt K mg "is_clock" s_is_clock ["thing"]
  d_is_among : DefAt K mg "is_among" s_is_among ["thing", "names"]
  d_is_link : DefAt K mg "is_link" s_is_link ["names", "thing"]
  d_is_rule : DefAt K mg "is_rule" s_is_rule ["thing"]
  d_cluster_fault : DefAt K mg "cluster_fault" s_cluster_fault ["thing"]
  d_is_cluster : DefAt K mg "is_cluster" s_is_cluster ["thing"]
  d_is_log_head : DefAt K mg "is_log_head" s_is_log_head ["thing"]
  d_is_letter : DefAt K mg "is_letter" s_is_letter ["thing"]
  d_is_told : DefAt K mg "is_told" s_is_told ["parts"]
  d_is_clocked : DefAt K mg "is_clocked" s_is_clocked ["parts"]
  d_are_two : DefAt K mg "are_two" s_are_two ["one", "other"]
  d_is_led : DefAt K mg "is_led" s_is_led ["parts"]
  d_is_live_event : DefAtK K mg "is_live_event" s_is_live_event ["thing"]
  d_is_log_form : DefAt K mg "is_log_form" s_is_log_form ["thing"]
  d_is_log : DefAtK K mg "is_log" s_is_log ["thing"]
  n_all : mg "all" = none
  n_bool : mg "bool" = none
  n_enumerate : mg "enumerate" = none
  n_int : mg "int" = none
  n_isinstance : mg "isinstance" = none
  n_len : mg "len" = none
  n_list : mg "list" = none
  n_range : mg "range" = none
  n_repr : mg "repr" = none
  n_str : mg "str" = none
  n_tuple : mg "tuple" = none
  c_LETTERS : GcAt K mg "LETTERS" (.str "abcdefghijklmnopqrstuvwxyz")
  c_RULES : GcAt K mg "RULES" (Gc [.str "more", .str "wait"])
section
variable {P : Program} {w : World} {K : PySem.W.Frag} {mg : Str → Option Value} {base : Heap}
abbrev N__law_feed : List Str := ["_law_script", "_law_cell"]
theorem sc__law_feed : FnScope N__law_feed ["_law_script"] (defScope s__law_feed) := ⟨rfl, rfl, rfl, by decide +kernel, rfl, by decide +kernel, by decide +kernel⟩
theorem h__law_feed (t : Tx K mg) : Has P w K mg base 1 "_law_feed" ["_law_script"] F__law_feed := by
  obtain ⟨f, fd, hF, hm, hb⟩ := t.d__law_feed
  refine ⟨f, fd, fnG_of hF sc__law_feed (.inl rfl) ?_, hm, hF.kp, hb⟩
  intro cdv A outer s H E g hr tk po
  exact gss_one (gs_ret (ge_dct (.cons (ge_str) (ge_lc [("_law_cell", 1)] (.nm 1) g (gi_iter (ge_slice (ge_var 0) (go_none) (go_some (ge_int)))) (blkOk_by (N := N__law_feed) (sc := defScope s__law_feed) (by decide +kernel)) (fun _ _ _ _ _ gB1 => gct_name 1 gB1) (fun _ _ _ _ _ gB1 => gts_nil) (fun _ _ _ _ _ gB1 => ge_toint t.n_int (ge_var 1))) (.cons (ge_str) (ge_int) (.cons (ge_str) (ge_int) (.cons (ge_str) (ge_int) (.nil)))))))
abbrev N__law_draw : List Str := ["_law_feed_here", "_law_many", "_law_figure", "_law_spot", "_law_cells", "_law_cell", "_law_mixed"]
theorem sc__law_draw : FnScope N__law_draw ["_law_feed_here", "_law_many"] (defScope s__law_draw) := ⟨rfl, rfl, rfl, by decide +kernel, rfl, by decide +kernel, by decide +kernel⟩
theorem h__law_draw (t : Tx K mg) : Has P w K mg base 1 "_law_draw" ["_law_feed_here", "_law_many"] F__law_draw := by
  obtain ⟨f, fd, hF, hm, hb⟩ := t.d__law_draw
  refine ⟨f, fd, fnG_of hF sc__law_draw (.inr rfl) ?_, hm, hF.kp, hb⟩
  intro cdv A outer s H E g hr tk po
  exact gss_cons (gs_asg (ge_add (ge_ix g (ge_var 0) (ge_str)) (ge_int)) (gg_sub g (ge_var 0) (ge_str))) (gss_cons (gs_if (gt_cmp g (ge_ix g (ge_var 0) (ge_str)) (ge_int)) (gss_cons (gs_asg (ge_mod (ge_toint t.n_int (ge_ix g (ge_var 0) (ge_str))) (ge_var 1)) (gg_name g 2)) (gss_cons (gs_asg (ge_fdiv (ge_ix g (ge_var 0) (ge_str)) (ge_var 1)) (gg_sub g (ge_var 0) (ge_str))) (gss_one (gs_ret (ge_var 2))))) (gss_nil)) (gss_cons (gs_par2 g (i := 3) (j := 4) (ga_cons (ge_ix g (ge_var 0) (ge_str)) (ga_cons (ge_ix g (ge_var 0) (ge_str)) (ga_nil))) rfl rfl (by decide) rfl rfl rfl rfl) (gss_cons (gs_asg (ge_add (ge_var 3) (ge_int)) (gg_sub g (ge_var 0) (ge_str))) (gss_cons (gs_asg (ge_if (gt_cmp g (ge_var 4) (ge_lst (ga_nil))) (ge_ix g (ge_var 4) (ge_mod (ge_toint t.n_int (ge_var 3)) (ge_len t.n_len (ge_var 4)))) (ge_int)) (gg_name g 5)) (gss_cons (gs_if (gt_bool (gw_and (gt_cmp g (ge_var 5) (ge_pow (ge_int) (ge_int))) (gw_and1 (gt_cmp g (ge_var 3) (ge_len t.n_len (ge_var 4)))))) (gss_cons (gs_asg (ge_fdiv (ge_var 5) (ge_var 1)) (gg_sub g (ge_var 0) (ge_str))) (gss_one (gs_ret (ge_mod (ge_toint t.n_int (ge_var 5)) (ge_var 1))))) (gss_nil)) (gss_cons (gs_asg (ge_mod (ge_toint t.n_int (ge_add (ge_add (ge_mulS (ge_mod (ge_toint t.n_int (ge_var 5)) (ge_int)) (ge_int)) (ge_mulS (ge_int) (ge_ix g (ge_var 0) (ge_str)))) (ge_int))) (ge_int)) (gg_name g 6)) (gss_cons (gs_asg (ge_mod (ge_toint t.n_int (ge_add (ge_add (ge_mulS (ge_var 6) (ge_var 6)) (ge_mulS (ge_int) (ge_ix g (ge_var 0) (ge_str)))) (ge_int))) (ge_int)) (gg_name g 6)) (gss_one (gs_ret (ge_mod (ge_toint t.n_int (ge_fdiv (ge_mod (ge_toint t.n_int (ge_add (ge_mulS (ge_var 6) (ge_var 6)) (ge_mulS (ge_int) (ge_var 6)))) (ge_int)) (ge_int))) (ge_var 1)))))))))))
abbrev N__law_any : List Str := ["_law_feed_here", "_law_some"]
theorem sc__law_any : FnScope N__law_any ["_law_feed_here", "_law_some"] (defScope s__law_any) := ⟨rfl, rfl, rfl, by decide +kernel, rfl, by decide +kernel, by decide +kernel⟩
theorem h__law_any (t : Tx K mg) : Has P w K mg base 2 "_law_any" ["_law_feed_here", "_law_some"] F__law_any := by
  obtain ⟨f, fd, hF, hm, hb⟩ := t.d__law_any
  obtain ⟨f__law_draw, fd__law_draw, D__law_draw⟩ := h__law_draw (P := P) (w := w) (base := base) t
  refine ⟨f, fd, fnG_of hF sc__law_any (.inr rfl) ?_, hm, hF.kp, hb⟩
  intro cdv A outer s H E g hr tk po
  exact gss_one (gs_ret (ge_ix g (ge_var 1) (ge_call (D__law_draw.mono (by decide)) hr g tk (ga_cons (ge_var 0) (ga_cons (ge_len t.n_len (ge_var 1)) (ga_nil))) (ln_cons (ln_cons (ln_nil))))))
abbrev N__law_any_tome : List Str := ["_law_feed_here", "_law_pools", "_law_titles", "_law_offs", "_law_found", "_law_ways", "_law_title", "_law_pair", "_law_far", "_law_most"]
theorem sc__law_any_tome : FnScope N__law_any_tome ["_law_feed_here"] (defScope s__law_any_tome) := ⟨rfl, rfl, rfl, by decide +kernel, rfl, by decide +kernel, by decide +kernel⟩
theorem h__law_any_tome (t : Tx K mg) : Has P w K mg base 3 "_law_any_tome" ["_law_feed_here"] F__law_any_tome := by
  obtain ⟨f, fd, hF, hm, hb⟩ := t.d__law_any_tome
  obtain ⟨f__law_any, fd__law_any, D__law_any⟩ := h__law_any (P := P) (w := w) (base := base) t
  obtain ⟨f__law_draw, fd__law_draw, D__law_draw⟩ := h__law_draw (P := P) (w := w) (base := base) t
  refine ⟨f, fd, fnG_of hF sc__law_any_tome (.inr rfl) ?_, hm, hF.kp, hb⟩
  intro cdv A outer s H E g hr tk po
  exact gss_cons (gs_asg (ge_lst (ga_cons (ge_lst (ga_cons (ge_str) (ga_cons (ge_str) (ga_cons (ge_str) (ga_cons (ge_str) (ga_nil)))))) (ga_cons (ge_lst (ga_cons (ge_str) (ga_cons (ge_str) (ga_cons (ge_str) (ga_cons (ge_str) (ga_nil)))))) (ga_cons (ge_lst (ga_cons (ge_str) (ga_cons (ge_str) (ga_cons (ge_str) (ga_cons (ge_str) (ga_nil)))))) (ga_nil))))) (gg_name g 1)) (gss_cons (gs_asg (ge_slice (ge_call (D__law_any.mono (by decide)) hr g tk (ga_cons (ge_var 0) (ga_cons (ge_add (ge_var 1) (ge_lst (ga_cons (ge_lst (ga_cons (ge_str) (ga_cons (ge_str) (ga_cons (ge_str) (ga_cons (ge_str) (ga_nil)))))) (ga_nil)))) (ga_nil))) (ln_cons (ln_cons (ln_nil)))) (go_none) (go_some (ge_add (ge_int) (ge_call (D__law_draw.mono (by decide)) hr g tk (ga_cons (ge_var 0) (ga_cons (ge_int) (ga_nil))) (ln_cons (ln_cons (ln_nil))))))) (gg_name g 2)) (gss_cons (gs_par3 g (i := 3) (j := 4) (l := 5) (ga_cons (ge_call (D__law_any.mono (by decide)) hr g tk (ga_cons (ge_var 0) (ga_cons (ge_lst (ga_cons (ge_lst (ga_cons (ge_int) (ga_cons (ge_int) (ga_cons (ge_int) (ga_cons (ge_int) (ga_nil)))))) (ga_cons (ge_lst (ga_cons (ge_int) (ga_cons (ge_int) (ga_cons (ge_int) (ga_cons (ge_int) (ga_nil)))))) (ga_cons (ge_lst (ga_cons (ge_int) (ga_cons (ge_int) (ga_cons (ge_int) (ga_cons (ge_int) (ga_nil)))))) (ga_nil))))) (ga_nil))) (ln_cons (ln_cons (ln_nil)))) (ga_cons (ge_lstM (ga_nil)) (ga_cons (ge_lstM (ga_nil)) (ga_nil)))) rfl rfl rfl (by decide) (by decide) (by decide) rfl rfl rfl rfl rfl) (gss_cons (gs_for [6, 7] g po (gi_iter (ge_var 2)) (gg_name g 6) (gss_cons (gs_asg (ge_tup (ga_cons (ge_call (D__law_any.mono (by decide)) hr g tk (ga_cons (ge_var 0) (ga_cons (ge_var 3) (ga_nil))) (ln_cons (ln_cons (ln_nil)))) (ga_cons (ge_call (D__law_any.mono (by decide)) hr g tk (ga_cons (ge_var 0) (ga_cons (ge_var 3) (ga_nil))) (ln_cons (ln_cons (ln_nil)))) (ga_nil)))) (gg_name g 7)) (gss_one (gs_expr (ge_append (ge_var 4) (ge_add (ge_add (ge_tup (ga_cons (ge_var 6) (ga_nil))) (ge_var 7)) (ge_tup (ga_cons (ge_add (ge_int) (ge_call (D__law_draw.mono (by decide)) hr g tk (ga_cons (ge_var 0) (ga_cons (ge_int) (ga_nil))) (ln_cons (ln_cons (ln_nil))))) (ga_nil))))))))) (gss_cons (gs_for [6, 8] g po (gi_iter (ge_var 2)) (gg_name g 6) (gss_one (gs_for [8] g po (gi_iter (ge_var 2)) (gg_name g 8) (gss_one (gs_if (gt_bool (gw_and (gt_cmp g (ge_var 8) (ge_var 6)) (gw_and1 (gt_cmp g (ge_call (D__law_draw.mono (by decide)) hr g tk (ga_cons (ge_var 0) (ga_cons (ge_int) (ga_nil))) (ln_cons (ln_cons (ln_nil)))) (ge_int))))) (gss_one (gs_expr (ge_append (ge_var 5) (ge_tup (ga_cons (ge_var 6) (ga_cons (ge_var 8) (ga_cons (ge_call (D__law_any.mono (by decide)) hr g tk (ga_cons (ge_var 0) (ga_cons (ge_lst (ga_cons (ge_int) (ga_cons (ge_int) (ga_cons (ge_int) (ga_cons (ge_int) (ga_cons (ge_int) (ga_cons (ge_int) (ga_nil)))))))) (ga_nil))) (ln_cons (ln_cons (ln_nil)))) (ga_nil)))))))) (gss_nil)))))) (gss_cons (gs_asg (ge_call (D__law_any.mono (by decide)) hr g tk (ga_cons (ge_var 0) (ga_cons (ge_lst (ga_cons (ge_none) (ga_cons (ge_int) (ga_cons (ge_int) (ga_cons (ge_int) (ga_cons (ge_int) (ga_cons (ge_int) (ga_cons (ge_int) (ga_nil))))))))) (ga_nil))) (ln_cons (ln_cons (ln_nil)))) (gg_name g 9)) (gss_one (gs_ret (ge_tup (ga_cons (ge_totuple t.n_tuple (ge_var 4)) (ga_cons (ge_totuple t.n_tuple (ge_var 5)) (ga_cons (ge_var 9) (ga_cons (ge_if (gt_isN (ge_var 9)) (ge_str) (ge_call (D__law_any.mono (by decide)) hr g tk (ga_cons (ge_var 0) (ga_cons (ge_lst (ga_cons (ge_str) (ga_cons (ge_str) (ga_nil)))) (ga_nil))) (ln_cons (ln_cons (ln_nil))))) (ga_nil)))))))))))))
abbrev N__law_bent : List Str := ["_law_feed_here", "_law_item", "_law_k", "_law_some", "_law_lot", "_law_odd"]
theorem sc__law_bent : FnScope N__law_bent ["_law_feed_here", "_law_item"] (defScope s__law_bent) := ⟨rfl, rfl, rfl, by decide +kernel, rfl, by decide +kernel, by decide +kernel⟩
theorem h__law_bent (t : Tx K mg) : Has P w K mg base 27 "_law_bent" ["_law_feed_here", "_law_item"] (F__law_bent 24) := by
  obtain ⟨f, fd, hF, hm, hb⟩ := t.d__law_bent
  obtain ⟨f__law_draw, fd__law_draw, D__law_draw⟩ := h__law_draw (P := P) (w := w) (base := base) t
  obtain ⟨f__law_any, fd__law_any, D__law_any⟩ := h__law_any (P := P) (w := w) (base := base) t
  have all : ∀ k : Nat, FnG P w K mg base (k + 3) f fd ["_law_feed_here", "_law_item"] (F__law_bent k) := by
    intro k
    induction k with
    | zero => exact fnG_bad
    | succ k ih =>
      have D__law_bent : Df P w K mg base (k + 3) "_law_bent" f fd ["_law_feed_here", "_law_item"] (F__law_bent k) := ⟨ih, hm, hF.kp, hb⟩
      rw [show k + 1 + 3 = (k + 3) + 1 by omega]
      refine fnG_of hF sc__law_bent (.inr rfl) ?_
      intro cdv A outer s H E g hr tk po
      exact gss_cons (gs_if (gt_bool (gw_and (gt_val (ge_isi .tuple t.n_isinstance t.n_tuple (ge_var 1))) (gw_and (gt_cmp g (ge_var 1) (ge_tup (ga_nil))) (gw_and1 (gt_cmp g (ge_call (D__law_draw.mono (by omega)) hr g tk (ga_cons (ge_var 0) (ga_cons (ge_int) (ga_nil))) (ln_cons (ln_cons (ln_nil)))) (ge_int)))))) (gss_cons (gs_asg (ge_call (D__law_draw.mono (by omega)) hr g tk (ga_cons (ge_var 0) (ga_cons (ge_len t.n_len (ge_var 1)) (ga_nil))) (ln_cons (ln_cons (ln_nil)))) (gg_name g 2)) (gss_one (gs_ret (ge_add (ge_add (ge_slice (ge_var 1) (go_none) (go_some (ge_var 2))) (ge_tup (ga_cons (ge_call (D__law_bent.mono (by omega)) hr g tk (ga_cons (ge_var 0) (ga_cons (ge_ix g (ge_var 1) (ge_var 2)) (ga_nil))) (ln_cons (ln_cons (ln_nil)))) (ga_nil)))) (ge_slice (ge_var 1) (go_some (ge_add (ge_var 2) (ge_int))) (go_none)))))) (gss_nil)) (gss_cons (gs_asg (ge_lst (ga_cons (ge_none) (ga_cons (ge_bool) (ga_cons (ge_int) (ga_cons (ge_int) (ga_cons (ge_int) (ga_cons (ge_neg (ge_int)) (ga_cons (ge_str) (ga_cons (ge_str) (ga_cons (ge_str) (ga_cons (ge_str) (ga_cons (ge_str) (ga_cons (ge_str) (ga_cons (ge_str) (ga_cons (ge_tup (ga_nil)) (ga_cons (ge_lst (ga_nil)) (ga_cons (ge_tup (ga_cons (ge_str) (ga_nil))) (ga_nil)))))))))))))))))) (gg_name g 3)) (gss_cons (gs_asg (ge_add (ge_var 3) (ge_lst (ga_cons (ge_pow (ge_int) (ge_int)) (ga_cons (ge_str) (ga_cons (ge_str) (ga_nil)))))) (gg_name g 3)) (gss_cons (gs_asg (ge_add (ge_var 3) (ge_lst (ga_cons (ge_tup (ga_cons (ge_str) (ga_cons (ge_str) (ga_cons (ge_str) (ga_nil))))) (ga_cons (ge_tup (ga_cons (ge_str) (ga_cons (ge_int) (ga_cons (ge_int) (ga_cons (ge_int) (ga_nil)))))) (ga_cons (ge_tup (ga_cons (ge_str) (ga_cons (ge_str) (ga_cons (ge_int) (ga_nil))))) (ga_cons (ge_tup (ga_cons (ge_str) (ga_cons (ge_str) (ga_cons (ge_int) (ga_cons (ge_neg (ge_int)) (ga_cons (ge_none) (ga_nil))))))) (ga_nil))))))) (gg_name g 3)) (gss_cons (gs_asg (ge_add (ge_var 3) (ge_lst (ga_cons (ge_str) (ga_cons (ge_bool) (ga_nil))))) (gg_name g 3)) (gss_cons (gs_par2 g (i := 4) (j := 5) (ga_cons (ge_call (D__law_draw.mono (by omega)) hr g tk (ga_cons (ge_var 0) (ga_cons (ge_int) (ga_nil))) (ln_cons (ln_cons (ln_nil)))) (ga_cons (ge_call (D__law_any.mono (by omega)) hr g tk (ga_cons (ge_var 0) (ga_cons (ge_var 3) (ga_nil))) (ln_cons (ln_cons (ln_nil)))) (ga_nil))) rfl rfl (by decide) rfl rfl rfl rfl) (gss_cons (gs_if (gt_bool (gw_and (gt_val (ge_isi .tuple t.n_isinstance t.n_tuple (ge_var 1))) (gw_and1 (gt_cmp g (ge_var 4) (ge_int))))) (gss_cons (gs_asg (ge_call (D__law_draw.mono (by omega)) hr g tk (ga_cons (ge_var 0) (ga_cons (ge_add (ge_len t.n_len (ge_var 1)) (ge_int)) (ga_nil))) (ln_cons (ln_cons (ln_nil)))) (gg_name g 2)) (gss_cons (gs_if (gt_cmp g (ge_var 4) (ge_int)) (gss_one (gs_ret (ge_tolist t.n_list (ge_var 1)))) (gss_nil)) (gss_cons (gs_if (gt_cmp g (ge_var 4) (ge_int)) (gss_one (gs_ret (ge_add (ge_slice (ge_var 1) (go_none) (go_some (ge_var 2))) (ge_slice (ge_var 1) (go_some (ge_add (ge_var 2) (ge_int))) (go_none))))) (gss_nil)) (gss_cons (gs_if (gt_cmp g (ge_var 4) (ge_int)) (gss_one (gs_ret (ge_add (ge_add (ge_slice (ge_var 1) (go_none) (go_some (ge_var 2))) (ge_slice (ge_var 1) (go_some (ge_var 2)) (go_some (ge_add (ge_var 2) (ge_int))))) (ge_slice (ge_var 1) (go_some (ge_var 2)) (go_none))))) (gss_nil)) (gss_one (gs_ret (ge_if (gt_cmp g (ge_var 4) (ge_int)) (ge_add (ge_add (ge_slice (ge_var 1) (go_none) (go_some (ge_var 2))) (ge_tup (ga_cons (ge_var 5) (ga_nil)))) (ge_slice (ge_var 1) (go_some (ge_var 2)) (go_none))) (ge_rev (ge_var 1))))))))) (gss_nil)) (gss_cons (gs_if (gt_bool (gw_and (gt_val (ge_isi .str t.n_isinstance t.n_str (ge_var 1))) (gw_and1 (gt_cmp g (ge_var 4) (ge_int))))) (gss_one (gs_ret (ge_add (ge_var 1) (ge_call (D__law_any.mono (by omega)) hr g tk (ga_cons (ge_var 0) (ga_cons (ge_lst (ga_cons (ge_str) (ga_cons (ge_str) (ga_cons (ge_str) (ga_cons (ge_str) (ga_cons (ge_str) (ga_nil))))))) (ga_nil))) (ln_cons (ln_cons (ln_nil))))))) (gss_nil)) (gss_cons (gs_if (gt_bool (gw_and (gt_val (ge_isi .int t.n_isinstance t.n_int (ge_var 1))) (gw_and1 (gt_cmp g (ge_var 4) (ge_int))))) (gss_one (gs_ret (ge_add (ge_var 1) (ge_call (D__law_any.mono (by omega)) hr g tk (ga_cons (ge_var 0) (ga_cons (ge_lst (ga_cons (ge_int) (ga_cons (ge_neg (ge_int)) (ga_cons (ge_neg (ge_int)) (ga_nil))))) (ga_nil))) (ln_cons (ln_cons (ln_nil))))))) (gss_nil)) (gss_one (gs_ret (ge_var 5)))))))))))
  exact ⟨f, fd, (all 24).mono (by omega), hm, hF.kp, hb⟩
abbrev N__law_is_name : List Str := ["_law_item", "_law_sign"]
theorem sc__law_is_name : FnScope N__law_is_name ["_law_item"] (defScope s__law_is_name) := ⟨rfl, rfl, rfl, by decide +kernel, rfl, by decide +kernel, by decide +kernel⟩
theorem h__law_is_name (t : Tx K mg) : Has P w K mg base 1 "_law_is_name" ["_law_item"] F__law_is_name := by
  obtain ⟨f, fd, hF, hm, hb⟩ := t.d__law_is_name
  refine ⟨f, fd, fnG_of hF sc__law_is_name (.inr rfl) ?_, hm, hF.kp, hb⟩
  intro cdv A outer s H E g hr tk po
  exact gss_cons (gs_if (gt_bool (gw_or (gt_not (gt_val (ge_isi .str t.n_isinstance t.n_str (ge_var 0)))) (gw_or1 (gt_not (gt_chain g (ge_int) (ge_len t.n_len (ge_var 0)) (ge_int)))))) (gss_one (gs_ret (ge_bool))) (gss_nil)) (gss_one (gs_ret (ge_cmp g (ge_lc [("_law_sign", 1)] (.nm 1) g (gi_iter (ge_var 0)) (blkOk_by (N := N__law_is_name) (sc := defScope s__law_is_name) (by decide +kernel)) (fun _ _ _ _ _ gB1 => gct_name 1 gB1) (fun _ _ _ _ _ gB1 => gts_one (gt_cmp gB1 (ge_var 1) (ge_str))) (fun _ _ _ _ _ gB1 => ge_var 1)) (ge_lst (ga_nil)))))
abbrev N__law_is_integer : List Str := ["_law_item"]
theorem sc__law_is_integer : FnScope N__law_is_integer ["_law_item"] (defScope s__law_is_integer) := ⟨rfl, rfl, rfl, by decide +kernel, rfl, by decide +kernel, by decide +kernel⟩
theorem h__law_is_integer (t : Tx K mg) : Has P w K mg base 1 "_law_is_integer" ["_law_item"] F__law_is_integer := by
  obtain ⟨f, fd, hF, hm, hb⟩ := t.d__law_is_integer
  refine ⟨f, fd, fnG_of hF sc__law_is_integer (.inr rfl) ?_, hm, hF.kp, hb⟩
  intro cdv A outer s H E g hr tk po
  exact gss_one (gs_ret (ge_and (ge_isi .int t.n_isinstance t.n_int (ge_var 0)) (ge_one (ge_not (ge_isi .bool t.n_isinstance t.n_bool (ge_var 0))))))
abbrev N__law_is_number : List Str := ["_law_item"]
theorem sc__law_is_number : FnScope N__law_is_number ["_law_item"] (defScope s__law_is_number) := ⟨rfl, rfl, rfl, by decide +kernel, rfl, by decide +kernel, by decide +kernel⟩
theorem h__law_is_number (t : Tx K mg) : Has P w K mg base 2 "_law_is_number" ["_law_item"] F__law_is_number := by
  obtain ⟨f, fd, hF, hm, hb⟩ := t.d__law_is_number
  obtain ⟨f__law_is_integer, fd__law_is_integer, D__law_is_integer⟩ := h__law_is_integer (P := P) (w := w) (base := base) t
  refine ⟨f, fd, fnG_of hF sc__law_is_number (.inr rfl) ?_, hm, hF.kp, hb⟩
  intro cdv A outer s H E g hr tk po
  exact gss_one (gs_ret (ge_and (ge_call (D__law_is_integer.mono (by decide)) hr g tk (ga_cons (ge_var 0) (ga_nil)) (ln_cons (ln_nil))) (ge_one (ge_cmp g (ge_var 0) (ge_int)))))
abbrev N__law_is_event : List Str := ["_law_item", "_law_is_fine"]
theorem sc__law_is_event : FnScope N__law_is_event ["_law_item"] (defScope s__law_is_event) := ⟨rfl, rfl, rfl, by decide +kernel, rfl, by decide +kernel, by decide +kernel⟩
theorem h__law_is_event (t : Tx K mg) : Has P w K mg base 3 "_law_is_event" ["_law_item"] F__law_is_event := by
  obtain ⟨f, fd, hF, hm, hb⟩ := t.d__law_is_event
  obtain ⟨f__law_is_name, fd__law_is_name, D__law_is_name⟩ := h__law_is_name (P := P) (w := w) (base := base) t
  obtain ⟨f__law_is_integer, fd__law_is_integer, D__law_is_integer⟩ := h__law_is_integer (P := P) (w := w) (base := base) t
  obtain ⟨f__law_is_number, fd__law_is_number, D__law_is_number⟩ := h__law_is_number (P := P) (w := w) (base := base) t
  refine ⟨f, fd, fnG_of hF sc__law_is_event (.inr rfl) ?_, hm, hF.kp, hb⟩
  intro cdv A outer s H E g hr tk po
  exact gss_cons (gs_if (gt_bool (gw_or (gt_not (gt_val (ge_isi .tuple t.n_isinstance t.n_tuple (ge_var 0)))) (gw_or1 (gt_cmp g (ge_len t.n_len (ge_var 0)) (ge_int))))) (gss_one (gs_ret (ge_bool))) (gss_nil)) (gss_cons (gs_if (gt_bool (gw_or (gt_not (gt_val (ge_isi .str t.n_isinstance t.n_str (ge_ix g (ge_var 0) (ge_int))))) (gw_or1 (gt_not (gt_val (ge_call (D__law_is_name.mono (by decide)) hr g tk (ga_cons (ge_ix g (ge_var 0) (ge_int)) (ga_nil)) (ln_cons (ln_nil)))))))) (gss_one (gs_ret (ge_bool))) (gss_nil)) (gss_cons (gs_if (gt_bool (gw_and (gt_cmp g (ge_ix g (ge_var 0) (ge_int)) (ge_str)) (gw_and1 (gt_cmp g (ge_len t.n_len (ge_var 0)) (ge_int))))) (gss_cons (gs_asg (ge_and (ge_call (D__law_is_integer.mono (by decide)) hr g tk (ga_cons (ge_ix g (ge_var 0) (ge_int)) (ga_nil)) (ln_cons (ln_nil))) (ge_one (ge_call (D__law_is_integer.mono (by decide)) hr g tk (ga_cons (ge_ix g (ge_var 0) (ge_int)) (ga_nil)) (ln_cons (ln_nil))))) (gg_name g 1)) (gss_one (gs_ret (ge_and (ge_var 1) (ge_one (ge_or (ge_isN (ge_ix g (ge_var 0) (ge_int))) (ge_one (ge_call (D__law_is_number.mono (by decide)) hr g tk (ga_cons (ge_ix g (ge_var 0) (ge_int)) (ga_nil)) (ln_cons (ln_nil)))))))))) (gss_nil)) (gss_cons (gs_if (gt_bool (gw_and (gt_cmp g (ge_ix g (ge_var 0) (ge_int)) (ge_str)) (gw_and1 (gt_cmp g (ge_len t.n_len (ge_var 0)) (ge_int))))) (gss_one (gs_ret (ge_and (ge_call (D__law_is_number.mono (by decide)) hr g tk (ga_cons (ge_ix g (ge_var 0) (ge_int)) (ga_nil)) (ln_cons (ln_nil))) (ge_one (ge_call (D__law_is_number.mono (by decide)) hr g tk (ga_cons (ge_ix g (ge_var 0) (ge_int)) (ga_nil)) (ln_cons (ln_nil))))))) (gss_nil)) (gss_cons (gs_if (gt_bool (gw_or (gt_not (gt_val (ge_call (D__law_is_name.mono (by decide)) hr g tk (ga_cons (ge_ix g (ge_var 0) (ge_int)) (ga_nil)) (ln_cons (ln_nil))))) (gw_or1 (gt_cmp g (ge_ix g (ge_var 0) (ge_int)) (ge_ix g (ge_var 0) (ge_int)))))) (gss_one (gs_ret (ge_bool))) (gss_nil)) (gss_cons (gs_if (gt_cmp g (ge_ix g (ge_var 0) (ge_int)) (ge_str)) (gss_one (gs_ret (ge_cmp g (ge_len t.n_len (ge_var 0)) (ge_int)))) (gss_nil)) (gss_one (gs_ret (ge_and (ge_cmp g (ge_ix g (ge_var 0) (ge_int)) (ge_str)) (ge_and (ge_cmp g (ge_len t.n_len (ge_var 0)) (ge_int)) (ge_one (ge_call (D__law_is_number.mono (by decide)) hr g tk (ga_cons (ge_ix g (ge_var 0) (ge_int)) (ga_nil)) (ln_cons (ln_nil)))))))))))))
abbrev N__law_is_tuple : List Str := ["_law_item", "_law_size"]
theorem sc__law_is_tuple : FnScope N__law_is_tuple ["_law_item", "_law_size"] (defScope s__law_is_tuple) := ⟨rfl, rfl, rfl, by decide +kernel, rfl, by decide +kernel, by decide +kernel⟩
theorem h__law_is_tuple (t : Tx K mg) : Has P w K mg base 1 "_law_is_tuple" ["_law_item", "_law_size"] F__law_is_tuple := by
  obtain ⟨f, fd, hF, hm, hb⟩ := t.d__law_is_tuple
  refine ⟨f, fd, fnG_of hF sc__law_is_tuple (.inr rfl) ?_, hm, hF.kp, hb⟩
  intro cdv A outer s H E g hr tk po
  exact gss_one (gs_ret (ge_and (ge_isi .tuple t.n_isinstance t.n_tuple (ge_var 0)) (ge_one (ge_cmp g (ge_len t.n_len (ge_var 0)) (ge_var 1)))))
abbrev N__law_is_clock : List Str := ["_law_item"]
theorem sc__law_is_clock : FnScope N__law_is_clock ["_law_item"] (defScope s__law_is_clock) := ⟨rfl, rfl, rfl, by decide +kernel, rfl, by decide +kernel, by decide +kernel⟩
theorem h__law_is_clock (t : Tx K mg) : Has P w K mg base 3 "_law_is_clock" ["_law_item"] F__law_is_clock := by
  obtain ⟨f, fd, hF, hm, hb⟩ := t.d__law_is_clock
  obtain ⟨f__law_is_tuple, fd__law_is_tuple, D__law_is_tuple⟩ := h__law_is_tuple (P := P) (w := w) (base := base) t
  obtain ⟨f__law_is_name, fd__law_is_name, D__law_is_name⟩ := h__law_is_name (P := P) (w := w) (base := base) t
  obtain ⟨f__law_is_number, fd__law_is_number, D__law_is_number⟩ := h__law_is_number (P := P) (w := w) (base := base) t
  obtain ⟨f__law_is_integer, fd__law_is_integer, D__law_is_integer⟩ := h__law_is_integer (P := P) (w := w) (base := base) t
  refine ⟨f, fd, fnG_of hF sc__law_is_clock (.inr rfl) ?_, hm, hF.kp, hb⟩
  intro cdv A outer s H E g hr tk po
  exact gss_cons (gs_if (gt_bool (gw_or (gt_not (gt_val (ge_call (D__law_is_tuple.mono (by decide)) hr g tk (ga_cons (ge_var 0) (ga_cons (ge_int) (ga_nil))) (ln_cons (ln_cons (ln_nil)))))) (gw_or (gt_not (gt_val (ge_call (D__law_is_name.mono (by decide)) hr g tk (ga_cons (ge_ix g (ge_var 0) (ge_int)) (ga_nil)) (ln_cons (ln_nil))))) (gw_or1 (gt_not (gt_val (ge_call (D__law_is_number.mono (by decide)) hr g tk (ga_cons (ge_ix g (ge_var 0) (ge_int)) (ga_nil)) (ln_cons (ln_nil))))))))) (gss_one (gs_ret (ge_bool))) (gss_nil)) (gss_one (gs_ret (ge_and (ge_call (D__law_is_number.mono (by decide)) hr g tk (ga_cons (ge_ix g (ge_var 0) (ge_int)) (ga_nil)) (ln_cons (ln_nil))) (ge_and (ge_call (D__law_is_integer.mono (by decide)) hr g tk (ga_cons (ge_ix g (ge_var 0) (ge_int)) (ga_nil)) (ln_cons (ln_nil))) (ge_one (ge_cmp g (ge_ix g (ge_var 0) (ge_int)) (ge_int)))))))
abbrev N__law_is_way : List Str := ["_law_item", "_law_titles"]
theorem sc__law_is_way : FnScope N__law_is_way ["_law_item", "_law_titles"] (defScope s__law_is_way) := ⟨rfl, rfl, rfl, by decide +kernel, rfl, by decide +kernel, by decide +kernel⟩
theorem h__law_is_way (t : Tx K mg) : Has P w K mg base 3 "_law_is_way" ["_law_item", "_law_titles"] F__law_is_way := by
  obtain ⟨f, fd, hF, hm, hb⟩ := t.d__law_is_way
  obtain ⟨f__law_is_tuple, fd__law_is_tuple, D__law_is_tuple⟩ := h__law_is_tuple (P := P) (w := w) (base := base) t
  obtain ⟨f__law_is_name, fd__law_is_name, D__law_is_name⟩ := h__law_is_name (P := P) (w := w) (base := base) t
  obtain ⟨f__law_is_number, fd__law_is_number, D__law_is_number⟩ := h__law_is_number (P := P) (w := w) (base := base) t
  refine ⟨f, fd, fnG_of hF sc__law_is_way (.inr rfl) ?_, hm, hF.kp, hb⟩
  intro cdv A outer s H E g hr tk po
  exact gss_cons (gs_if (gt_bool (gw_or (gt_not (gt_val (ge_call (D__law_is_tuple.mono (by decide)) hr g tk (ga_cons (ge_var 0) (ga_cons (ge_int) (ga_nil))) (ln_cons (ln_cons (ln_nil)))))) (gw_or (gt_not (gt_val (ge_call (D__law_is_name.mono (by decide)) hr g tk (ga_cons (ge_ix g (ge_var 0) (ge_int)) (ga_nil)) (ln_cons (ln_nil))))) (gw_or1 (gt_not (gt_val (ge_call (D__law_is_name.mono (by decide)) hr g tk (ga_cons (ge_ix g (ge_var 0) (ge_int)) (ga_nil)) (ln_cons (ln_nil))))))))) (gss_one (gs_ret (ge_bool))) (gss_nil)) (gss_one (gs_ret (ge_and (ge_cmp g (ge_ix g (ge_var 0) (ge_int)) (ge_var 1)) (ge_and (ge_cmp g (ge_ix g (ge_var 0) (ge_int)) (ge_var 1)) (ge_and (ge_cmp g (ge_ix g (ge_var 0) (ge_int)) (ge_ix g (ge_var 0) (ge_int))) (ge_one (ge_call (D__law_is_number.mono (by decide)) hr g tk (ga_cons (ge_ix g (ge_var 0) (ge_int)) (ga_nil)) (ln_cons (ln_nil)))))))))
abbrev N__law_is_tome : List Str := ["_law_item", "_law_clocks", "_law_ways", "_law_most", "_law_rule_in", "_law_titles", "_law_far", "_law_k"]
theorem sc__law_is_tome : FnScope N__law_is_tome ["_law_item"] (defScope s__law_is_tome) := ⟨rfl, rfl, rfl, by decide +kernel, rfl, by decide +kernel, by decide +kernel⟩
theorem h__law_is_tome (t : Tx K mg) : Has P w K mg base 4 "_law_is_tome" ["_law_item"] F__law_is_tome := by
  obtain ⟨f, fd, hF, hm, hb⟩ := t.d__law_is_tome
  obtain ⟨f__law_is_tuple, fd__law_is_tuple, D__law_is_tuple⟩ := h__law_is_tuple (P := P) (w := w) (base := base) t
  obtain ⟨f__law_is_clock, fd__law_is_clock, D__law_is_clock⟩ := h__law_is_clock (P := P) (w := w) (base := base) t
  obtain ⟨f__law_is_way, fd__law_is_way, D__law_is_way⟩ := h__law_is_way (P := P) (w := w) (base := base) t
  obtain ⟨f__law_is_number, fd__law_is_number, D__law_is_number⟩ := h__law_is_number (P := P) (w := w) (base := base) t
  refine ⟨f, fd, fnG_of hF sc__law_is_tome (.inr rfl) ?_, hm, hF.kp, hb⟩
  intro cdv A outer s H E g hr tk po
  exact gss_cons (gs_if (gt_bool (gw_or (gt_not (gt_val (ge_call (D__law_is_tuple.mono (by decide)) hr g tk (ga_cons (ge_var 0) (ga_cons (ge_int) (ga_nil))) (ln_cons (ln_cons (ln_nil)))))) (gw_or (gt_not (gt_val (ge_isi .tuple t.n_isinstance t.n_tuple (ge_ix g (ge_var 0) (ge_int))))) (gw_or1 (gt_not (gt_val (ge_isi .tuple t.n_isinstance t.n_tuple (ge_ix g (ge_var 0) (ge_int))))))))) (gss_one (gs_ret (ge_bool))) (gss_nil)) (gss_cons (gs_asg (ge_var 0) (gg_tup g (ggs_cons (gg_name g 1) (ggs_cons (gg_name g 2) (ggs_cons (gg_name g 3) (ggs_cons (gg_name g 4) (ggs_nil))))))) (gss_cons (gs_if (gt_bool (gw_or (gt_cmp g (ge_var 1) (ge_tup (ga_nil))) (gw_or1 (gt_cmp g (ge_lc [("_law_far", 6)] (.nm 6) g (gi_iter (ge_var 1)) (blkOk_by (N := N__law_is_tome) (sc := defScope s__law_is_tome) (by decide +kernel)) (fun _ _ _ _ _ gB1 => gct_name 6 gB1) (fun _ _ _ _ _ gB1 => gts_one (gt_not (gt_val (ge_call (D__law_is_clock.mono (by decide)) hr gB1 takes0 (ga_cons (ge_var 6) (ga_nil)) (ln_cons (ln_nil)))))) (fun _ _ _ _ _ gB1 => ge_var 6)) (ge_lst (ga_nil)))))) (gss_one (gs_ret (ge_bool))) (gss_nil)) (gss_cons (gs_asg (ge_lc [("_law_far", 6)] (.nm 6) g (gi_iter (ge_var 1)) (blkOk_by (N := N__law_is_tome) (sc := defScope s__law_is_tome) (by decide +kernel)) (fun _ _ _ _ _ gB2 => gct_name 6 gB2) (fun _ _ _ _ _ gB2 => gts_nil) (fun _ _ _ _ _ gB2 => ge_ix gB2 (ge_var 6) (ge_int))) (gg_name g 5)) (gss_cons (gs_if (gt_cmp g (ge_lc [("_law_k", 7)] (.nm 7) g (gi_range2 t.n_range (ge_int) (ge_len t.n_len (ge_var 5))) (blkOk_by (N := N__law_is_tome) (sc := defScope s__law_is_tome) (by decide +kernel)) (fun _ _ _ _ _ gB3 => gct_name 7 gB3) (fun _ _ _ _ _ gB3 => gts_one (gt_cmp gB3 (ge_ix gB3 (ge_var 5) (ge_sub (ge_var 7) (ge_int))) (ge_ix gB3 (ge_var 5) (ge_var 7)))) (fun _ _ _ _ _ gB3 => ge_var 7)) (ge_lst (ga_nil))) (gss_one (gs_ret (ge_bool))) (gss_nil)) (gss_cons (gs_if (gt_cmp g (ge_lc [("_law_far", 6)] (.nm 6) g (gi_iter (ge_var 2)) (blkOk_by (N := N__law_is_tome) (sc := defScope s__law_is_tome) (by decide +kernel)) (fun _ _ _ _ _ gB4 => gct_name 6 gB4) (fun _ _ _ _ _ gB4 => gts_one (gt_not (gt_val (ge_call (D__law_is_way.mono (by decide)) hr gB4 takes0 (ga_cons (ge_var 6) (ga_cons (ge_var 5) (ga_nil))) (ln_cons (ln_cons (ln_nil))))))) (fun _ _ _ _ _ gB4 => ge_var 6)) (ge_lst (ga_nil))) (gss_one (gs_ret (ge_bool))) (gss_nil)) (gss_cons (gs_if (gt_cmp g (ge_lc [("_law_k", 7)] (.nm 7) g (gi_range2 t.n_range (ge_int) (ge_len t.n_len (ge_var 2))) (blkOk_by (N := N__law_is_tome) (sc := defScope s__law_is_tome) (by decide +kernel)) (fun _ _ _ _ _ gB5 => gct_name 7 gB5) (fun _ _ _ _ _ gB5 => gts_one (gt_cmp gB5 (ge_slice (ge_ix gB5 (ge_var 2) (ge_sub (ge_var 7) (ge_int))) (go_none) (go_some (ge_int))) (ge_slice (ge_ix gB5 (ge_var 2) (ge_var 7)) (go_none) (go_some (ge_int))))) (fun _ _ _ _ _ gB5 => ge_var 7)) (ge_lst (ga_nil))) (gss_one (gs_ret (ge_bool))) (gss_nil)) (gss_cons (gs_if (gt_bool (gw_or (gt_bool (gw_and (gt_notN (ge_var 3)) (gw_and1 (gt_not (gt_val (ge_call (D__law_is_number.mono (by decide)) hr g tk (ga_cons (ge_var 3) (ga_nil)) (ln_cons (ln_nil)))))))) (gw_or1 (gt_not (gt_val (ge_isi .str t.n_isinstance t.n_str (ge_var 4))))))) (gss_one (gs_ret (ge_bool))) (gss_nil)) (gss_one (gs_ret (ge_or (ge_cmp g (ge_var 4) (ge_str)) (ge_one (ge_and (ge_cmp g (ge_var 4) (ge_str)) (ge_one (ge_notN (ge_var 3)))))))))))))))
abbrev N__law_is_diary : List Str := ["_law_item", "_law_far"]
theorem sc__law_is_diary : FnScope N__law_is_diary ["_law_item"] (defScope s__law_is_diary) := ⟨rfl, rfl, rfl, by decide +kernel, rfl, by decide +kernel, by decide +kernel⟩
theorem h__law_is_diary (t : Tx K mg) : Has P w K mg base 5 "_law_is_diary" ["_law_item"] F__law_is_diary := by
  obtain ⟨f, fd, hF, hm, hb⟩ := t.d__law_is_diary
  obtain ⟨f__law_is_event, fd__law_is_event, D__law_is_event⟩ := h__law_is_event (P := P) (w := w) (base := base) t
  obtain ⟨f__law_is_tuple, fd__law_is_tuple, D__law_is_tuple⟩ := h__law_is_tuple (P := P) (w := w) (base := base) t
  obtain ⟨f__law_is_tome, fd__law_is_tome, D__law_is_tome⟩ := h__law_is_tome (P := P) (w := w) (base := base) t
  refine ⟨f, fd, fnG_of hF sc__law_is_diary (.inr rfl) ?_, hm, hF.kp, hb⟩
  intro cdv A outer s H E g hr tk po
  exact gss_cons (gs_if (gt_bool (gw_or (gt_not (gt_val (ge_isi .tuple t.n_isinstance t.n_tuple (ge_var 0)))) (gw_or (gt_cmp g (ge_var 0) (ge_tup (ga_nil))) (gw_or1 (gt_cmp g (ge_lc [("_law_far", 1)] (.nm 1) g (gi_iter (ge_slice (ge_var 0) (go_some (ge_int)) (go_none))) (blkOk_by (N := N__law_is_diary) (sc := defScope s__law_is_diary) (by decide +kernel)) (fun _ _ _ _ _ gB1 => gct_name 1 gB1) (fun _ _ _ _ _ gB1 => gts_one (gt_not (gt_val (ge_call (D__law_is_event.mono (by decide)) hr gB1 takes0 (ga_cons (ge_var 1) (ga_nil)) (ln_cons (ln_nil)))))) (fun _ _ _ _ _ gB1 => ge_var 1)) (ge_lst (ga_nil))))))) (gss_one (gs_ret (ge_bool))) (gss_nil)) (gss_cons (gs_if (gt_bool (gw_or (gt_not (gt_val (ge_call (D__law_is_tuple.mono (by decide)) hr g tk (ga_cons (ge_ix g (ge_var 0) (ge_int)) (ga_cons (ge_int) (ga_nil))) (ln_cons (ln_cons (ln_nil)))))) (gw_or1 (gt_not (gt_val (ge_isi .str t.n_isinstance t.n_str (ge_ix g (ge_ix g (ge_var 0) (ge_int)) (ge_int)))))))) (gss_one (gs_ret (ge_bool))) (gss_nil)) (gss_one (gs_ret (ge_and (ge_cmp g (ge_ix g (ge_ix g (ge_var 0) (ge_int)) (ge_int)) (ge_str)) (ge_one (ge_call (D__law_is_tome.mono (by decide)) hr g tk (ga_cons (ge_ix g (ge_ix g (ge_var 0) (ge_int)) (ge_int)) (ga_nil)) (ln_cons (ln_nil))))))))
abbrev N_is_name : List Str := ["thing", "sign"]
theorem sc_is_name : FnScope N_is_name ["thing"] (defScope s_is_name) := ⟨rfl, rfl, rfl, by decide +kernel, rfl, by decide +kernel, by decide +kernel⟩
theorem h_is_name (t : Tx K mg) : Has P w K mg base 1 "is_name" ["thing"] F_is_name := by
  obtain ⟨f, fd, hF, hm, hb⟩ := t.d_is_name
  obtain ⟨u_LETTERS, v_LETTERS, hc_LETTERS, rr_LETTERS, gi_LETTERS⟩ := t.c_LETTERS
  refine ⟨f, fd, fnG_of hF sc_is_name (.inr rfl) ?_, hm, hF.kp, hb⟩
  intro cdv A outer s H E g hr tk po
  exact gss_one (gs_ret (ge_and (ge_isi .str t.n_isinstance t.n_str (ge_var 0)) (ge_and (ge_chain g (ge_int) (ge_len t.n_len (ge_var 0)) (ge_int)) (ge_one (ge_all g t.n_all (ge_lc [("sign", 1)] (.nm 1) g (gi_iter (ge_var 0)) (blkOk_by (N := N_is_name) (sc := defScope s_is_name) (by decide +kernel)) (fun _ _ _ _ _ gB1 => gct_name 1 gB1) (fun _ _ _ _ _ gB1 => gts_nil) (fun _ _ _ _ _ gB1 => ge_cmp gB1 (ge_var 1) (ge_glob rfl hc_LETTERS rr_LETTERS gi_LETTERS))))))))
abbrev N_is_integer : List Str := ["thing"]
theorem sc_is_integer : FnScope N_is_integer ["thing"] (defScope s_is_integer) := ⟨rfl, rfl, rfl, by decide +kernel, rfl, by decide +kernel, by decide +kernel⟩
theorem h_is_integer (t : Tx K mg) : Has P w K mg base 1 "is_integer" ["thing"] F_is_integer := by
  obtain ⟨f, fd, hF, hm, hb⟩ := t.d_is_integer
  refine ⟨f, fd, fnG_of hF sc_is_integer (.inr rfl) ?_, hm, hF.kp, hb⟩
  intro cdv A outer s H E g hr tk po
  exact gss_one (gs_ret (ge_and (ge_isi .int t.n_isinstance t.n_int (ge_var 0)) (ge_one (ge_not (ge_isi .bool t.n_isinstance t.n_bool (ge_var 0))))))
abbrev N_is_number : List Str := ["thing"]
theorem sc_is_number : FnScope N_is_number ["thing"] (defScope s_is_number) := ⟨rfl, rfl, rfl, by decide +kernel, rfl, by decide +kernel, by decide +kernel⟩
theorem h_is_number (t : Tx K mg) : Has P w K mg base 2 "is_number" ["thing"] F_is_number := by
  obtain ⟨f, fd, hF, hm, hb⟩ := t.d_is_number
  obtain ⟨f_is_integer, fd_is_integer, D_is_integer⟩ := h_is_integer (P := P) (w := w) (base := base) t
  refine ⟨f, fd, fnG_of hF sc_is_number (.inr rfl) ?_, hm, hF.kp, hb⟩
  intro cdv A outer s H E g hr tk po
  exact gss_one (gs_ret (ge_and (ge_call (D_is_integer.mono (by decide)) hr g tk (ga_cons (ge_var 0) (ga_nil)) (ln_cons (ln_nil))) (ge_one (ge_cmp g (ge_var 0) (ge_int)))))
abbrev N_is_rate : List Str := ["thing"]
theorem sc_is_rate : FnScope N_is_rate ["thing"] (defScope s_is_rate) := ⟨rfl, rfl, rfl, by decide +kernel, rfl, by decide +kernel, by decide +kernel⟩
theorem h_is_rate (t : Tx K mg) : Has P w K mg base 3 "is_rate" ["thing"] F_is_rate := by
  obtain ⟨f, fd, hF, hm, hb⟩ := t.d_is_rate
  obtain ⟨f_is_number, fd_is_number, D_is_number⟩ := h_is_number (P := P) (w := w) (base := base) t
  refine ⟨f, fd, fnG_of hF sc_is_rate (.inr rfl) ?_, hm, hF.kp, hb⟩
  intro cdv A outer s H E g hr tk po
  exact gss_one (gs_ret (ge_and (ge_call (D_is_number.mono (by decide)) hr g tk (ga_cons (ge_var 0) (ga_nil)) (ln_cons (ln_nil))) (ge_one (ge_cmp g (ge_var 0) (ge_int)))))
abbrev N_is_clock : List Str := ["thing"]
theorem sc_is_clock : FnScope N_is_clock ["thing"] (defScope s_is_clock) := ⟨rfl, rfl, rfl, by decide +kernel, rfl, by decide +kernel, by decide +kernel⟩
theorem h_is_clock (t : Tx K mg) : Has P w K mg base 4 "is_clock" ["thing"] F_is_clock := by
  obtain ⟨f, fd, hF, hm, hb⟩ := t.d_is_clock
  obtain ⟨f_is_name, fd_is_name, D_is_name⟩ := h_is_name (P := P) (w := w) (base := base) t
  obtain ⟨f_is_number, fd_is_number, D_is_number⟩ := h_is_number (P := P) (w := w) (base := base) t
  obtain ⟨f_is_rate, fd_is_rate, D_is_rate⟩ := h_is_rate (P := P) (w := w) (base := base) t
  refine ⟨f, fd, fnG_of hF sc_is_clock (.inr rfl) ?_, hm, hF.kp, hb⟩
  intro cdv A outer s H E g hr tk po
  exact gss_cons (gs_if (gt_bool (gw_or (gt_not (gt_val (ge_isi .tuple t.n_isinstance t.n_tuple (ge_var 0)))) (gw_or (gt_cmp g (ge_len t.n_len (ge_var 0)) (ge_int)) (gw_or1 (gt_not (gt_val (ge_call (D_is_name.mono (by decide)) hr g tk (ga_cons (ge_ix g (ge_var 0) (ge_int)) (ga_nil)) (ln_cons (ln_nil))))))))) (gss_one (gs_ret (ge_bool))) (gss_nil)) (gss_one (gs_ret (ge_and (ge_call (D_is_number.mono (by decide)) hr g tk (ga_cons (ge_ix g (ge_var 0) (ge_int)) (ga_nil)) (ln_cons (ln_nil))) (ge_and (ge_call (D_is_number.mono (by decide)) hr g tk (ga_cons (ge_ix g (ge_var 0) (ge_int)) (ga_nil)) (ln_cons (ln_nil))) (ge_one (ge_call (D_is_rate.mono (by decide)) hr g tk (ga_cons (ge_ix g (ge_var 0) (ge_int)) (ga_nil)) (ln_cons (ln_nil))))))))
abbrev N_is_among : List Str := ["thing", "names"]
theorem sc_is_among : FnScope N_is_among ["thing", "names"] (defScope s_is_among) := ⟨rfl, rfl, rfl, by decide +kernel, rfl, by decide +kernel, by decide +kernel⟩
theorem h_is_among (t : Tx K mg) : Has P w K mg base 1 "is_among" ["thing", "names"] F_is_among := by
  obtain ⟨f, fd, hF, hm, hb⟩ := t.d_is_among
  refine ⟨f, fd, fnG_of hF sc_is_among (.inr rfl) ?_, hm, hF.kp, hb⟩
  intro cdv A outer s H E g hr tk po
  exact gss_one (gs_ret (ge_and (ge_isi .str t.n_isinstance t.n_str (ge_var 0)) (ge_one (ge_cmp g (ge_var 0) (ge_var 1)))))
abbrev N_is_link : List Str := ["names", "thing"]
theorem sc_is_link : FnScope N_is_link ["names", "thing"] (defScope s_is_link) := ⟨rfl, rfl, rfl, by decide +kernel, rfl, by decide +kernel, by decide +kernel⟩
theorem h_is_link (t : Tx K mg) : Has P w K mg base 3 "is_link" ["names", "thing"] F_is_link := by
  obtain ⟨f, fd, hF, hm, hb⟩ := t.d_is_link
  obtain ⟨f_is_among, fd_is_among, D_is_among⟩ := h_is_among (P := P) (w := w) (base := base) t
  obtain ⟨f_is_number, fd_is_number, D_is_number⟩ := h_is_number (P := P) (w := w) (base := base) t
  refine ⟨f, fd, fnG_of hF sc_is_link (.inr rfl) ?_, hm, hF.kp, hb⟩
  intro cdv A outer s H E g hr tk po
  exact gss_cons (gs_if (gt_bool (gw_or (gt_not (gt_val (ge_isi .tuple t.n_isinstance t.n_tuple (ge_var 1)))) (gw_or (gt_cmp g (ge_len t.n_len (ge_var 1)) (ge_int)) (gw_or1 (gt_not (gt_val (ge_call (D_is_among.mono (by decide)) hr g tk (ga_cons (ge_ix g (ge_var 1) (ge_int)) (ga_cons (ge_var 0) (ga_nil))) (ln_cons (ln_cons (ln_nil)))))))))) (gss_one (gs_ret (ge_bool))) (gss_nil)) (gss_one (gs_ret (ge_and (ge_call (D_is_among.mono (by decide)) hr g tk (ga_cons (ge_ix g (ge_var 1) (ge_int)) (ga_cons (ge_var 0) (ga_nil))) (ln_cons (ln_cons (ln_nil)))) (ge_and (ge_cmp g (ge_ix g (ge_var 1) (ge_int)) (ge_ix g (ge_var 1) (ge_int))) (ge_one (ge_call (D_is_number.mono (by decide)) hr g tk (ga_cons (ge_ix g (ge_var 1) (ge_int)) (ga_nil)) (ln_cons (ln_nil))))))))
abbrev N_is_rule : List Str := ["thing"]
theorem sc_is_rule : FnScope N_is_rule ["thing"] (defScope s_is_rule) := ⟨rfl, rfl, rfl, by decide +kernel, rfl, by decide +kernel, by decide +kernel⟩
theorem h_is_rule (t : Tx K mg) : Has P w K mg base 1 "is_rule" ["thing"] F_is_rule := by
  obtain ⟨f, fd, hF, hm, hb⟩ := t.d_is_rule
  obtain ⟨u_RULES, v_RULES, hc_RULES, rr_RULES, gi_RULES⟩ := t.c_RULES
  refine ⟨f, fd, fnG_of hF sc_is_rule (.inr rfl) ?_, hm, hF.kp, hb⟩
  intro cdv A outer s H E g hr tk po
  exact gss_one (gs_ret (ge_and (ge_isi .str t.n_isinstance t.n_str (ge_var 0)) (ge_one (ge_cmp g (ge_var 0) (ge_glob rfl hc_RULES rr_RULES gi_RULES)))))
abbrev N_cluster_fault : List Str := ["thing", "clocks", "links", "most", "rule", "k", "one", "names"]
theorem sc_cluster_fault : FnScope N_cluster_fault ["thing"] (defScope s_cluster_fault) := ⟨rfl, rfl, rfl, by decide +kernel, rfl, by decide +kernel, by decide +kernel⟩
theorem h_cluster_fault (t : Tx K mg) : Has P w K mg base 5 "cluster_fault" ["thing"] F_cluster_fault := by
  obtain ⟨f, fd, hF, hm, hb⟩ := t.d_cluster_fault
  obtain ⟨f_is_clock, fd_is_clock, D_is_clock⟩ := h_is_clock (P := P) (w := w) (base := base) t
  obtain ⟨f_is_link, fd_is_link, D_is_link⟩ := h_is_link (P := P) (w := w) (base := base) t
  obtain ⟨f_is_number, fd_is_number, D_is_number⟩ := h_is_number (P := P) (w := w) (base := base) t
  obtain ⟨f_is_rule, fd_is_rule, D_is_rule⟩ := h_is_rule (P := P) (w := w) (base := base) t
  refine ⟨f, fd, fnG_of hF sc_cluster_fault (.inr rfl) ?_, hm, hF.kp, hb⟩
  intro cdv A outer s H E g hr tk po
  exact gss_cons (gs_if (gt_bool (gw_or (gt_not (gt_val (ge_isi .tuple t.n_isinstance t.n_tuple (ge_var 0)))) (gw_or1 (gt_cmp g (ge_len t.n_len (ge_var 0)) (ge_int))))) (gss_one (gs_ret (ge_tup (ga_cons (ge_str) (ga_cons (ge_neg (ge_int)) (ga_nil)))))) (gss_nil)) (gss_cons (gs_asg (ge_var 0) (gg_tup g (ggs_cons (gg_name g 1) (ggs_cons (gg_name g 2) (ggs_cons (gg_name g 3) (ggs_cons (gg_name g 4) (ggs_nil))))))) (gss_cons (gs_if (gt_bool (gw_or (gt_not (gt_val (ge_isi .tuple t.n_isinstance t.n_tuple (ge_var 1)))) (gw_or (gt_not (gt_val (ge_isi .tuple t.n_isinstance t.n_tuple (ge_var 2)))) (gw_or1 (gt_cmp g (ge_len t.n_len (ge_var 1)) (ge_int)))))) (gss_one (gs_ret (ge_tup (ga_cons (ge_str) (ga_cons (ge_neg (ge_int)) (ga_nil)))))) (gss_nil)) (gss_cons (gs_for [5, 6] g po (gi_enum t.n_enumerate (ge_var 1)) (gg_tup g (ggs_cons (gg_name g 5) (ggs_cons (gg_name g 6) (ggs_nil)))) (gss_one (gs_if (gt_bool (gw_or (gt_not (gt_val (ge_call (D_is_clock.mono (by decide)) hr g tk (ga_cons (ge_var 6) (ga_nil)) (ln_cons (ln_nil))))) (gw_or1 (gt_bool (gw_and (gt_cmp g (ge_var 5) (ge_int)) (gw_and1 (gt_not (gt_cmp g (ge_ix g (ge_ix g (ge_var 1) (ge_sub (ge_var 5) (ge_int))) (ge_int)) (ge_ix g (ge_var 6) (ge_int)))))))))) (gss_one (gs_ret (ge_tup (ga_cons (ge_str) (ga_cons (ge_var 5) (ga_nil)))))) (gss_nil)))) (gss_cons (gs_setLc (i := 7) [("one", 6)] (.nm 6) g rfl rfl (sw_true rfl rfl rfl (by decide +kernel)) (gi_iter (ge_var 1)) (blkOk_by (N := N_cluster_fault) (sc := defScope s_cluster_fault) (by decide +kernel)) (fun _ _ _ _ _ gB1 => gct_name 6 gB1) (fun _ _ _ _ _ gB1 => gts_nil) (fun _ _ _ _ _ gB1 => ge_ix gB1 (ge_var 6) (ge_int))) (gss_cons (gs_for [5, 6] g po (gi_enum t.n_enumerate (ge_var 2)) (gg_tup g (ggs_cons (gg_name g 5) (ggs_cons (gg_name g 6) (ggs_nil)))) (gss_one (gs_if (gt_bool (gw_or (gt_not (gt_val (ge_call (D_is_link.mono (by decide)) hr g tk (ga_cons (ge_var 7) (ga_cons (ge_var 6) (ga_nil))) (ln_cons (ln_cons (ln_nil)))))) (gw_or1 (gt_bool (gw_and (gt_cmp g (ge_var 5) (ge_int)) (gw_and1 (gt_not (gt_cmp g (ge_slice (ge_ix g (ge_var 2) (ge_sub (ge_var 5) (ge_int))) (go_none) (go_some (ge_int))) (ge_slice (ge_var 6) (go_none) (go_some (ge_int))))))))))) (gss_one (gs_ret (ge_tup (ga_cons (ge_str) (ga_cons (ge_var 5) (ga_nil)))))) (gss_nil)))) (gss_cons (gs_if (gt_bool (gw_and (gt_notN (ge_var 3)) (gw_and1 (gt_not (gt_val (ge_call (D_is_number.mono (by decide)) hr g tk (ga_cons (ge_var 3) (ga_nil)) (ln_cons (ln_nil)))))))) (gss_one (gs_ret (ge_tup (ga_cons (ge_str) (ga_cons (ge_neg (ge_int)) (ga_nil)))))) (gss_nil)) (gss_one (gs_ret (ge_if (gt_bool (gw_and (gt_val (ge_call (D_is_rule.mono (by decide)) hr g tk (ga_cons (ge_var 4) (ga_nil)) (ln_cons (ln_nil)))) (gw_and1 (gt_bool (gw_or (gt_notN (ge_var 3)) (gw_or1 (gt_cmp g (ge_var 4) (ge_str)))))))) (ge_none) (ge_tup (ga_cons (ge_str) (ga_cons (ge_neg (ge_int)) (ga_nil)))))))))))))
abbrev N_is_cluster : List Str := ["thing"]
theorem sc_is_cluster : FnScope N_is_cluster ["thing"] (defScope s_is_cluster) := ⟨rfl, rfl, rfl, by decide +kernel, rfl, by decide +kernel, by decide +kernel⟩
theorem h_is_cluster (t : Tx K mg) : Has P w K mg base 6 "is_cluster" ["thing"] F_is_cluster := by
  obtain ⟨f, fd, hF, hm, hb⟩ := t.d_is_cluster
  obtain ⟨f_cluster_fault, fd_cluster_fault, D_cluster_fault⟩ := h_cluster_fault (P := P) (w := w) (base := base) t
  refine ⟨f, fd, fnG_of hF sc_is_cluster (.inr rfl) ?_, hm, hF.kp, hb⟩
  intro cdv A outer s H E g hr tk po
  exact gss_one (gs_ret (ge_isN (ge_call (D_cluster_fault.mono (by decide)) hr g tk (ga_cons (ge_var 0) (ga_nil)) (ln_cons (ln_nil)))))
abbrev N_is_log_head : List Str := ["thing"]
theorem sc_is_log_head : FnScope N_is_log_head ["thing"] (defScope s_is_log_head) := ⟨rfl, rfl, rfl, by decide +kernel, rfl, by decide +kernel, by decide +kernel⟩
theorem h_is_log_head (t : Tx K mg) : Has P w K mg base 7 "is_log_head" ["thing"] F_is_log_head := by
  obtain ⟨f, fd, hF, hm, hb⟩ := t.d_is_log_head
  obtain ⟨f_is_cluster, fd_is_cluster, D_is_cluster⟩ := h_is_cluster (P := P) (w := w) (base := base) t
  refine ⟨f, fd, fnG_of hF sc_is_log_head (.inr rfl) ?_, hm, hF.kp, hb⟩
  intro cdv A outer s H E g hr tk po
  exact gss_cons (gs_if (gt_bool (gw_or (gt_not (gt_val (ge_isi .tuple t.n_isinstance t.n_tuple (ge_var 0)))) (gw_or (gt_cmp g (ge_len t.n_len (ge_var 0)) (ge_int)) (gw_or1 (gt_not (gt_val (ge_isi .str t.n_isinstance t.n_str (ge_ix g (ge_var 0) (ge_int))))))))) (gss_one (gs_ret (ge_bool))) (gss_nil)) (gss_one (gs_ret (ge_and (ge_cmp g (ge_ix g (ge_var 0) (ge_int)) (ge_str)) (ge_one (ge_call (D_is_cluster.mono (by decide)) hr g tk (ga_cons (ge_ix g (ge_var 0) (ge_int)) (ga_nil)) (ln_cons (ln_nil)))))))
abbrev N_is_letter : List Str := ["thing"]
theorem sc_is_letter : FnScope N_is_letter ["thing"] (defScope s_is_letter) := ⟨rfl, rfl, rfl, by decide +kernel, rfl, by decide +kernel, by decide +kernel⟩
theorem h_is_letter (t : Tx K mg) : Has P w K mg base 3 "is_letter" ["thing"] F_is_letter := by
  obtain ⟨f, fd, hF, hm, hb⟩ := t.d_is_letter
  obtain ⟨f_is_number, fd_is_number, D_is_number⟩ := h_is_number (P := P) (w := w) (base := base) t
  refine ⟨f, fd, fnG_of hF sc_is_letter (.inr rfl) ?_, hm, hF.kp, hb⟩
  intro cdv A outer s H E g hr tk po
  exact gss_one (gs_ret (ge_or (ge_isN (ge_var 0)) (ge_one (ge_call (D_is_number.mono (by decide)) hr g tk (ga_cons (ge_var 0) (ga_nil)) (ln_cons (ln_nil))))))
abbrev N_is_told : List Str := ["parts", "host", "tick", "reading", "letter"]
theorem sc_is_told : FnScope N_is_told ["parts"] (defScope s_is_told) := ⟨rfl, rfl, rfl, by decide +kernel, rfl, by decide +kernel, by decide +kernel⟩
theorem h_is_told (t : Tx K mg) : Has P w K mg base 4 "is_told" ["parts"] F_is_told := by
  obtain ⟨f, fd, hF, hm, hb⟩ := t.d_is_told
  obtain ⟨f_is_name, fd_is_name, D_is_name⟩ := h_is_name (P := P) (w := w) (base := base) t
  obtain ⟨f_is_integer, fd_is_integer, D_is_integer⟩ := h_is_integer (P := P) (w := w) (base := base) t
  obtain ⟨f_is_letter, fd_is_letter, D_is_letter⟩ := h_is_letter (P := P) (w := w) (base := base) t
  refine ⟨f, fd, fnG_of hF sc_is_told (.inr rfl) ?_, hm, hF.kp, hb⟩
  intro cdv A outer s H E g hr tk po
  exact gss_cons (gs_asg (ge_var 0) (gg_tup g (ggs_cons (gg_name g 1) (ggs_cons (gg_name g 2) (ggs_cons (gg_name g 3) (ggs_cons (gg_name g 4) (ggs_nil))))))) (gss_one (gs_ret (ge_and (ge_call (D_is_name.mono (by decide)) hr g tk (ga_cons (ge_var 1) (ga_nil)) (ln_cons (ln_nil))) (ge_and (ge_call (D_is_integer.mono (by decide)) hr g tk (ga_cons (ge_var 2) (ga_nil)) (ln_cons (ln_nil))) (ge_and (ge_call (D_is_integer.mono (by decide)) hr g tk (ga_cons (ge_var 3) (ga_nil)) (ln_cons (ln_nil))) (ge_one (ge_call (D_is_letter.mono (by decide)) hr g tk (ga_cons (ge_var 4) (ga_nil)) (ln_cons (ln_nil)))))))))
abbrev N_is_clocked : List Str := ["parts", "host", "slow", "fast"]
theorem sc_is_clocked : FnScope N_is_clocked ["parts"] (defScope s_is_clocked) := ⟨rfl, rfl, rfl, by decide +kernel, rfl, by decide +kernel, by decide +kernel⟩
theorem h_is_clocked (t : Tx K mg) : Has P w K mg base 3 "is_clocked" ["parts"] F_is_clocked := by
  obtain ⟨f, fd, hF, hm, hb⟩ := t.d_is_clocked
  obtain ⟨f_is_name, fd_is_name, D_is_name⟩ := h_is_name (P := P) (w := w) (base := base) t
  obtain ⟨f_is_number, fd_is_number, D_is_number⟩ := h_is_number (P := P) (w := w) (base := base) t
  refine ⟨f, fd, fnG_of hF sc_is_clocked (.inr rfl) ?_, hm, hF.kp, hb⟩
  intro cdv A outer s H E g hr tk po
  exact gss_cons (gs_asg (ge_var 0) (gg_tup g (ggs_cons (gg_name g 1) (ggs_cons (gg_name g 2) (ggs_cons (gg_name g 3) (ggs_nil)))))) (gss_one (gs_ret (ge_and (ge_call (D_is_name.mono (by decide)) hr g tk (ga_cons (ge_var 1) (ga_nil)) (ln_cons (ln_nil))) (ge_and (ge_call (D_is_number.mono (by decide)) hr g tk (ga_cons (ge_var 2) (ga_nil)) (ln_cons (ln_nil))) (ge_one (ge_call (D_is_number.mono (by decide)) hr g tk (ga_cons (ge_var 3) (ga_nil)) (ln_cons (ln_nil))))))))
abbrev N_are_two : List Str := ["one", "other"]
theorem sc_are_two : FnScope N_are_two ["one", "other"] (defScope s_are_two) := ⟨rfl, rfl, rfl, by decide +kernel, rfl, by decide +kernel, by decide +kernel⟩
theorem h_are_two (t : Tx K mg) : Has P w K mg base 2 "are_two" ["one", "other"] F_are_two := by
  obtain ⟨f, fd, hF, hm, hb⟩ := t.d_are_two
  obtain ⟨f_is_name, fd_is_name, D_is_name⟩ := h_is_name (P := P) (w := w) (base := base) t
  refine ⟨f, fd, fnG_of hF sc_are_two (.inr rfl) ?_, hm, hF.kp, hb⟩
  intro cdv A outer s H E g hr tk po
  exact gss_one (gs_ret (ge_and (ge_call (D_is_name.mono (by decide)) hr g tk (ga_cons (ge_var 0) (ga_nil)) (ln_cons (ln_nil))) (ge_and (ge_call (D_is_name.mono (by decide)) hr g tk (ga_cons (ge_var 1) (ga_nil)) (ln_cons (ln_nil))) (ge_one (ge_cmp g (ge_var 0) (ge_var 1))))))
abbrev N_is_led : List Str := ["parts", "one", "other", "least"]
theorem sc_is_led : FnScope N_is_led ["parts"] (defScope s_is_led) := ⟨rfl, rfl, rfl, by decide +kernel, rfl, by decide +kernel, by decide +kernel⟩
theorem h_is_led (t : Tx K mg) : Has P w K mg base 3 "is_led" ["parts"] F_is_led := by
  obtain ⟨f, fd, hF, hm, hb⟩ := t.d_is_led
  obtain ⟨f_are_two, fd_are_two, D_are_two⟩ := h_are_two (P := P) (w := w) (base := base) t
  obtain ⟨f_is_number, fd_is_number, D_is_number⟩ := h_is_number (P := P) (w := w) (base := base) t
  refine ⟨f, fd, fnG_of hF sc_is_led (.inr rfl) ?_, hm, hF.kp, hb⟩
  intro cdv A outer s H E g hr tk po
  exact gss_cons (gs_asg (ge_var 0) (gg_tup g (ggs_cons (gg_name g 1) (ggs_cons (gg_name g 2) (ggs_cons (gg_name g 3) (ggs_nil)))))) (gss_one (gs_ret (ge_and (ge_call (D_are_two.mono (by decide)) hr g tk (ga_cons (ge_var 1) (ga_cons (ge_var 2) (ga_nil))) (ln_cons (ln_cons (ln_nil)))) (ge_one (ge_call (D_is_number.mono (by decide)) hr g tk (ga_cons (ge_var 3) (ga_nil)) (ln_cons (ln_nil)))))))
abbrev N_is_live_event : List Str := ["thing", "head", "many"]
theorem sc_is_live_event : FnScope N_is_live_event ["thing"] (defScope s_is_live_event) := ⟨rfl, rfl, rfl, by decide +kernel, rfl, by decide +kernel, by decide +kernel⟩
theorem hk_is_live_event (t : Tx K mg) : HasK P w K mg base 5 "is_live_event" ["thing"] F_is_live_event := by
  obtain ⟨f, fd, hF, hm, hb, hk⟩ := t.d_is_live_event
  obtain ⟨f_is_told, fd_is_told, D_is_told⟩ := h_is_told (P := P) (w := w) (base := base) t
  obtain ⟨f_is_clocked, fd_is_clocked, D_is_clocked⟩ := h_is_clocked (P := P) (w := w) (base := base) t
  obtain ⟨f_is_led, fd_is_led, D_is_led⟩ := h_is_led (P := P) (w := w) (base := base) t
  obtain ⟨f_are_two, fd_are_two, D_are_two⟩ := h_are_two (P := P) (w := w) (base := base) t
  refine ⟨f, fd, ⟨fnG_of hF sc_is_live_event (.inr rfl) ?_, hm, hF.kp, hb⟩, hk⟩
  intro cdv A outer s H E g hr tk po
  exact gss_cons (gs_if (gt_bool (gw_or (gt_not (gt_val (ge_isi .tuple t.n_isinstance t.n_tuple (ge_var 0)))) (gw_or (gt_cmp g (ge_len t.n_len (ge_var 0)) (ge_int)) (gw_or1 (gt_not (gt_val (ge_isi .str t.n_isinstance t.n_str (ge_ix g (ge_var 0) (ge_int))))))))) (gss_one (gs_ret (ge_bool))) (gss_nil)) (gss_cons (gs_par2 g (i := 1) (j := 2) (ga_cons (ge_ix g (ge_var 0) (ge_int)) (ga_cons (ge_len t.n_len (ge_var 0)) (ga_nil))) rfl rfl (by decide) rfl rfl rfl rfl) (gss_cons (gs_if (gt_cmp g (ge_var 1) (ge_str)) (gss_one (gs_ret (ge_and (ge_cmp g (ge_var 2) (ge_int)) (ge_one (ge_call (D_is_told.mono (by decide)) hr g tk (ga_cons (ge_slice (ge_var 0) (go_some (ge_int)) (go_none)) (ga_nil)) (ln_cons (ln_nil))))))) (gss_nil)) (gss_cons (gs_if (gt_cmp g (ge_var 1) (ge_str)) (gss_one (gs_ret (ge_and (ge_cmp g (ge_var 2) (ge_int)) (ge_one (ge_call (D_is_clocked.mono (by decide)) hr g tk (ga_cons (ge_slice (ge_var 0) (go_some (ge_int)) (go_none)) (ga_nil)) (ln_cons (ln_nil))))))) (gss_nil)) (gss_cons (gs_if (gt_cmp g (ge_var 1) (ge_str)) (gss_one (gs_ret (ge_and (ge_cmp g (ge_var 2) (ge_int)) (ge_one (ge_call (D_is_led.mono (by decide)) hr g tk (ga_cons (ge_slice (ge_var 0) (go_some (ge_int)) (go_none)) (ga_nil)) (ln_cons (ln_nil))))))) (gss_nil)) (gss_one (gs_ret (ge_and (ge_cmp g (ge_var 1) (ge_str)) (ge_and (ge_cmp g (ge_var 2) (ge_int)) (ge_one (ge_call (D_are_two.mono (by decide)) hr g tk (ga_cons (ge_ix g (ge_var 0) (ge_int)) (ga_cons (ge_ix g (ge_var 0) (ge_int)) (ga_nil))) (ln_cons (ln_cons (ln_nil)))))))))))))
theorem h_is_live_event (t : Tx K mg) : Has P w K mg base 5 "is_live_event" ["thing"] F_is_live_event := (hk_is_live_event t).plain
abbrev N_is_log_form : List Str := ["thing", "one"]
theorem sc_is_log_form : FnScope N_is_log_form ["thing"] (defScope s_is_log_form) := ⟨rfl, rfl, rfl, by decide +kernel, rfl, by decide +kernel, by decide +kernel⟩
theorem h_is_log_form (t : Tx K mg) : Has P w K mg base 8 "is_log_form" ["thing"] F_is_log_form := by
  obtain ⟨f, fd, hF, hm, hb⟩ := t.d_is_log_form
  obtain ⟨f_is_log_head, fd_is_log_head, D_is_log_head⟩ := h_is_log_head (P := P) (w := w) (base := base) t
  obtain ⟨f_is_live_event, fd_is_live_event, D_is_live_event, BK_is_live_event⟩ := hk_is_live_event (P := P) (w := w) (base := base) t
  refine ⟨f, fd, fnG_of hF sc_is_log_form (.inr rfl) ?_, hm, hF.kp, hb⟩
  intro cdv A outer s H E g hr tk po
  exact gss_cons (gs_if (gt_bool (gw_or (gt_not (gt_val (ge_isi .tuple t.n_isinstance t.n_tuple (ge_var 0)))) (gw_or (gt_cmp g (ge_len t.n_len (ge_var 0)) (ge_int)) (gw_or1 (gt_not (gt_val (ge_call (D_is_log_head.mono (by decide)) hr g tk (ga_cons (ge_ix g (ge_var 0) (ge_int)) (ga_nil)) (ln_cons (ln_nil))))))))) (gss_one (gs_ret (ge_bool))) (gss_nil)) (gss_one (gs_ret (ge_all g t.n_all (ge_lc [("one", 1)] (.nm 1) g (gi_iter (ge_slice (ge_var 0) (go_some (ge_int)) (go_none))) (blkOk_by (N := N_is_log_form) (sc := defScope s_is_log_form) (by decide +kernel)) (fun _ _ _ _ _ gB1 => gct_name 1 gB1) (fun _ _ _ _ _ gB1 => gts_nil) (fun _ _ _ _ _ gB1 => ge_call (D_is_live_event.mono (by decide)) hr gB1 takes0 (ga_cons (ge_var 1) (ga_nil)) (ln_cons (ln_nil)))))))
abbrev N_is_log : List Str := ["thing"]
theorem sc_is_log : FnScope N_is_log ["thing"] (defScope s_is_log) := ⟨rfl, rfl, rfl, by decide +kernel, rfl, by decide +kernel, by decide +kernel⟩
theorem hk_is_log (t : Tx K mg) : HasK P w K mg base 9 "is_log" ["thing"] F_is_log := by
  obtain ⟨f, fd, hF, hm, hb, hk⟩ := t.d_is_log
  obtain ⟨f_is_log_form, fd_is_log_form, D_is_log_form⟩ := h_is_log_form (P := P) (w := w) (base := base) t
  refine ⟨f, fd, ⟨fnG_of hF sc_is_log (.inr rfl) ?_, hm, hF.kp, hb⟩, hk⟩
  intro cdv A outer s H E g hr tk po
  exact gss_one (gs_ret (ge_call (D_is_log_form.mono (by decide)) hr g tk (ga_cons (ge_var 0) (ga_nil)) (ln_cons (ln_nil))))
theorem h_is_log (t : Tx K mg) : Has P w K mg base 9 "is_log" ["thing"] F_is_log := (hk_is_log t).plain
abbrev N_law : List Str := ["_law_script", "_law_feed_here", "_law_some", "_law_lap", "_law_tome", "_law_menu", "_law_diary", "_law_turn", "_law_once", "_law_late", "_law_item", "_law_kept", "_law_due"]
theorem sc_law : FnScope N_law ["_law_script"] (defScope s_law) := ⟨rfl, rfl, rfl, by decide +kernel, rfl, by decide +kernel, by decide +kernel⟩
theorem h_law (t : Tx K mg) {f : Addr} {fd : FuncData} (hF : Fun K "law" "law" s_law f fd) : FnG P w K mg base 28 f fd ["_law_script"] F_law := by
  obtain ⟨f__law_feed, fd__law_feed, D__law_feed⟩ := h__law_feed (P := P) (w := w) (base := base) t
  obtain ⟨f__law_any_tome, fd__law_any_tome, D__law_any_tome⟩ := h__law_any_tome (P := P) (w := w) (base := base) t
  obtain ⟨f__law_draw, fd__law_draw, D__law_draw⟩ := h__law_draw (P := P) (w := w) (base := base) t
  obtain ⟨f__law_any, fd__law_any, D__law_any⟩ := h__law_any (P := P) (w := w) (base := base) t
  obtain ⟨f__law_bent, fd__law_bent, D__law_bent⟩ := h__law_bent (P := P) (w := w) (base := base) t
  obtain ⟨f__law_is_diary, fd__law_is_diary, D__law_is_diary⟩ := h__law_is_diary (P := P) (w := w) (base := base) t
  obtain ⟨f__law_is_event, fd__law_is_event, D__law_is_event⟩ := h__law_is_event (P := P) (w := w) (base := base) t
  obtain ⟨f_is_log, fd_is_log, D_is_log, BK_is_log⟩ := hk_is_log (P := P) (w := w) (base := base) t
  obtain ⟨f_is_live_event, fd_is_live_event, D_is_live_event, BK_is_live_event⟩ := hk_is_live_event (P := P) (w := w) (base := base) t
  refine fnG_of hF sc_law (.inr rfl) ?_
  intro cdv A outer s H E g hr tk po
  exact gss_cons (gs_asg (ge_call (D__law_feed.mono (by decide)) hr g tk (ga_cons (ge_var 0) (ga_nil)) (ln_cons (ln_nil))) (gg_name g 1)) (gss_cons (gs_asg (ge_lst (ga_cons (ge_none) (ga_cons (ge_tup (ga_nil)) (ga_cons (ge_int) (ga_cons (ge_str) (ga_cons (ge_tup (ga_cons (ge_str) (ga_nil))) (ga_cons (ge_tup (ga_cons (ge_tup (ga_cons (ge_str) (ga_nil))) (ga_nil))) (ga_cons (ge_lst (ga_nil)) (ga_cons (ge_tup (ga_cons (ge_none) (ga_nil))) (ga_cons (ge_tup (ga_cons (ge_tup (ga_cons (ge_str) (ga_cons (ge_tup (ga_nil)) (ga_nil)))) (ga_nil))) (ga_nil))))))))))) (gg_name g 2)) (gss_cons (gs_for [3, 4, 5, 6, 7, 8, 9] g po (gi_range1 t.n_range (ge_int)) (gg_name g 3) (gss_cons (gs_asg (ge_call (D__law_any_tome.mono (by decide)) hr g tk (ga_cons (ge_var 1) (ga_nil)) (ln_cons (ln_nil))) (gg_name g 4)) (gss_cons (gs_asg (ge_lst (ga_cons (ge_tup (ga_cons (ge_str) (ga_cons (ge_str) (ga_cons (ge_neg (ge_int)) (ga_cons (ge_pow (ge_int) (ge_int)) (ga_cons (ge_int) (ga_nil))))))) (ga_cons (ge_tup (ga_cons (ge_str) (ga_cons (ge_str) (ga_cons (ge_int) (ga_cons (ge_int) (ga_cons (ge_none) (ga_nil))))))) (ga_nil)))) (gg_name g 5)) (gss_cons (gs_asg (ge_add (ge_var 5) (ge_lst (ga_cons (ge_tup (ga_cons (ge_str) (ga_cons (ge_str) (ga_cons (ge_int) (ga_cons (ge_int) (ga_nil)))))) (ga_cons (ge_tup (ga_cons (ge_str) (ga_cons (ge_str) (ga_cons (ge_str) (ga_nil))))) (ga_nil))))) (gg_name g 5)) (gss_cons (gs_asg (ge_add (ge_var 5) (ge_lst (ga_cons (ge_tup (ga_cons (ge_str) (ga_cons (ge_str) (ga_cons (ge_str) (ga_cons (ge_int) (ga_nil)))))) (ga_cons (ge_tup (ga_cons (ge_str) (ga_cons (ge_str) (ga_cons (ge_pow (ge_int) (ge_int)) (ga_cons (ge_int) (ga_nil)))))) (ga_nil))))) (gg_name g 5)) (gss_cons (gs_asg (ge_add (ge_var 5) (ge_lst (ga_cons (ge_tup (ga_cons (ge_str) (ga_cons (ge_str) (ga_cons (ge_int) (ga_cons (ge_neg (ge_int)) (ga_cons (ge_pow (ge_int) (ge_int)) (ga_nil))))))) (ga_nil)))) (gg_name g 5)) (gss_cons (gs_asg (ge_tup (ga_cons (ge_tup (ga_cons (ge_str) (ga_cons (ge_var 4) (ga_nil)))) (ga_nil))) (gg_name g 6)) (gss_cons (gs_asg (ge_add (ge_var 6) (ge_totuple t.n_tuple (ge_lc [("_law_turn", 7)] (.nm 7) g (gi_range1 t.n_range (ge_call (D__law_draw.mono (by decide)) hr g tk (ga_cons (ge_var 1) (ga_cons (ge_int) (ga_nil))) (ln_cons (ln_cons (ln_nil))))) (blkOk_by (N := N_law) (sc := defScope s_law) (by decide +kernel)) (fun _ _ _ _ _ gB1 => gct_name 7 gB1) (fun _ _ _ _ _ gB1 => gts_nil) (fun _ _ _ _ _ gB1 => ge_call (D__law_any.mono (by decide)) hr gB1 takes0 (ga_cons (ge_var 1) (ga_cons (ge_var 5) (ga_nil))) (ln_cons (ln_cons (ln_nil))))))) (gg_name g 6)) (gss_cons (gs_asg (ge_add (ge_var 2) (ge_lst (ga_cons (ge_var 6) (ga_cons (ge_slice (ge_var 6) (go_some (ge_int)) (go_none)) (ga_cons (ge_tolist t.n_list (ge_var 6)) (ga_cons (ge_add (ge_var 6) (ge_var 6)) (ga_nil))))))) (gg_name g 2)) (gss_cons (gs_asg (ge_add (ge_add (ge_add (ge_var 2) (ge_lst (ga_cons (ge_add (ge_var 6) (ge_mulS (ge_tup (ga_cons (ge_ix g (ge_var 5) (ge_int)) (ga_nil))) (ge_int))) (ga_nil)))) (ge_var 5)) (ge_lst (ga_cons (ge_tolist t.n_list (ge_ix g (ge_var 5) (ge_int))) (ga_nil)))) (gg_name g 2)) (gss_one (gs_for [7, 8, 9] g po (gi_range1 t.n_range (ge_int)) (gg_name g 7) (gss_cons (gs_par2 g (i := 8) (j := 9) (ga_cons (ge_call (D__law_bent.mono (by decide)) hr g tk (ga_cons (ge_var 1) (ga_cons (ge_var 6) (ga_nil))) (ln_cons (ln_cons (ln_nil)))) (ga_cons (ge_call (D__law_bent.mono (by decide)) hr g tk (ga_cons (ge_var 1) (ga_cons (ge_call (D__law_any.mono (by decide)) hr g tk (ga_cons (ge_var 1) (ga_cons (ge_var 5) (ga_nil))) (ln_cons (ln_cons (ln_nil)))) (ga_nil))) (ln_cons (ln_cons (ln_nil)))) (ga_nil))) rfl rfl (by decide) rfl rfl rfl rfl) (gss_one (gs_asg (ge_add (ge_var 2) (ge_lst (ga_cons (ge_var 8) (ga_cons (ge_call (D__law_bent.mono (by decide)) hr g tk (ga_cons (ge_var 1) (ga_cons (ge_var 8) (ga_nil))) (ln_cons (ln_cons (ln_nil)))) (ga_cons (ge_var 9) (ga_cons (ge_call (D__law_bent.mono (by decide)) hr g tk (ga_cons (ge_var 1) (ga_cons (ge_var 9) (ga_nil))) (ln_cons (ln_cons (ln_nil)))) (ga_nil))))))) (gg_name g 2)))))))))))))))) (gss_cons (gs_for [10, 11, 12] g po (gi_iter (ge_var 2)) (gg_name g 10) (gss_cons (gs_par2 g (i := 11) (j := 12) (ga_cons (ge_repr g t.n_repr (ge_var 10)) (ga_cons (ge_lst (ga_cons (ge_repr g t.n_repr (ge_call (D__law_is_diary.mono (by decide)) hr g tk (ga_cons (ge_var 10) (ga_nil)) (ln_cons (ln_nil)))) (ga_cons (ge_repr g t.n_repr (ge_call (D__law_is_event.mono (by decide)) hr g tk (ga_cons (ge_var 10) (ga_nil)) (ln_cons (ln_nil)))) (ga_nil)))) (ga_nil))) rfl rfl (by decide) rfl rfl rfl rfl) (gss_cons (gs_if (gt_bool (gw_or (gt_cmp g (ge_lst (ga_cons (ge_repr g t.n_repr (ge_call (D_is_log.mono (by decide)) hr g tk (ga_cons (ge_var 10) (ga_nil)) (ln_cons (ln_nil)))) (ga_cons (ge_repr g t.n_repr (ge_call (D_is_live_event.mono (by decide)) hr g tk (ga_cons (ge_var 10) (ga_nil)) (ln_cons (ln_nil)))) (ga_nil)))) (ge_var 12)) (gw_or1 (gt_cmp g (ge_repr g t.n_repr (ge_var 10)) (ge_var 11))))) (gss_one (gs_ret (ge_bool))) (gss_nil)) (gss_one (gs_if (gt_cmp g (ge_lst (ga_cons (ge_repr g t.n_repr (ge_callK0 (g' := fun l => l) (D_is_log.mono (by decide)) BK_is_log hr g tk (gk_cons (ge_var 10) (gk_nil)) (ln_cons (ln_nil)))) (ga_cons (ge_repr g t.n_repr (ge_callK0 (g' := fun l => l) (D_is_live_event.mono (by decide)) BK_is_live_event hr g tk (gk_cons (ge_var 10) (gk_nil)) (ln_cons (ln_nil)))) (ga_nil)))) (ge_var 12)) (gss_one (gs_ret (ge_bool))) (gss_nil)))))) (gss_one (gs_ret (ge_bool))))))
end
theorem all_mk {l : PySem.W.OpenLaw} {w : World} {K : PySem.W.Frag} {h : Heap} {mg : Str → Option Value} {fa : Addr} (X : K.In h) (G : h.Ns mainGlobals mg) (hfa : mg "law" = some (.ref fa))
    {f0 : Addr} {od0 an0 : Option Addr} {sl0 : Array (Option Value)} {oc0 kV0 dc0 pm0 cd0 ct0 : Value}
    (a0 : PySem.W.nsIn K mainGlobals "_law_feed" = some (some (.ref f0))) (l0 : K.lookup f0 = some ⟨oc0, od0, .func (PySem.W.fnOf "_law_feed" "_law_feed" (defArgs s__law_feed) (defBody s__law_feed) (defScope s__law_feed) .none kV0 dc0 pm0 an0 cd0 ct0), sl0⟩) (c0 : PySem.W.codeIn K cd0 "_law_feed" = true) (k0 : PySem.W.keepIn K (.ref f0) = true)
    {f1 : Addr} {od1 an1 : Option Addr} {sl1 : Array (Option Value)} {oc1 kV1 dc1 pm1 cd1 ct1 : Value}
    (a1 : PySem.W.nsIn K mainGlobals "_law_draw" = some (some (.ref f1))) (l1 : K.lookup f1 = some ⟨oc1, od1, .func (PySem.W.fnOf "_law_draw" "_law_draw" (defArgs s__law_draw) (defBody s__law_draw) (defScope s__law_draw) .none kV1 dc1 pm1 an1 cd1 ct1), sl1⟩) (c1 : PySem.W.codeIn K cd1 "_law_draw" = true) (k1 : PySem.W.keepIn K (.ref f1) = true)
    {f2 : Addr} {od2 an2 : Option Addr} {sl2 : Array (Option Value)} {oc2 kV2 dc2 pm2 cd2 ct2 : Value}
    (a2 : PySem.W.nsIn K mainGlobals "_law_any" = some (some (.ref f2))) (l2 : K.lookup f2 = some ⟨oc2, od2, .func (PySem.W.fnOf "_law_any" "_law_any" (defArgs s__law_any) (defBody s__law_any) (defScope s__law_any) .none kV2 dc2 pm2 an2 cd2 ct2), sl2⟩) (c2 : PySem.W.codeIn K cd2 "_law_any" = true) (k2 : PySem.W.keepIn K (.ref f2) = true)
    {f3 : Addr} {od3 an3 : Option Addr} {sl3 : Array (Option Value)} {oc3 kV3 dc3 pm3 cd3 ct3 : Value}
    (a3 : PySem.W.nsIn K mainGlobals "_law_any_tome" = some (some (.ref f3))) (l3 : K.lookup f3 = some ⟨oc3, od3, .func (PySem.W.fnOf "_law_any_tome" "_law_any_tome" (defArgs s__law_any_tome) (defBody s__law_any_tome) (defScope s__law_any_tome) .none kV3 dc3 pm3 an3 cd3 ct3), sl3⟩) (c3 : PySem.W.codeIn K cd3 "_law_any_tome" = true) (k3 : PySem.W.keepIn K (.ref f3) = true)
    {f4 : Addr} {od4 an4 : Option Addr} {sl4 : Array (Option Value)} {oc4 kV4 dc4 pm4 cd4 ct4 : Value}
    (a4 : PySem.W.nsIn K mainGlobals "_law_bent" = some (some (.ref f4))) (l4 : K.lookup f4 = some ⟨oc4, od4, .func (PySem.W.fnOf "_law_bent" "_law_bent" (defArgs s__law_bent) (defBody s__law_bent) (defScope s__law_bent) .none kV4 dc4 pm4 an4 cd4 ct4), sl4⟩) (c4 : PySem.W.codeIn K cd4 "_law_bent" = true) (k4 : PySem.W.keepIn K (.ref f4) = true)
    {f5 : Addr} {od5 an5 : Option Addr} {sl5 : Array (Option Value)} {oc5 kV5 dc5 pm5 cd5 ct5 : Value}
    (a5 : PySem.W.nsIn K mainGlobals "_law_is_name" = some (some (.ref f5))) (l5 : K.lookup f5 = some ⟨oc5, od5, .func (PySem.W.fnOf "_law_is_name" "_law_is_name" (defArgs s__law_is_name) (defBody s__law_is_name) (defScope s__law_is_name) .none kV5 dc5 pm5 an5 cd5 ct5), sl5⟩) (c5 : PySem.W.codeIn K cd5 "_law_is_name" = true) (k5 : PySem.W.keepIn K (.ref f5) = true)
    {f6 : Addr} {od6 an6 : Option Addr} {sl6 : Array (Option Value)} {oc6 kV6 dc6 pm6 cd6 ct6 : Value}
    (a6 : PySem.W.nsIn K mainGlobals "_law_is_integer" = some (some (.ref f6))) (l6 : K.lookup f6 = some ⟨oc6, od6, .func (PySem.W.fnOf "_law_is_integer" "_law_is_integer" (defArgs s__law_is_integer) (defBody s__law_is_integer) (defScope s__law_is_integer) .none kV6 dc6 pm6 an6 cd6 ct6), sl6⟩) (c6 : PySem.W.codeIn K cd6 "_law_is_integer" = true) (k6 : PySem.W.keepIn K (.ref f6) = true)
    {f7 : Addr} {od7 an7 : Option Addr} {sl7 : Array (Option Value)} {oc7 kV7 dc7 pm7 cd7 ct7 : Value}
    (a7 : PySem.W.nsIn K mainGlobals "_law_is_number" = some (some (.ref f7))) (l7 : K.lookup f7 = some ⟨oc7, od7, .func (PySem.W.fnOf "_law_is_number" "_law_is_number" (defArgs s__law_is_number) (defBody s__law_is_number) (defScope s__law_is_number) .none kV7 dc7 pm7 an7 cd7 ct7), sl7⟩) (c7 : PySem.W.codeIn K cd7 "_law_is_number" = true) (k7 : PySem.W.keepIn K (.ref f7) = true)
    {f8 : Addr} {od8 an8 : Option Addr} {sl8 : Array (Option Value)} {oc8 kV8 dc8 pm8 cd8 ct8 : Value}
    (a8 : PySem.W.nsIn K mainGlobals "_law_is_event" = some (some (.ref f8))) (l8 : K.lookup f8 = some ⟨oc8, od8, .func (PySem.W.fnOf "_law_is_event" "_law_is_event" (defArgs s__law_is_event) (defBody s__law_is_event) (defScope s__law_is_event) .none kV8 dc8 pm8 an8 cd8 ct8), sl8⟩) (c8 : PySem.W.codeIn K cd8 "_law_is_event" = true) (k8 : PySem.W.keepIn K (.ref f8) = true)
    {f9 : Addr} {od9 an9 : Option Addr} {sl9 : Array (Option Value)} {oc9 kV9 dc9 pm9 cd9 ct9 : Value}
    (a9 : PySem.W.nsIn K mainGlobals "_law_is_tuple" = some (some (.ref f9))) (l9 : K.lookup f9 = some ⟨oc9, od9, .func (PySem.W.fnOf "_law_is_tuple" "_law_is_tuple" (defArgs s__law_is_tuple) (defBody s__law_is_tuple) (defScope s__law_is_tuple) .none kV9 dc9 pm9 an9 cd9 ct9), sl9⟩) (c9 : PySem.W.codeIn K cd9 "_law_is_tuple" = true) (k9 : PySem.W.keepIn K (.ref f9) = true)
    {f10 : Addr} {od10 an10 : Option Addr} {sl10 : Array (Option Value)} {oc10 kV10 dc10 pm10 cd10 ct10 : Value}
    (a10 : PySem.W.nsIn K mainGlobals "_law_is_clock" = some (some (.ref f10))) (l10 : K.lookup f10 = some ⟨oc10, od10, .func (PySem.W.fnOf "_law_is_clock" "_law_is_clock" (defArgs s__law_is_clock) (defBody s__law_is_clock) (defScope s__law_is_clock) .none kV10 dc10 pm10 an10 cd10 ct10), sl10⟩) (c10 : PySem.W.codeIn K cd10 "_law_is_clock" = true) (k10 : PySem.W.keepIn K (.ref f10) = true)
    {f11 : Addr} {od11 an11 : Option Addr} {sl11 : Array (Option Value)} {oc11 kV11 dc11 pm11 cd11 ct11 : Value}
    (a11 : PySem.W.nsIn K mainGlobals "_law_is_way" = some (some (.ref f11))) (l11 : K.lookup f11 = some ⟨oc11, od11, .func (PySem.W.fnOf "_law_is_way" "_law_is_way" (defArgs s__law_is_way) (defBody s__law_is_way) (defScope s__law_is_way) .none kV11 dc11 pm11 an11 cd11 ct11), sl11⟩) (c11 : PySem.W.codeIn K cd11 "_law_is_way" = true) (k11 : PySem.W.keepIn K (.ref f11) = true)
    {f12 : Addr} {od12 an12 : Option Addr} {sl12 : Array (Option Value)} {oc12 kV12 dc12 pm12 cd12 ct12 : Value}
    (a12 : PySem.W.nsIn K mainGlobals "_law_is_tome" = some (some (.ref f12))) (l12 : K.lookup f12 = some ⟨oc12, od12, .func (PySem.W.fnOf "_law_is_tome" "_law_is_tome" (defArgs s__law_is_tome) (defBody s__law_is_tome) (defScope s__law_is_tome) .none kV12 dc12 pm12 an12 cd12 ct12), sl12⟩) (c12 : PySem.W.codeIn K cd12 "_law_is_tome" = true) (k12 : PySem.W.keepIn K (.ref f12) = true)
    {f13 : Addr} {od13 an13 : Option Addr} {sl13 : Array (Option Value)} {oc13 kV13 dc13 pm13 cd13 ct13 : Value}
    (a13 : PySem.W.nsIn K mainGlobals "_law_is_diary" = some (some (.ref f13))) (l13 : K.lookup f13 = some ⟨oc13, od13, .func (PySem.W.fnOf "_law_is_diary" "_law_is_diary" (defArgs s__law_is_diary) (defBody s__law_is_diary) (defScope s__law_is_diary) .none kV13 dc13 pm13 an13 cd13 ct13), sl13⟩) (c13 : PySem.W.codeIn K cd13 "_law_is_diary" = true) (k13 : PySem.W.keepIn K (.ref f13) = true)
    {f14 : Addr} {od14 an14 : Option Addr} {sl14 : Array (Option Value)} {oc14 kV14 dc14 pm14 cd14 ct14 : Value}
    (a14 : PySem.W.nsIn K mainGlobals "is_name" = some (some (.ref f14))) (l14 : K.lookup f14 = some ⟨oc14, od14, .func (PySem.W.fnOf "is_name" "is_name" (defArgs s_is_name) (defBody s_is_name) (defScope s_is_name) .none kV14 dc14 pm14 an14 cd14 ct14), sl14⟩) (c14 : PySem.W.codeIn K cd14 "is_name" = true) (k14 : PySem.W.keepIn K (.ref f14) = true)
    {f15 : Addr} {od15 an15 : Option Addr} {sl15 : Array (Option Value)} {oc15 kV15 dc15 pm15 cd15 ct15 : Value}
    (a15 : PySem.W.nsIn K mainGlobals "is_integer" = some (some (.ref f15))) (l15 : K.lookup f15 = some ⟨oc15, od15, .func (PySem.W.fnOf "is_integer" "is_integer" (defArgs s_is_integer) (defBody s_is_integer) (defScope s_is_integer) .none kV15 dc15 pm15 an15 cd15 ct15), sl15⟩) (c15 : PySem.W.codeIn K cd15 "is_integer" = true) (k15 : PySem.W.keepIn K (.ref f15) = true)
    {f16 : Addr} {od16 an16 : Option Addr} {sl16 : Array (Option Value)} {oc16 kV16 dc16 pm16 cd16 ct16 : Value}
    (a16 : PySem.W.nsIn K mainGlobals "is_number" = some (some (.ref f16))) (l16 : K.lookup f16 = some ⟨oc16, od16, .func (PySem.W.fnOf "is_number" "is_number" (defArgs s_is_number) (defBody s_is_number) (defScope s_is_number) .none kV16 dc16 pm16 an16 cd16 ct16), sl16⟩) (c16 : PySem.W.codeIn K cd16 "is_number" = true) (k16 : PySem.W.keepIn K (.ref f16) = true)
    {f17 : Addr} {od17 an17 : Option Addr} {sl17 : Array (Option Value)} {oc17 kV17 dc17 pm17 cd17 ct17 : Value}
    (a17 : PySem.W.nsIn K mainGlobals "is_rate" = some (some (.ref f17))) (l17 : K.lookup f17 = some ⟨oc17, od17, .func (PySem.W.fnOf "is_rate" "is_rate" (defArgs s_is_rate) (defBody s_is_rate) (defScope s_is_rate) .none kV17 dc17 pm17 an17 cd17 ct17), sl17⟩) (c17 : PySem.W.codeIn K cd17 "is_rate" = true) (k17 : PySem.W.keepIn K (.ref f17) = true)
    {f18 : Addr} {od18 an18 : Option Addr} {sl18 : Array (Option Value)} {oc18 kV18 dc18 pm18 cd18 ct18 : Value}
    (a18 : PySem.W.nsIn K mainGlobals "is_clock" = some (some (.ref f18))) (l18 : K.lookup f18 = some ⟨oc18, od18, .func (PySem.W.fnOf "is_clock" "is_clock" (defArgs s_is_clock) (defBody s_is_clock) (defScope s_is_clock) .none kV18 dc18 pm18 an18 cd18 ct18), sl18⟩) (c18 : PySem.W.codeIn K cd18 "is_clock" = true) (k18 : PySem.W.keepIn K (.ref f18) = true)
    {f19 : Addr} {od19 an19 : Option Addr} {sl19 : Array (Option Value)} {oc19 kV19 dc19 pm19 cd19 ct19 : Value}
    (a19 : PySem.W.nsIn K mainGlobals "is_among" = some (some (.ref f19))) (l19 : K.lookup f19 = some ⟨oc19, od19, .func (PySem.W.fnOf "is_among" "is_among" (defArgs s_is_among) (defBody s_is_among) (defScope s_is_among) .none kV19 dc19 pm19 an19 cd19 ct19), sl19⟩) (c19 : PySem.W.codeIn K cd19 "is_among" = true) (k19 : PySem.W.keepIn K (.ref f19) = true)
    {f20 : Addr} {od20 an20 : Option Addr} {sl20 : Array (Option Value)} {oc20 kV20 dc20 pm20 cd20 ct20 : Value}
    (a20 : PySem.W.nsIn K mainGlobals "is_link" = some (some (.ref f20))) (l20 : K.lookup f20 = some ⟨oc20, od20, .func (PySem.W.fnOf "is_link" "is_link" (defArgs s_is_link) (defBody s_is_link) (defScope s_is_link) .none kV20 dc20 pm20 an20 cd20 ct20), sl20⟩) (c20 : PySem.W.codeIn K cd20 "is_link" = true) (k20 : PySem.W.keepIn K (.ref f20) = true)
    {f21 : Addr} {od21 an21 : Option Addr} {sl21 : Array (Option Value)} {oc21 kV21 dc21 pm21 cd21 ct21 : Value}
    (a21 : PySem.W.nsIn K mainGlobals "is_rule" = some (some (.ref f21))) (l21 : K.lookup f21 = some ⟨oc21, od21, .func (PySem.W.fnOf "is_rule" "is_rule" (defArgs s_is_rule) (defBody s_is_rule) (defScope s_is_rule) .none kV21 dc21 pm21 an21 cd21 ct21), sl21⟩) (c21 : PySem.W.codeIn K cd21 "is_rule" = true) (k21 : PySem.W.keepIn K (.ref f21) = true)
    {f22 : Addr} {od22 an22 : Option Addr} {sl22 : Array (Option Value)} {oc22 kV22 dc22 pm22 cd22 ct22 : Value}
    (a22 : PySem.W.nsIn K mainGlobals "cluster_fault" = some (some (.ref f22))) (l22 : K.lookup f22 = some ⟨oc22, od22, .func (PySem.W.fnOf "cluster_fault" "cluster_fault" (defArgs s_cluster_fault) (defBody s_cluster_fault) (defScope s_cluster_fault) .none kV22 dc22 pm22 an22 cd22 ct22), sl22⟩) (c22 : PySem.W.codeIn K cd22 "cluster_fault" = true) (k22 : PySem.W.keepIn K (.ref f22) = true)
    {f23 : Addr} {od23 an23 : Option Addr} {sl23 : Array (Option Value)} {oc23 kV23 dc23 pm23 cd23 ct23 : Value}
    (a23 : PySem.W.nsIn K mainGlobals "is_cluster" = some (some (.ref f23))) (l23 : K.lookup f23 = some ⟨oc23, od23, .func (PySem.W.fnOf "is_cluster" "is_cluster" (defArgs s_is_cluster) (defBody s_is_cluster) (defScope s_is_cluster) .none kV23 dc23 pm23 an23 cd23 ct23), sl23⟩) (c23 : PySem.W.codeIn K cd23 "is_cluster" = true) (k23 : PySem.W.keepIn K (.ref f23) = true)
    {f24 : Addr} {od24 an24 : Option Addr} {sl24 : Array (Option Value)} {oc24 kV24 dc24 pm24 cd24 ct24 : Value}
    (a24 : PySem.W.nsIn K mainGlobals "is_log_head" = some (some (.ref f24))) (l24 : K.lookup f24 = some ⟨oc24, od24, .func (PySem.W.fnOf "is_log_head" "is_log_head" (defArgs s_is_log_head) (defBody s_is_log_head) (defScope s_is_log_head) .none kV24 dc24 pm24 an24 cd24 ct24), sl24⟩) (c24 : PySem.W.codeIn K cd24 "is_log_head" = true) (k24 : PySem.W.keepIn K (.ref f24) = true)
    {f25 : Addr} {od25 an25 : Option Addr} {sl25 : Array (Option Value)} {oc25 kV25 dc25 pm25 cd25 ct25 : Value}
    (a25 : PySem.W.nsIn K mainGlobals "is_letter" = some (some (.ref f25))) (l25 : K.lookup f25 = some ⟨oc25, od25, .func (PySem.W.fnOf "is_letter" "is_letter" (defArgs s_is_letter) (defBody s_is_letter) (defScope s_is_letter) .none kV25 dc25 pm25 an25 cd25 ct25), sl25⟩) (c25 : PySem.W.codeIn K cd25 "is_letter" = true) (k25 : PySem.W.keepIn K (.ref f25) = true)
    {f26 : Addr} {od26 an26 : Option Addr} {sl26 : Array (Option Value)} {oc26 kV26 dc26 pm26 cd26 ct26 : Value}
    (a26 : PySem.W.nsIn K mainGlobals "is_told" = some (some (.ref f26))) (l26 : K.lookup f26 = some ⟨oc26, od26, .func (PySem.W.fnOf "is_told" "is_told" (defArgs s_is_told) (defBody s_is_told) (defScope s_is_told) .none kV26 dc26 pm26 an26 cd26 ct26), sl26⟩) (c26 : PySem.W.codeIn K cd26 "is_told" = true) (k26 : PySem.W.keepIn K (.ref f26) = true)
    {f27 : Addr} {od27 an27 : Option Addr} {sl27 : Array (Option Value)} {oc27 kV27 dc27 pm27 cd27 ct27 : Value}
    (a27 : PySem.W.nsIn K mainGlobals "is_clocked" = some (some (.ref f27))) (l27 : K.lookup f27 = some ⟨oc27, od27, .func (PySem.W.fnOf "is_clocked" "is_clocked" (defArgs s_is_clocked) (defBody s_is_clocked) (defScope s_is_clocked) .none kV27 dc27 pm27 an27 cd27 ct27), sl27⟩) (c27 : PySem.W.codeIn K cd27 "is_clocked" = true) (k27 : PySem.W.keepIn K (.ref f27) = true)
    {f28 : Addr} {od28 an28 : Option Addr} {sl28 : Array (Option Value)} {oc28 kV28 dc28 pm28 cd28 ct28 : Value}
    (a28 : PySem.W.nsIn K mainGlobals "are_two" = some (some (.ref f28))) (l28 : K.lookup f28 = some ⟨oc28, od28, .func (PySem.W.fnOf "are_two" "are_two" (defArgs s_are_two) (defBody s_are_two) (defScope s_are_two) .none kV28 dc28 pm28 an28 cd28 ct28), sl28⟩) (c28 : PySem.W.codeIn K cd28 "are_two" = true) (k28 : PySem.W.keepIn K (.ref f28) = true)
    {f29 : Addr} {od29 an29 : Option Addr} {sl29 : Array (Option Value)} {oc29 kV29 dc29 pm29 cd29 ct29 : Value}
    (a29 : PySem.W.nsIn K mainGlobals "is_led" = some (some (.ref f29))) (l29 : K.lookup f29 = some ⟨oc29, od29, .func (PySem.W.fnOf "is_led" "is_led" (defArgs s_is_led) (defBody s_is_led) (defScope s_is_led) .none kV29 dc29 pm29 an29 cd29 ct29), sl29⟩) (c29 : PySem.W.codeIn K cd29 "is_led" = true) (k29 : PySem.W.keepIn K (.ref f29) = true)
    {f30 : Addr} {od30 an30 : Option Addr} {sl30 : Array (Option Value)} {oc30 kV30 dc30 pm30 cd30 ct30 : Value}
    (a30 : PySem.W.nsIn K mainGlobals "is_live_event" = some (some (.ref f30))) (l30 : K.lookup f30 = some ⟨oc30, od30, .func (PySem.W.fnOf "is_live_event" "is_live_event" (defArgs s_is_live_event) (defBody s_is_live_event) (defScope s_is_live_event) .none kV30 dc30 pm30 an30 cd30 ct30), sl30⟩) (c30 : PySem.W.codeIn K cd30 "is_live_event" = true) (k30 : PySem.W.keepIn K (.ref f30) = true)
    {f31 : Addr} {od31 an31 : Option Addr} {sl31 : Array (Option Value)} {oc31 kV31 dc31 pm31 cd31 ct31 : Value}
    (a31 : PySem.W.nsIn K mainGlobals "is_log_form" = some (some (.ref f31))) (l31 : K.lookup f31 = some ⟨oc31, od31, .func (PySem.W.fnOf "is_log_form" "is_log_form" (defArgs s_is_log_form) (defBody s_is_log_form) (defScope s_is_log_form) .none kV31 dc31 pm31 an31 cd31 ct31), sl31⟩) (c31 : PySem.W.codeIn K cd31 "is_log_form" = true) (k31 : PySem.W.keepIn K (.ref f31) = true)
    {f32 : Addr} {od32 an32 : Option Addr} {sl32 : Array (Option Value)} {oc32 kV32 dc32 pm32 cd32 ct32 : Value}
    (a32 : PySem.W.nsIn K mainGlobals "is_log" = some (some (.ref f32))) (l32 : K.lookup f32 = some ⟨oc32, od32, .func (PySem.W.fnOf "is_log" "is_log" (defArgs s_is_log) (defBody s_is_log) (defScope s_is_log) .none kV32 dc32 pm32 an32 cd32 ct32), sl32⟩) (c32 : PySem.W.codeIn K cd32 "is_log" = true) (k32 : PySem.W.keepIn K (.ref f32) = true)
    {f33 : Addr} {od33 an33 : Option Addr} {sl33 : Array (Option Value)} {oc33 kV33 dc33 pm33 cd33 ct33 : Value}
    (a33 : PySem.W.nsIn K mainGlobals "law" = some (some (.ref f33))) (l33 : K.lookup f33 = some ⟨oc33, od33, .func (PySem.W.fnOf "law" "law" (defArgs s_law) (defBody s_law) (defScope s_law) .none kV33 dc33 pm33 an33 cd33 ct33), sl33⟩) (c33 : PySem.W.codeIn K cd33 "law" = true) (k33 : PySem.W.keepIn K (.ref f33) = true)
    (z_all : PySem.W.nsIn K mainGlobals "all" = some none)
    (z_bool : PySem.W.nsIn K mainGlobals "bool" = some none)
    (z_enumerate : PySem.W.nsIn K mainGlobals "enumerate" = some none)
    (z_int : PySem.W.nsIn K mainGlobals "int" = some none)
    (z_isinstance : PySem.W.nsIn K mainGlobals "isinstance" = some none)
    (z_len : PySem.W.nsIn K mainGlobals "len" = some none)
    (z_list : PySem.W.nsIn K mainGlobals "list" = some none)
    (z_range : PySem.W.nsIn K mainGlobals "range" = some none)
    (z_repr : PySem.W.nsIn K mainGlobals "repr" = some none)
    (z_str : PySem.W.nsIn K mainGlobals "str" = some none)
    (z_tuple : PySem.W.nsIn K mainGlobals "tuple" = some none)
    {t_LETTERS : Tok} (g_LETTERS : PySem.W.nsIn K mainGlobals "LETTERS" = some (some (.str "abcdefghijklmnopqrstuvwxyz" t_LETTERS)))
    {t0_RULES t1_RULES : Tok} {ga_RULES : Addr} {gd_RULES : Option Addr} {gn_RULES : Nat} {gs_RULES : Array (Option Value)} (g_RULES : PySem.W.nsIn K mainGlobals "RULES" = some (some (.ref ga_RULES))) (gl_RULES : K.lookup ga_RULES = some ⟨.type "tuple", gd_RULES, .seq #[.str "more" t0_RULES, .str "wait" t1_RULES] gn_RULES, gs_RULES⟩)
    : ∃ fd : FuncData, (∀ (s : Shared) (v : Value), BindsTo s fd ⟨[v], []⟩ [("_law_script", v)]) ∧ ∀ base : Heap, K.In base → base.Ns mainGlobals mg → FnG l.prog w K mg base 28 fa fd ["_law_script"] F_law := by
  have F0 := fun_mk (x := "_law_feed") (qual := "_law_feed") (st := s__law_feed) l0 c0 k0
  have b0 := F0.binds (ps := ["_law_script"]) fun _ _ _ _ _ _ us hl => match us, hl with | [_], _ => rfl
  have F1 := fun_mk (x := "_law_draw") (qual := "_law_draw") (st := s__law_draw) l1 c1 k1
  have b1 := F1.binds (ps := ["_law_feed_here", "_law_many"]) fun _ _ _ _ _ _ us hl => match us, hl with | [_, _], _ => rfl
  have F2 := fun_mk (x := "_law_any") (qual := "_law_any") (st := s__law_any) l2 c2 k2
  have b2 := F2.binds (ps := ["_law_feed_here", "_law_some"]) fun _ _ _ _ _ _ us hl => match us, hl with | [_, _], _ => rfl
  have F3 := fun_mk (x := "_law_any_tome") (qual := "_law_any_tome") (st := s__law_any_tome) l3 c3 k3
  have b3 := F3.binds (ps := ["_law_feed_here"]) fun _ _ _ _ _ _ us hl => match us, hl with | [_], _ => rfl
  have F4 := fun_mk (x := "_law_bent") (qual := "_law_bent") (st := s__law_bent) l4 c4 k4
  have b4 := F4.binds (ps := ["_law_feed_here", "_law_item"]) fun _ _ _ _ _ _ us hl => match us, hl with | [_, _], _ => rfl
  have F5 := fun_mk (x := "_law_is_name") (qual := "_law_is_name") (st := s__law_is_name) l5 c5 k5
  have b5 := F5.binds (ps := ["_law_item"]) fun _ _ _ _ _ _ us hl => match us, hl with | [_], _ => rfl
  have F6 := fun_mk (x := "_law_is_integer") (qual := "_law_is_integer") (st := s__law_is_integer) l6 c6 k6
  have b6 := F6.binds (ps := ["_law_item"]) fun _ _ _ _ _ _ us hl => match us, hl with | [_], _ => rfl
  have F7 := fun_mk (x := "_law_is_number") (qual := "_law_is_number") (st := s__law_is_number) l7 c7 k7
  have b7 := F7.binds (ps := ["_law_item"]) fun _ _ _ _ _ _ us hl => match us, hl with | [_], _ => rfl
  have F8 := fun_mk (x := "_law_is_event") (qual := "_law_is_event") (st := s__law_is_event) l8 c8 k8
  have b8 := F8.binds (ps := ["_law_item"]) fun _ _ _ _ _ _ us hl => match us, hl with | [_], _ => rfl
  have F9 := fun_mk (x := "_law_is_tuple") (qual := "_law_is_tuple") (st := s__law_is_tuple) l9 c9 k9
  have b9 := F9.binds (ps := ["_law_item", "_law_size"]) fun _ _ _ _ _ _ us hl => match us, hl with | [_, _], _ => rfl
  have F10 := fun_mk (x := "_law_is_clock") (qual := "_law_is_clock") (st := s__law_is_clock) l10 c10 k10
  have b10 := F10.binds (ps := ["_law_item"]) fun _ _ _ _ _ _ us hl => match us, hl with | [_], _ => rfl
  have F11 := fun_mk (x := "_law_is_way") (qual := "_law_is_way") (st := s__law_is_way) l11 c11 k11
  have b11 := F11.binds (ps := ["_law_item", "_law_titles"]) fun _ _ _ _ _ _ us hl => match us, hl with | [_, _], _ => rfl
  have F12 := fun_mk (x := "_law_is_tome") (qual := "_law_is_tome") (st := s__law_is_tome) l12 c12 k12
  have b12 := F12.binds (ps := ["_law_item"]) fun _ _ _ _ _ _ us hl => match us, hl with | [_], _ => rfl
  have F13 := fun_mk (x := "_law_is_diary") (qual := "_law_is_diary") (st := s__law_is_diary) l13 c13 k13
  have b13 := F13.binds (ps := ["_law_item"]) fun _ _ _ _ _ _ us hl => match us, hl with | [_], _ => rfl
  have F14 := fun_mk (x := "is_name") (qual := "is_name") (st := s_is_name) l14 c14 k14
  have b14 := F14.binds (ps := ["thing"]) fun _ _ _ _ _ _ us hl => match us, hl with | [_], _ => rfl
  have F15 := fun_mk (x := "is_integer") (qual := "is_integer") (st := s_is_integer) l15 c15 k15
  have b15 := F15.binds (ps := ["thing"]) fun _ _ _ _ _ _ us hl => match us, hl with | [_], _ => rfl
  have F16 := fun_mk (x := "is_number") (qual := "is_number") (st := s_is_number) l16 c16 k16
  have b16 := F16.binds (ps := ["thing"]) fun _ _ _ _ _ _ us hl => match us, hl with | [_], _ => rfl
  have F17 := fun_mk (x := "is_rate") (qual := "is_rate") (st := s_is_rate) l17 c17 k17
  have b17 := F17.binds (ps := ["thing"]) fun _ _ _ _ _ _ us hl => match us, hl with | [_], _ => rfl
  have F18 := fun_mk (x := "is_clock") (qual := "is_clock") (st := s_is_clock) l18 c18 k18
  have b18 := F18.binds (ps := ["thing"]) fun _ _ _ _ _ _ us hl => match us, hl with | [_], _ => rfl
  have F19 := fun_mk (x := "is_among") (qual := "is_among") (st := s_is_among) l19 c19 k19
  have b19 := F19.binds (ps := ["thing", "names"]) fun _ _ _ _ _ _ us hl => match us, hl with | [_, _], _ => rfl
  have F20 := fun_mk (x := "is_link") (qual := "is_link") (st := s_is_link) l20 c20 k20
  have b20 := F20.binds (ps := ["names", "thing"]) fun _ _ _ _ _ _ us hl => match us, hl with | [_, _], _ => rfl
  have F21 := fun_mk (x := "is_rule") (qual := "is_rule") (st := s_is_rule) l21 c21 k21
  have b21 := F21.binds (ps := ["thing"]) fun _ _ _ _ _ _ us hl => match us, hl with | [_], _ => rfl
  have F22 := fun_mk (x := "cluster_fault") (qual := "cluster_fault") (st := s_cluster_fault) l22 c22 k22
  have b22 := F22.binds (ps := ["thing"]) fun _ _ _ _ _ _ us hl => match us, hl with | [_], _ => rfl
  have F23 := fun_mk (x := "is_cluster") (qual := "is_cluster") (st := s_is_cluster) l23 c23 k23
  have b23 := F23.binds (ps := ["thing"]) fun _ _ _ _ _ _ us hl => match us, hl with | [_], _ => rfl
  have F24 := fun_mk (x := "is_log_head") (qual := "is_log_head") (st := s_is_log_head) l24 c24 k24
  have b24 := F24.binds (ps := ["thing"]) fun _ _ _ _ _ _ us hl => match us, hl with | [_], _ => rfl
  have F25 := fun_mk (x := "is_letter") (qual := "is_letter") (st := s_is_letter) l25 c25 k25
  have b25 := F25.binds (ps := ["thing"]) fun _ _ _ _ _ _ us hl => match us, hl with | [_], _ => rfl
  have F26 := fun_mk (x := "is_told") (qual := "is_told") (st := s_is_told) l26 c26 k26
  have b26 := F26.binds (ps := ["parts"]) fun _ _ _ _ _ _ us hl => match us, hl with | [_], _ => rfl
  have F27 := fun_mk (x := "is_clocked") (qual := "is_clocked") (st := s_is_clocked) l27 c27 k27
  have b27 := F27.binds (ps := ["parts"]) fun _ _ _ _ _ _ us hl => match us, hl with | [_], _ => rfl
  have F28 := fun_mk (x := "are_two") (qual := "are_two") (st := s_are_two) l28 c28 k28
  have b28 := F28.binds (ps := ["one", "other"]) fun _ _ _ _ _ _ us hl => match us, hl with | [_, _], _ => rfl
  have F29 := fun_mk (x := "is_led") (qual := "is_led") (st := s_is_led) l29 c29 k29
  have b29 := F29.binds (ps := ["parts"]) fun _ _ _ _ _ _ us hl => match us, hl with | [_], _ => rfl
  have F30 := fun_mk (x := "is_live_event") (qual := "is_live_event") (st := s_is_live_event) l30 c30 k30
  have b30 := F30.binds (ps := ["thing"]) fun _ _ _ _ _ _ us hl => match us, hl with | [_], _ => rfl
  have bk30 := bk_of (ps := ["thing"]) F30 fun _ _ _ _ _ _ us hl => match us, hl with | [_], _ => rfl
  have F31 := fun_mk (x := "is_log_form") (qual := "is_log_form") (st := s_is_log_form) l31 c31 k31
  have b31 := F31.binds (ps := ["thing"]) fun _ _ _ _ _ _ us hl => match us, hl with | [_], _ => rfl
  have F32 := fun_mk (x := "is_log") (qual := "is_log") (st := s_is_log) l32 c32 k32
  have b32 := F32.binds (ps := ["thing"]) fun _ _ _ _ _ _ us hl => match us, hl with | [_], _ => rfl
  have bk32 := bk_of (ps := ["thing"]) F32 fun _ _ _ _ _ _ us hl => match us, hl with | [_], _ => rfl
  have F33 := fun_mk (x := "law") (qual := "law") (st := s_law) l33 c33 k33
  have T : Tx K mg := {
    d__law_feed := ⟨_, _, F0, PySem.W.mg_of X G a0, b0⟩
    d__law_draw := ⟨_, _, F1, PySem.W.mg_of X G a1, b1⟩
    d__law_any := ⟨_, _, F2, PySem.W.mg_of X G a2, b2⟩
    d__law_any_tome := ⟨_, _, F3, PySem.W.mg_of X G a3, b3⟩
    d__law_bent := ⟨_, _, F4, PySem.W.mg_of X G a4, b4⟩
    d__law_is_name := ⟨_, _, F5, PySem.W.mg_of X G a5, b5⟩
    d__law_is_integer := ⟨_, _, F6, PySem.W.mg_of X G a6, b6⟩
    d__law_is_number := ⟨_, _, F7, PySem.W.mg_of X G a7, b7⟩
    d__law_is_event := ⟨_, _, F8, PySem.W.mg_of X G a8, b8⟩
    d__law_is_tuple := ⟨_, _, F9, PySem.W.mg_of X G a9, b9⟩
    d__law_is_clock := ⟨_, _, F10, PySem.W.mg_of X G a10, b10⟩
    d__law_is_way := ⟨_, _, F11, PySem.W.mg_of X G a11, b11⟩
    d__law_is_tome := ⟨_, _, F12, PySem.W.mg_of X G a12, b12⟩
    d__law_is_diary := ⟨_, _, F13, PySem.W.mg_of X G a13, b13⟩
    d_is_name := ⟨_, _, F14, PySem.W.mg_of X G a14, b14⟩
    d_is_integer := ⟨_, _, F15, PySem.W.mg_of X G a15, b15⟩
    d_is_number := ⟨_, _, F16, PySem.W.mg_of X G a16, b16⟩
    d_is_rate := ⟨_, _, F17, PySem.W.mg_of X G a17, b17⟩
    d_is_clock := ⟨_, _, F18, PySem.W.mg_of X G a18, b18⟩
    d_is_among := ⟨_, _, F19, PySem.W.mg_of X G a19, b19⟩
    d_is_link := ⟨_, _, F20, PySem.W.mg_of X G a20, b20⟩
    d_is_rule := ⟨_, _, F21, PySem.W.mg_of X G a21, b21⟩
    d_cluster_fault := ⟨_, _, F22, PySem.W.mg_of X G a22, b22⟩
    d_is_cluster := ⟨_, _, F23, PySem.W.mg_of X G a23, b23⟩
    d_is_log_head := ⟨_, _, F24, PySem.W.mg_of X G a24, b24⟩
    d_is_letter := ⟨_, _, F25, PySem.W.mg_of X G a25, b25⟩
    d_is_told := ⟨_, _, F26, PySem.W.mg_of X G a26, b26⟩
    d_is_clocked := ⟨_, _, F27, PySem.W.mg_of X G a27, b27⟩
    d_are_two := ⟨_, _, F28, PySem.W.mg_of X G a28, b28⟩
    d_is_led := ⟨_, _, F29, PySem.W.mg_of X G a29, b29⟩
    d_is_live_event := ⟨_, _, F30, PySem.W.mg_of X G a30, b30, bk30⟩
    d_is_log_form := ⟨_, _, F31, PySem.W.mg_of X G a31, b31⟩
    d_is_log := ⟨_, _, F32, PySem.W.mg_of X G a32, b32, bk32⟩
    n_all := PySem.W.mg_none_of X G z_all
    n_bool := PySem.W.mg_none_of X G z_bool
    n_enumerate := PySem.W.mg_none_of X G z_enumerate
    n_int := PySem.W.mg_none_of X G z_int
    n_isinstance := PySem.W.mg_none_of X G z_isinstance
    n_len := PySem.W.mg_none_of X G z_len
    n_list := PySem.W.mg_none_of X G z_list
    n_range := PySem.W.mg_none_of X G z_range
    n_repr := PySem.W.mg_none_of X G z_repr
    n_str := PySem.W.mg_none_of X G z_str
    n_tuple := PySem.W.mg_none_of X G z_tuple
    c_LETTERS := ⟨_, V.str "abcdefghijklmnopqrstuvwxyz", PySem.W.mg_of X G g_LETTERS, ⟨_, rfl⟩, fun W => rfl⟩
    c_RULES := ⟨_, .ref ga_RULES, PySem.W.mg_of X G g_RULES, rfl, fun W => ⟨ga_RULES, [V.str "more", V.str "wait"], rfl, .inr ⟨_, _, _, gl_RULES, rfl, rfl, (by show 2 ≤ sizeLine; decide), .cons ⟨_, rfl⟩ (.cons ⟨_, rfl⟩ (.nil))⟩, ⟨_, _, rfl, rfl, ⟨_, _, rfl, rfl, rfl⟩⟩⟩⟩ }
  have e := hfa.symm.trans (PySem.W.mg_of X G a33)
  cases e
  exact ⟨_, bl_of F33 fun _ _ _ _ _ _ _ => rfl, fun base _ _ => h_law T F33⟩
end Gstampahead_k75_logs_told
open PySem PySem.W PyProof.Rows
set_option maxRecDepth 100000 in
set_option maxHeartbeats 0 in
theorem PySem.Challenge.cw_stampahead_k75_logs_told_holds : PySem.Challenge.rw_stampahead_k75_logs_told.Holds := by
  w_on; o_law; k_head; (case hw => w_witness2)
  k_fill
  refine Pv.walk_G (l := PySem.Challenge.rw_stampahead_k75_logs_told) (k := 28) (x := "_law_script") (F := Gstampahead_k75_logs_told.F_law) rfl (by decide) rfl ⟨rfl, by decide, by decide⟩ (fun w h Y => PySem.W.kIn_of Y) ?F Gstampahead_k75_logs_told.law_ok
  case F =>
    intro w mg fa h KX G hmg
    refine' Gstampahead_k75_logs_told.all_mk KX G hmg ?a0 ?l0 ?c0 ?k0 ?a1 ?l1 ?c1 ?k1 ?a2 ?l2 ?c2 ?k2 ?a3 ?l3 ?c3 ?k3 ?a4 ?l4 ?c4 ?k4 ?a5 ?l5 ?c5 ?k5 ?a6 ?l6 ?c6 ?k6 ?a7 ?l7 ?c7 ?k7 ?a8 ?l8 ?c8 ?k8 ?a9 ?l9 ?c9 ?k9 ?a10 ?l10 ?c10 ?k10 ?a11 ?l11 ?c11 ?k11 ?a12 ?l12 ?c12 ?k12 ?a13 ?l13 ?c13 ?k13 ?a14 ?l14 ?c14 ?k14 ?a15 ?l15 ?c15 ?k15 ?a16 ?l16 ?c16 ?k16 ?a17 ?l17 ?c17 ?k17 ?a18 ?l18 ?c18 ?k18 ?a19 ?l19 ?c19 ?k19 ?a20 ?l20 ?c20 ?k20 ?a21 ?l21 ?c21 ?k21 ?a22 ?l22 ?c22 ?k22 ?a23 ?l23 ?c23 ?k23 ?a24 ?l24 ?c24 ?k24 ?a25 ?l25 ?c25 ?k25 ?a26 ?l26 ?c26 ?k26 ?a27 ?l27 ?c27 ?k27 ?a28 ?l28 ?c28 ?k28 ?a29 ?l29 ?c29 ?k29 ?a30 ?l30 ?c30 ?k30 ?a31 ?l31 ?c31 ?k31 ?a32 ?l32 ?c32 ?k32 ?a33 ?l33 ?c33 ?k33 ?z_all ?z_bool ?z_enumerate ?z_int ?z_isinstance ?z_len ?z_list ?z_range ?z_repr ?z_str ?z_tuple ?g_LETTERS ?g_RULES ?gl_RULES
    case a0 => k_is
    case l0 => k_is
    case c0 => k_is
    case k0 => k_is
    case a1 => k_is
    case l1 => k_is
    case c1 => k_is
    case k1 => k_is
    case a2 => k_is
    case l2 => k_is
    case c2 => k_is
    case k2 => k_is
    case a3 => k_is
    case l3 => k_is
    case c3 => k_is
    case k3 => k_is
    case a4 => k_is
    case l4 => k_is
    case c4 => k_is
    case k4 => k_is
    case a5 => k_is
    case l5 => k_is
    case c5 => k_is
    case k5 => k_is
    case a6 => k_is
    case l6 => k_is
    case c6 => k_is
    case k6 => k_is
    case a7 => k_is
    case l7 => k_is
    case c7 => k_is
    case k7 => k_is
    case a8 => k_is
    case l8 => k_is
    case c8 => k_is
    case k8 => k_is
    case a9 => k_is
    case l9 => k_is
    case c9 => k_is
    case k9 => k_is
    case a10 => k_is
    case l10 => k_is
    case c10 => k_is
    case k10 => k_is
    case a11 => k_is
    case l11 => k_is
    case c11 => k_is
    case k11 => k_is
    case a12 => k_is
    case l12 => k_is
    case c12 => k_is
    case k12 => k_is
    case a13 => k_is
    case l13 => k_is
    case c13 => k_is
    case k13 => k_is
    case a14 => k_is
    case l14 => k_is
    case c14 => k_is
    case k14 => k_is
    case a15 => k_is
    case l15 => k_is
    case c15 => k_is
    case k15 => k_is
    case a16 => k_is
    case l16 => k_is
    case c16 => k_is
    case k16 => k_is
    case a17 => k_is
    case l17 => k_is
    case c17 => k_is
    case k17 => k_is
    case a18 => k_is
    case l18 => k_is
    case c18 => k_is
    case k18 => k_is
    case a19 => k_is
    case l19 => k_is
    case c19 => k_is
    case k19 => k_is
    case a20 => k_is
    case l20 => k_is
    case c20 => k_is
    case k20 => k_is
    case a21 => k_is
    case l21 => k_is
    case c21 => k_is
    case k21 => k_is
    case a22 => k_is
    case l22 => k_is
    case c22 => k_is
    case k22 => k_is
    case a23 => k_is
    case l23 => k_is
    case c23 => k_is
    case k23 => k_is
    case a24 => k_is
    case l24 => k_is
    case c24 => k_is
    case k24 => k_is
    case a25 => k_is
    case l25 => k_is
    case c25 => k_is
    case k25 => k_is
    case a26 => k_is
    case l26 => k_is
    case c26 => k_is
    case k26 => k_is
    case a27 => k_is
    case l27 => k_is
    case c27 => k_is
    case k27 => k_is
    case a28 => k_is
    case l28 => k_is
    case c28 => k_is
    case k28 => k_is
    case a29 => k_is
    case l29 => k_is
    case c29 => k_is
    case k29 => k_is
    case a30 => k_is
    case l30 => k_is
    case c30 => k_is
    case k30 => k_is
    case a31 => k_is
    case l31 => k_is
    case c31 => k_is
    case k31 => k_is
    case a32 => k_is
    case l32 => k_is
    case c32 => k_is
    case k32 => k_is
    case a33 => k_is
    case l33 => k_is
    case c33 => k_is
    case k33 => k_is
    case z_all => k_is
    case z_bool => k_is
    case z_enumerate => k_is
    case z_int => k_is
    case z_isinstance => k_is
    case z_len => k_is
    case z_list => k_is
    case z_range => k_is
    case z_repr => k_is
    case z_str => k_is
    case z_tuple => k_is
    case g_LETTERS => k_is
    case g_RULES => k_is
    case gl_RULES => k_is
#print axioms PySem.Challenge.cw_stampahead_k75_logs_told_holds
